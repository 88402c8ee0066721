import PyProof.Rows.All
import Wide.All
import OpenK.AllK
import Wide.FinOn
import Lean
import PySem.Challenge.RW_nt0120_01
open PySem PySem.Spec PySem.Calls PySem.W PyProof.Rows
set_option Elab.async false
set_option maxRecDepth 100000
set_option linter.all false
set_option compiler.extract_closed false
namespace Mine
/-! ## CW -/
section
open PySem.Sem (wp)
/-- the goal out of sight: what is taken apart meanwhile copies no goal -/
theorem hide {P : Prop} (k : ∀ G : Prop, (P → G) → G) : P := k P id
/-! A logic for contexts in which no decoder is under way. -/
def decC : Code → Bool
  | .builtin id _ => Builtin.Bytes.decodersThatHold.contains id
  | _ => false
def Clean (l : List (Code × Pos)) : Prop := ∀ q ∈ l, decC q.1 = false
theorem Clean.cons {c : Code} {p : Pos} {l : List (Code × Pos)} (hc : decC c = false) (h : Clean l) : Clean ((c, p) :: l) := fun q hq => by
  rcases List.mem_cons.mp hq with rfl | hq
  · exact hc
  · exact h q hq
def wpC {α : Type} (M : Model) (A : Around) (t : Sem α) (Q : α → Shared → Prop) (E : Value → Shared → Prop) (s : Shared) : Prop :=
  ∀ Γ p, Γ.In A → decC Γ.code = false → Clean Γ.below → wp M Γ t (fun a _ s' => Q a s') (fun e _ s' => E e s') p s
def codeC (M : Model) (A : Around) (c : Code) (R : Result → Shared → Prop) (s : Shared) : Prop :=
  ∀ Γ p, Γ.code = c → Γ.Below A → Clean Γ.below → wpCode M Γ R p s
section
variable {α β : Type} {M : Model} {A : Around} {E : Value → Shared → Prop} {s : Shared}
theorem wpC_any {t : Sem α} {Q : α → Shared → Prop} (h : wpAny M A t Q E s) : wpC M A t Q E s := fun Γ p hΓ _ _ => h Γ p hΓ
theorem codeC_any {c : Code} {R : Result → Shared → Prop} (h : codeAny M A c R s) : codeC M A c R s := fun Γ p hc hΓ _ => h Γ p hc hΓ
theorem wpC_mono {t : Sem α} {Q Q' : α → Shared → Prop} {E' : Value → Shared → Prop} (h : wpC M A t Q E s) (hQ : ∀ a s, Q a s → Q' a s) (hE : ∀ e s, E e s → E' e s) : wpC M A t Q' E' s :=
  fun Γ p hΓ hd hc => Sem.wp_mono M Γ t (fun a _ s => hQ a s) (fun e _ s => hE e s) p s (h Γ p hΓ hd hc)
theorem codeC_mono {c : Code} {R R' : Result → Shared → Prop} (h : codeC M A c R s) (hR : ∀ r s, R r s → R' r s) : codeC M A c R' s :=
  fun Γ p hc hΓ hb => wpCode_mono hR (h Γ p hc hΓ hb)
theorem wpC_pure {a : α} {Q : α → Shared → Prop} (h : Q a s) : wpC M A (pure a) Q E s := fun _ _ _ _ _ => h
theorem wpC_bind {m : Sem α} {f : α → Sem β} {Q : β → Shared → Prop} (h : wpC M A m (fun a s' => wpC M A (f a) Q E s') E s) : wpC M A (m >>= f) Q E s :=
  fun Γ p hΓ hd hb => by
    rw [Sem.wp_bind']
    exact Sem.wp_mono M Γ m (fun a p' s' h' => h' Γ p' hΓ hd hb) (fun _ _ _ h' => h') p s (h Γ p hΓ hd hb)
/-- the first part needs no clean stack -/
theorem wpC_bindA {m : Sem α} {f : α → Sem β} {Q : β → Shared → Prop} (h : wpAny M A m (fun a s' => wpC M A (f a) Q E s') E s) : wpC M A (m >>= f) Q E s := wpC_bind (wpC_any h)
theorem wpC_holding {vs : List Value} {m : Sem α} {Q : α → Shared → Prop} (h : wpC M A m Q E s) : wpC M A (holding vs m) Q E s :=
  fun Γ p hΓ hd hb => by rw [Sem.wp_holding]; exact h Γ p hΓ hd hb
theorem wpC_eq {m : Sem α} {a : α} {Q : α → Shared → Prop} (e : m = pure a) (h : Q a s) : wpC M A m Q E s := e ▸ wpC_pure h
theorem wpC_onRaise {m : Sem α} {k : Value → Sem Unit} {Q : α → Shared → Prop} (h : wpC M A m Q (fun e s' => wpC M A (k e) (fun _ s'' => E e s'') E s') s) : wpC M A (m.onRaise k) Q E s := fun Γ p hΓ hd hb => by
  rw [Sem.wp_onRaise]
  exact Sem.wp_mono M Γ m (fun _ _ _ h' => h') (fun e p' s' h' => h' Γ p' hΓ hd hb) p s (h Γ p hΓ hd hb)
theorem wpC_standAt {pos : Pos} {Q : Unit → Shared → Prop} (h : Q () s) : wpC M A (standAt pos) Q E s := fun _ _ _ _ _ => h
theorem wpC_point {Q : Unit → Shared → Prop} (h : Q () s) : wpC M A point Q E s := fun _ _ _ _ _ => h
theorem wpC_ite_f {c : Bool} {a b : Sem α} {Q : α → Shared → Prop} (hc : c = false) (h : wpC M A b Q E s) : wpC M A (if c = true then a else b) Q E s := by
  subst hc; exact h
theorem wpC_ite_t {c : Bool} {a b : Sem α} {Q : α → Shared → Prop} (hc : c = true) (h : wpC M A a Q E s) : wpC M A (if c = true then a else b) Q E s := by
  subst hc; exact h
theorem wpC_run {c : Code} {Q : Flow → Shared → Prop} (hc : codeC M (A.mark none) c (fun r s' => match r with | .ok f => Q f s' | .error e => E e s') s) : wpC M A (run c none) Q E s :=
  fun Γ p hΓ hd hb => by rw [Sem.wp_run]; exact hc _ p rfl (hΓ.enter c none p (by intro x; cases x)) (Clean.cons hd hb)
theorem wpC_runValue {c : Code} {Q : Value → Shared → Prop} (hc : codeC M A c (fun r s' => match r with | .ok (.ret v) => Q v s' | .ok _ => False | .error e => E e s') s) : wpC M A (runValue c) Q E s :=
  fun Γ p hΓ hd hb => by rw [Sem.wp_runValue]; exact hc _ p rfl (hΓ.enter c none p (by intro x; cases x)) (Clean.cons hd hb)
theorem wpC_call {f : Value} {pos : List Value} {kw : List (Str × Value)} {Q : Value → Shared → Prop}
    (hc : codeC M A (.call f ⟨pos, kw⟩) (fun r s' => match r with | .ok (.ret v) => Q v s' | .ok _ => False | .error e => E e s') s) : wpC M A (call f pos kw) Q E s := wpC_runValue hc
theorem codeC_of_tree {c : Code} {R : Result → Shared → Prop} (hd : decC c = false)
    (h : wpC M (A.under c) (M.den c) (fun fin s' => match fin with | .done f => R (.ok f) s' | .again c' => c'.quiet = true ∧ codeC M A c' R s') (fun e s' => R (.error e) s') s) : codeC M A c R s := fun Γ p hc hΓ hb => by
  rw [wpCode_iff_wp, hc]
  refine Sem.wp_mono M Γ _ (fun fin p' s' h' => ?_) (fun _ _ _ h' => h') p s (h Γ p (hc ▸ hΓ.in) (hc ▸ hd) hb)
  cases fin with
  | done f => exact h'
  | again c' => exact ⟨h'.1, h'.2 (Γ.goto c') p' rfl (hΓ.goto c') hb⟩
theorem codeC_loop {c : Code} {R : Result → Shared → Prop} (hq : c.quiet = true) (hd : decC c = false) (I : Nat → Shared → Prop)
    (turn : ∀ n s, I n s → wpC M (A.under c) (M.den c) (fun fin s' => match fin with | .done f => R (.ok f) s' | .again c' => (c' = c ∧ ∃ m, m < n ∧ I m s') ∨ (c'.quiet = true ∧ codeC M A c' R s')) (fun e s' => R (.error e) s') s)
    (n : Nat) (h : I n s) : codeC M A c R s := by
  induction n using Nat.strongRecOn generalizing s with
  | ind n ih =>
    refine codeC_of_tree hd (wpC_mono (turn n s h) (fun fin s' hf => ?_) fun _ _ h' => h')
    cases fin with
    | done f => exact hf
    | again c' =>
      rcases hf with ⟨rfl, m, hm, hI⟩ | ⟨hq', hc'⟩
      · exact ⟨hq, ih m hm hI⟩
      · exact ⟨hq', hc'⟩
/-- what the bytearray's own look at the stack says -/
theorem dneg {p : Prop} [Decidable p] {t : p → Bool} {e : ¬ p → Bool} (k : ∀ h, t h = true → False) (h : ∀ h, e h = false) : dite p t e = false := by
  by_cases q : p
  · rw [dif_pos q]
    cases r : t q with
    | false => rfl
    | true => exact (k q r).elim
  · rw [dif_neg q]; exact h q
theorem not_guard {id s : String} {args : Args} (h : (Code.builtin id args).isGuard = false) (hs : guardIds.contains s = true) (e : id = s) : False := by
  subst e
  exact Bool.noConfusion (hs.symm.trans h)
theorem exp_f {self : Value} {id : String} {args : Args} {p : Pos} (h1 : (Code.builtin id args).isGuard = false) (h2 : decC (Code.builtin id args) = false) :
    Builtin.Bytes.exported.match_1 (fun _ => Bool) (Code.builtin id args, p) (fun v _ _ _ => Builtin.Bytes.sameRef v self) (fun v _ _ _ => Builtin.Bytes.sameRef v self) (fun _ v _ _ _ => Builtin.Bytes.sameRef v self) (fun v _ _ _ => Builtin.Bytes.sameRef v self) (fun _ _ held _ _ => held.any (Builtin.Bytes.sameRef self)) (fun id v _ _ _ => Builtin.Bytes.sameRef v self && Builtin.Bytes.decodersThatHold.contains id) (fun _ => false) = false := by
  delta Builtin.Bytes.exported.match_1
  refine dneg (fun e _ => not_guard h1 (by decide) e) fun _ => dneg (fun e _ => not_guard h1 (by decide) e) fun _ => dneg (fun e _ => not_guard h1 (by decide) e) fun _ => dneg (fun e _ => not_guard h1 (by decide) e) fun _ => dneg (fun e _ => not_guard h1 (by decide) e) fun _ => by
    obtain ⟨pos, kw⟩ := args
    cases pos with
    | nil => rfl
    | cons v l => exact (congrArg (Builtin.Bytes.sameRef v self && ·) h2).trans (Bool.and_false _)
theorem wpC_exported {a : Addr} {Q : Bool → Shared → Prop} (hg : A.guards = some []) (h : Q false s) : wpC M A (Builtin.Bytes.exported (.ref a)) Q E s := fun Γ p hΓ hd hb => by
  unfold Builtin.Bytes.exported
  show Q (((Γ.code, p) :: Γ.below).any _) s
  have hg' : guardsOf ((Γ.code, p) :: Γ.below) = [] := by rw [guardsOf_cons]; exact hΓ.2.2.2.1 [] hg
  have hall : ∀ q ∈ ((Γ.code, p) :: Γ.below), q.1.isGuard = false ∧ decC q.1 = false := fun q hq => by
    refine ⟨?_, Clean.cons hd hb q hq⟩
    cases e : q.1.isGuard with
    | false => rfl
    | true =>
      have : q.1 ∈ guardsOf ((Γ.code, p) :: Γ.below) := List.mem_filter.mpr ⟨List.mem_map_of_mem hq, e⟩
      rw [hg'] at this; cases this
  suffices e : ∀ b, b = false → (Q b s) from e _ (by
    rw [List.any_eq_false]
    intro q hq
    have hh := hall q hq
    rw [Bool.not_eq_true]
    obtain ⟨c, p'⟩ := q
    cases c with
    | builtin id args => exact exp_f hh.1 hh.2
    | _ => rfl)
  intro b hb'
  rw [hb']; exact h
end
end
/-! ## CH3 -/
section
open PySem.Sem (wp)
/-- the run's own context is clean -/
theorem caller_wpC {prog : Program} {w : World} {t : Sem Fin} {s : Shared} {R : Result → Shared → Prop}
    (h : wpC (model prog w) callerA t (fun fin s' => ∃ f, fin = .done f ∧ R (.ok f) s') (fun e s' => R (.error e) s') s) :
    wp (model prog w) ⟨.builtin "claim.caller" {}, none, none, [], none⟩ t (Sem.finPost (model prog w) ⟨.builtin "claim.caller" {}, none, none, [], none⟩ R) (fun e _ s' => R (.error e) s') default s :=
  Sem.wp_mono _ _ t (fun _ _ _ h' => by obtain ⟨f, rfl, hf⟩ := h'; exact hf) (fun _ _ _ h' => h') _ _ (h _ default caller_in (by decide) (fun _ hq => nomatch hq))
theorem halts_C {prog : Program} {w : World} {t : Sem Fin} {s s₁ : Shared} {P : Result → Shared → Prop} {K : Heap → Prop} {G : Prop} (hz : s₁.asleep)
    (hc : wpC (model prog w) callerA t (fun fin s' => ∃ f, fin = .done f ∧ (P (.ok f) s' ∧ s'.os = s.os ∧ AllBare s'.gens ∧ K s'.heap)) (fun e s' => P (.error e) s' ∧ s'.os = s.os ∧ AllBare s'.gens ∧ K s'.heap) s₁)
    (k : ∀ n r x y, schedN (denote table) prog w n (.single s₁ ⟨t, .builtin "claim.caller" {}, default, []⟩) = .halted (outcomeOf r) y → PySem.runN (denote table) prog w n s₁ ⟨t, .builtin "claim.caller" {}, default, []⟩ = .halted (outcomeOf r) y → y.heap = x.heap → y.os = s.os → P r x → K x.heap → G) : G := by
  obtain ⟨n, r, x, y, hs, hn, hfo, hR⟩ := wp_halts_full (M := model prog w) (R := fun r s' => P r s' ∧ s'.os = s.os ∧ K s'.heap) hz
    (caller_wpC (R := fun r s' => (P r s' ∧ s'.os = s.os ∧ K s'.heap) ∧ leftWithCleanup s'.gens = false) (wpC_mono hc (fun _ _ z => z.elim fun f z => ⟨f, z.1, ⟨z.2.1, z.2.2.1, z.2.2.2.2⟩, leftWithCleanup_false_of_bare z.2.2.2.1⟩) fun _ _ z => ⟨⟨z.1, z.2.1, z.2.2.2⟩, leftWithCleanup_false_of_bare z.2.2.1⟩))
  have q := Shared.forget_eq hfo
  exact k n r x y hs hn q.1 (q.2.2.2.1.trans hR.2.1) hR.1 hR.2.2
theorem spec_C {c : ClaimW} {tree : List Value → Sem Fin} {w : World} {s : Shared} {free : Addr → Prop} {gens : Prop} {kept : Heap → Prop} (hz : s.asleep) (hgens : s.gens = #[])
    (hspec : ∀ args, c.pre args = true → WData.layableAll args = true → ∀ ord : List DictEntry → List DictEntry, (∀ l, (ord l).Perm l) →
      ∃ vs s₁, layAllW c.records (classAt s.heap) w.params ord args s = some (vs, s₁) ∧
        wpC (model c.prog w) callerA (tree vs) (fun fin s' => ∃ f, fin = .done f ∧ (c.Ends s args vs s₁ (.ok f) s' ∧ s'.os = s.os ∧ AllBare s'.gens ∧ kept s'.heap))
          (fun e s' => c.Ends s args vs s₁ (.error e) s' ∧ s'.os = s.os ∧ AllBare s'.gens ∧ kept s'.heap) s₁) :
    c.CallFrom (fun vs => ⟨tree vs, .builtin "claim.caller" {}, default, []⟩) w free gens kept s := by
  intro args hpre hlay ord hord
  refine (hspec args hpre hlay ord hord).elim fun vs z => z.elim fun s₁ z => ?_
  have al := layAllW_rest _ _ _ z.1
  refine halts_C (P := fun r s' => c.Ends s args vs s₁ r s') (K := kept) (Shared.asleep_of_life al.2.2.2 hz) z.2 fun n r x y hs hn eh eo hR hkp => ?_
  refine ⟨vs, s₁, z.1, n, _, y, hs, ?_, (fun _ i z hx => by rw [hgens] at hx; cases hx), eh ▸ hkp, by rw [(runN_life _ _ _ hn).trans al.2.2.2], Shared.rest_eq eo⟩
  exact (hR.congr eh).imp (Exists.imp fun v => And.imp (congrArg outcomeOf) (And.imp_right (And.imp_right (And.imp_right (And.imp_left fun d b o q _ => d b o q)))))
    (Exists.imp fun e => Exists.imp fun ob => Exists.imp fun cls => And.imp (congrArg outcomeOf) (And.imp_right (And.imp_right (And.imp_right (And.imp_right fun d b o q _ => d b o q)))))
/-- what the walk of a law's call has to show, of clean stacks alone -/
abbrev WalkC (q : Program) (loose : List Str) (XP : (Str → Option Value) → Heap → Prop) (YP : World → Heap → Prop) (r : RowW) (d : DefRec) (kwd : List (Str × Expr)) : Prop :=
  ∀ (w : World) (s₀ s₁ : Shared) (mg mb : Str → Option Value), Ground q loose r.records XP w s₀ mg mb s₁.heap → YP w s₁.heap → ∀ (a : Addr) (o : Obj) (pm cd doc dV kV : Value), s₁.heap.get? a = some o →
    o.data = .func { docDef d.name d.params d.body d.scope pm cd doc with defaults := dV, kwdefaults := kV } → s₁.heap.CodeRec cd d.name → Dflts mg s₁.heap d.params kwd dV kV → mg d.name = some (.ref a) → s₁.gens = #[] →
    ∀ (args : List WData) (vals : List Value) (as : List Addr), r.claim.pre args = true → WData.layableAll args = true → ReadsAllW r.records (classAt s₀.heap) s₁.heap vals args as → WellAll w.params s₁.heap vals args → (∀ a ∈ as, (a == sysModules) = false) →
      codeC (model r.prog w) callerA (.call (.ref a) ⟨vals, []⟩) (GoodWG r.claim (classAt s₀.heap) (ExcName.means s₀.heap) args s₁) s₁
class Any (P : outParam Prop) : Prop where
  out : P
def Keep {X : Prop} (_ : Any X) (W : Prop) : Prop := W
theorem holds_C {r : OpenRow} {q : Program} {loose : List Str} {Xt : Shared → Bool} {XP : (Str → Option Value) → Heap → Prop} {α : Type} {Yf : Shared → α} {Ya : World → α} {YP : World → Heap → Prop} {d : DefRec} {kwd : List (Str × Expr)} {N : Nat}
    (left : LeftO r.prog q loose Xt Yf Ya N) (hY : ∀ w s, Yf s = Ya w → YP w s.heap) (hYk : ∀ w h h', YP w h → (∀ b o, h.get? b = some o → h'.get? b = some o) → YP w h')
    (hX : ∀ s, Xt s = true → XP (s.heap.nsMap mainGlobals) s.heap) (hXk : ∀ mg h h', XP mg h → (∀ b o, h.get? b = some o → h'.get? b = some o) → XP mg h')
    (hdef : defOf q r.name = some (d, kwd)) (hp : r.prog.theDef r.name = some (d.params, d.body, d.scope)) (hk : kwWritten? d.params.kwonlyargs d.params.kw_defaults = some kwd) (hRf : ∀ s, Xt s = true → RecFacts r.records s.heap) (hwr : (!r.writes || r.records.isEmpty) = true)
    (k1 : r.wellSaid = true) (ok : (chainsOk q && opensWell r.prog && (frees r.toRowW && r.within.isEmpty)) = true) (hb : r.prog.bare) (hw : r.toRowW.promised)
    (walk : WalkC q loose XP YP r.toRowW d kwd) : r.Holds := by
  have ok' := ok
  simp only [Bool.and_eq_true] at ok'
  refine hide fun G99 hG99 => ?_
  obtain ⟨⟨hch, o1⟩, k5, k6⟩ := ok'
  refine hG99 ?_
  clear hG99 G99
  refine hide fun G99 hG99 => ?_
  obtain ⟨hsame, hu, ha, hap, hm⟩ := frees_parts k5
  refine hG99 ?_
  clear hG99 G99
  have hi := ident_freeW hu ha hap
  have hwi : r.toRowW.claim.within = [] := List.isEmpty_iff.mp k6
  refine ⟨k1, hw, ⟨hb, o1, by show r.toRowW.makers.map _ = []; rw [hm]; rfl⟩, hw.witness, fun w => ?_⟩
  have behind := left.behind (XP := fun mg h => XP mg h ∧ RecFacts r.records h) (fun s hs => ⟨hX s hs, hRf s hs⟩) hch w
  refine ⟨behind.1, fun s' hs' => ?_⟩
  refine hide fun G99 hG99 => ?_
  obtain ⟨s₀, hf, hg0, s, hT, hz, hgens, hg, G0, y⟩ := behind.2 s' hs'
  refine hG99 ?_
  clear hG99 G99
  have RF := G0.X.2
  have G1 : Ground q loose [] XP w s (s.heap.nsMap mainGlobals) (s.heap.nsMap builtinsNs) s.heap := ⟨G0.T, G0.B, G0.D, G0.TE, G0.TD, G0.W, G0.X.1, G0.cls, G0.has, G0.apart, G0.once, G0.K⟩
  refine ⟨s₀, hf, hg0, s, hT, fun n hn => ?_, RF.1, RF.2.1, ?_⟩
  · obtain rfl : n = r.name := by split at hn <;> simp_all
    exact pinned_of_view hg G1 hdef hp hk
  have hgens : s.gens = #[] := Array.eq_empty_of_size_eq_zero (beq_iff_eq.mp hgens)
  have G : Ground q loose r.records XP w s _ _ s.heap := RF.ground G1
  refine spec_C (c := r.toRowW.claim) hz hgens fun args hpre hlay ord hord => ?_
  obtain ⟨⟨vs, s₁⟩, hlaid⟩ := Option.isSome_iff_exists.mp (layAllW_isSome (P := w.params) (ord := ord) G.has args r.args s (pre_splitW hpre).1)
  have keeps := layAllW_keeps _ _ _ hlaid
  have al := layAllW_rest _ _ _ hlaid
  refine hide fun G99 hG99 => ?_
  obtain ⟨as, hrd, hin, hold⟩ := reads_layAllW hord _ _ _ hlaid hlay s₁.heap (fun _ _ e => e)
  refine hG99 ?_
  clear hG99 G99
  have L : Laid r.records w s s₁ args vs as := ⟨⟨ord, hord, hlaid⟩, hrd, hin, hold, keeps, al.1.trans hgens, al.2.2.1⟩
  have G2 := G.keeps hXk keeps
  refine hide fun G99 hG99 => ?_
  obtain ⟨a, o, pm, cd, doc, dV, kV, h1, h2, h3, h4, h5⟩ := G2.fn hdef
  refine hG99 ?_
  clear hG99 G99
  have run := walk w s s₁ _ _ G2 (hYk _ _ _ (hY w s y) keeps) a o pm cd doc dV kV h2 h3 h4 h5 (defOf_name hdef ▸ h1) L.gens args vs as hpre hlay L.reads L.well (L.low G.low)
  have after : ∀ x s', GoodWG r.toRowW.claim (classAt s.heap) (ExcName.means s.heap) args s₁ x s' →
      r.toRowW.claim.Ends s args vs s₁ x s' ∧ s'.os = s.os ∧ AllBare s'.gens ∧
        (r.writes = true → namesKept r.toRowW.claim.prog r.keeps s.heap s'.heap ∧ ∀ x ∈ r.toRowW.claim.records, ∀ a, classAt s.heap x.1 = some a → recordClass s'.heap a x.1 (x.2.map (·.1)) = true) := fun x s' g =>
    have z := g.laid (c := r.toRowW.claim) hsame hwi hi L
    ⟨z.1, z.2.1, z.2.2, fun q => ⟨namesKept_of hT hg _ keeps g.2.1.old, noTable hwr q⟩⟩
  refine ⟨vs, s₁, hlaid, ?_⟩
  refine wpC_bindA (wpAny_nsGet G2.T.g ?_)
  rw [h1]
  refine wpC_bind (wpC_call (codeC_mono run fun x s' g => ?_))
  cases x with
  | error e => exact after _ _ g
  | ok f =>
    cases f with
    | ret v => exact wpC_pure ⟨_, rfl, after _ _ g⟩
    | next => rcases g.1 with ⟨_, _, _, e, _⟩ | ⟨_, _, _, e, _⟩ <;> cases e
    | brk => rcases g.1 with ⟨_, _, _, e, _⟩ | ⟨_, _, _, e, _⟩ <;> cases e
    | cont => rcases g.1 with ⟨_, _, _, e, _⟩ | ⟨_, _, _, e, _⟩ <;> cases e
theorem PySem.W.holds_open {X : Prop} [I : Any X] {r : OpenRow} {q : Program} {loose : List Str} {Xt : Shared → Bool} {XP : (Str → Option Value) → Heap → Prop} {α : Type} {Yf : Shared → α} {Ya : World → α} {YP : World → Heap → Prop} {d : DefRec} {kwd : List (Str × Expr)} {N : Nat}
    (left : LeftO r.prog q loose Xt Yf Ya N) (hY : ∀ w s, Yf s = Ya w → YP w s.heap) (hYk : ∀ w h h', YP w h → (∀ b o, h.get? b = some o → h'.get? b = some o) → YP w h')
    (hX : ∀ s, Xt s = true → XP (s.heap.nsMap mainGlobals) s.heap) (hXk : ∀ mg h h', XP mg h → (∀ b o, h.get? b = some o → h'.get? b = some o) → XP mg h')
    (hdef : defOf q r.name = some (d, kwd)) (hp : r.prog.theDef r.name = some (d.params, d.body, d.scope)) (hk : kwWritten? d.params.kwonlyargs d.params.kw_defaults = some kwd) (hRf : ∀ s, Xt s = true → RecFacts r.records s.heap) (hwr : (!r.writes || r.records.isEmpty) = true)
    (k1 : r.wellSaid = true) (ok : (chainsOk q && opensWell r.prog && (frees r.toRowW && r.within.isEmpty)) = true) (hb : r.prog.bare) (hw : r.toRowW.promised)
    (walk : Keep I (WalkC q loose XP YP r.toRowW d kwd)) : r.Holds := holds_C left hY hYk hX hXk hdef hp hk hRf hwr k1 ok hb hw walk
end
/-! ## HD3 -/
section
theorem hd0.tw14469414521783600489 : True := trivial
theorem hd0.tw1189054894648436682 : True := trivial
theorem hd0.tw1486104822300770100 : True := trivial
theorem hd0.tw3233326631691786436 : True := trivial
theorem hd0.tw3563376653281826072 : True := trivial
theorem hd0.tw3406311059433270224 : True := trivial
theorem hd0.tw7754451475289968488 : True := trivial
theorem hd0.tw4373546571844417716 : True := trivial
theorem hd0.tw10566386253777865092 : True := trivial
theorem hd0.tw14694669036159307144 : True := trivial
theorem hd0.tw16034952089515472046 : True := trivial
theorem hd0.tw17517931720181830703 : True := trivial
theorem hd0.tw11119462899506271795 : True := trivial
theorem hd0.tw12776546938699652369 : True := trivial
theorem hd0.tw9115860346242966872 : True := trivial
theorem hd0.tw8464541185895156213 : True := trivial
theorem hd0.tw9025043858014030743 : True := trivial
theorem hd0.tw12075269703002163213 : True := trivial
theorem hd0.tw17788234752527007362 : True := trivial
theorem hd0.tw18146432252387701884 : True := trivial
theorem hd0.tw16983820468018708842 : True := trivial
theorem hd0.tw12014350970595483805 : True := trivial
theorem hd0.tw3783854939261827151 : True := trivial
theorem hd0.tw3640104315449746964 : True := trivial
theorem hd0.tw906593335335552129 : True := trivial
theorem hd0.tw16921087693971489108 : True := trivial
theorem hd0.tw1615392291730545924 : True := trivial
theorem hd0.tw17623544462552871726 : True := trivial
theorem hd0.tw612490874915578456 : True := trivial
theorem hd0.tw97161497214354009 : True := trivial
theorem hd0.tw10069731379804114837 : True := trivial
theorem hd0.tw9799908990197425402 : True := trivial
theorem hd0.tw8913561755670897571 : True := trivial
theorem hd0.tw9188398823286509360 : True := trivial
theorem hd0.tw7895234915340226546 : True := trivial
theorem hd0.tw10299701338536963064 : True := trivial
theorem hd0.tw14581190615617361256 : True := trivial
theorem hd0.tw12445168859298407736 : True := trivial
theorem hd0.tw3407487215004703030 : True := trivial
theorem hd0.tw3968613266054771741 : True := trivial
theorem hd0.tw1659871116806467821 : True := trivial
theorem hd0.tw17161414228395185700 : True := trivial
theorem hd0.tw12158446373679332284 : True := trivial
theorem hd0.tw16178185886527317852 : True := trivial
theorem hd0.tw3466419429004618768 : True := trivial
theorem hd0.tw4972683947323451530 : True := trivial
theorem hd0.tw18186319125245921542 : True := trivial
theorem hd0.tw17165560880091878914 : True := trivial
theorem hd0.tw12276703297741760479 : True := trivial
theorem hd0.tw5641299431439701213 : True := trivial
theorem hd0.tw201601121702685456 : True := trivial
theorem hd0.tw14530719843544073062 : True := trivial
theorem hd0.tw17763732069537761205 : True := trivial
theorem hd0.tw5932400532023938697 : True := trivial
theorem hd0.tw18112031189588308069 : True := trivial
theorem hd0.tw7868138818950617825 : True := trivial
theorem hd0.tw4276791122523266205 : True := trivial
theorem hd0.tw13800483763300068865 : True := trivial
theorem hd0.tw14885392324379421255 : True := trivial
theorem hd0.tw4191937624643745846 : True := trivial
theorem hd0.tw7731734453053413589 : True := trivial
theorem hd0.tw3867818972456701630 : True := trivial
theorem hd0.tw1943803618969230435 : True := trivial
theorem hd0.tw4983706646000405154 : True := trivial
theorem hd0.tw15960652031959596643 : True := trivial
theorem hd0.tw8074934102184914911 : True := trivial
theorem hd0.tw12482913051474129847 : True := trivial
theorem hd0.tw159360540141897952 : True := trivial
theorem hd0.tw17705790862779081903 : True := trivial
theorem hd0.tw3682416365666891632 : True := trivial
theorem hd0.tw2128425038151221735 : True := trivial
theorem hd0.tw6302951332473218875 : True := trivial
theorem hd0.tw9949846813906436267 : True := trivial
theorem hd0.tw839443794188527141 : True := trivial
theorem hd0.tw11497454159474323877 : True := trivial
theorem hd0.tw4320476126873396096 : True := trivial
theorem hd0.tw16748173589141266553 : True := trivial
theorem hd0.tw17690893716680240463 : True := trivial
theorem hd0.tw7132760851028116863 : True := trivial
theorem hd0.tw10171905155036859849 : True := trivial
theorem hd0.tw3687841886611527418 : True := trivial
theorem hd0.tw1566675678902604740 : True := trivial
theorem hd0.tw12051904425446288284 : True := trivial
theorem hd0.tw10992540420993761691 : True := trivial
theorem hd0.tw11342738394816991558 : True := trivial
theorem hd0.tw4509526690794525690 : True := trivial
theorem hd0.tw13601029301931556805 : True := trivial
theorem hd0.tw3692216064368290878 : True := trivial
theorem hd0.tw12457655390460550545 : True := trivial
theorem hd0.tw2158353485119185356 : True := trivial
theorem hd0.tw4992598812696569949 : True := trivial
theorem hd0.tw13514211720703212713 : True := trivial
theorem hd0.tw8753875272357604297 : True := trivial
theorem hd0.tw13681048869030573423 : True := trivial
theorem hd0.tw891186494875849158 : True := trivial
theorem hd0.tw13540748790817394469 : True := trivial
theorem hd0.tw5145303074121384310 : True := trivial
theorem hd0.tw1277909223561221377 : True := trivial
theorem hd0.tw901327545473398541 : True := trivial
theorem hd0.tw18184378558241788753 : True := trivial
theorem hd0.tw1698854317287570069 : True := trivial
theorem hd0.tw14777606180430403221 : True := trivial
theorem hd0.tw14133583787211923317 : True := trivial
theorem hd0.tw18430945745249023057 : True := trivial
theorem hd0.tw5712925796022227859 : True := trivial
theorem hd0.tw1190472648562434886 : True := trivial
theorem hd0.tw3333271112219793377 : True := trivial
theorem hd0.tw10810385065285312349 : True := trivial
theorem hd0.tw1658824891121474949 : True := trivial
theorem hd0.tw2219251433370212802 : True := trivial
theorem hd0.tw12322794258418571040 : True := trivial
theorem hd0.tw8053029068741257462 : True := trivial
theorem hd0.tw18416291653570748741 : True := trivial
theorem hd0.tw13399666736263258950 : True := trivial
theorem hd0.tw10950015098503667 : True := trivial
theorem hd0.tw241197298611353260 : True := trivial
theorem hd0.tw14531314831857924074 : True := trivial
theorem hd0.tw13458251385435879135 : True := trivial
theorem hd0.tw4637667959466297245 : True := trivial
theorem hd0.tw16866877141584463672 : True := trivial
theorem hd0.tw14897994757615397246 : True := trivial
theorem hd0.tw12274314036958901727 : True := trivial
theorem hd0.tw10295704408819858588 : True := trivial
theorem hd0.tw1967676767884184963 : True := trivial
theorem hd0.tw12933712334415985070 : True := trivial
theorem hd0.tw13662678775740407664 : True := trivial
theorem hd0.tw5123671803952530491 : True := trivial
theorem hd0.tw17087212701041150630 : True := trivial
theorem hd0.tw1690223966290365743 : True := trivial
theorem hd0.tw13893897624538738667 : True := trivial
theorem hd0.tw12267492742709321793 : True := trivial
theorem hd0.tw10909967093416965196 : True := trivial
theorem hd0.tw16945641315097055003 : True := trivial
theorem hd0.tw3394719057209654559 : True := trivial
theorem hd0.tw10314495095132462600 : True := trivial
theorem hd0.tw16538306262251643217 : True := trivial
theorem hd0.tw17965875459906211518 : True := trivial
theorem hd0.tw9059920523635683277 : True := trivial
theorem hd0.tw48920468559051274 : True := trivial
theorem hd0.tw3149825195295114616 : True := trivial
theorem hd0.tw5271022457499508285 : True := trivial
theorem hd0.tw17827044479204264032 : True := trivial
theorem hd0.tw10765925126889504240 : True := trivial
theorem hd0.tw5293605420637987274 : True := trivial
theorem hd0.tw16613889504466272002 : True := trivial
theorem hd0.tw13451678851320754741 : True := trivial
theorem hd0.tw6414887533649200790 : True := trivial
theorem hd0.tw8907265306392417265 : True := trivial
theorem hd0.tw17939917016985635099 : True := trivial
theorem hd0.tw5393086615926188543 : True := trivial
theorem hd0.tw15200775214083542848 : True := trivial
theorem hd0.tw5992386861721816697 : True := trivial
theorem hd0.tw10833352333336119249 : True := trivial
theorem hd0.tw14603430072732904927 : True := trivial
theorem hd0.tw1033846637145908505 : True := trivial
theorem hd0.tw6319714708284619015 : True := trivial
theorem hd0.tw6610721040928539861 : True := trivial
theorem hd0.tw545614883460498859 : True := trivial
theorem hd0.tw14693713190999327560 : True := trivial
theorem hd0.tw8413799840646086991 : True := trivial
theorem hd0.tw14800764121473040398 : True := trivial
theorem hd0.tw14502001302391087502 : True := trivial
theorem hd0.tw208745692366851961 : True := trivial
theorem hd0.tw13707264763525615022 : True := trivial
theorem hd0.tw10380885782726495096 : True := trivial
theorem hd0.tw12603814732637365840 : True := trivial
theorem hd0.tw5125984077138792351 : True := trivial
theorem hd0.tw2089478843488583011 : True := trivial
theorem hd0.tw12413647210551461848 : True := trivial
theorem hd0.tw3771890792122485445 : True := trivial
theorem hd0.tw16463593755247147200 : True := trivial
theorem hd0.tw11618779779337073695 : True := trivial
theorem hd0.tw12782592981888142045 : True := trivial
theorem hd0.tw3097689098446119803 : True := trivial
theorem hd0.tw10119959045349237474 : True := trivial
theorem hd0.tw4597174426631724057 : True := trivial
theorem hd0.tw2302055443720114960 : True := trivial
theorem hd0.tw3361144743427637995 : True := trivial
theorem hd0.tw2025992563494124259 : True := trivial
theorem hd0.tw13407135678810255579 : True := trivial
theorem hd0.tw15558302549524438974 : True := trivial
theorem hd0.tw1144143789490447932 : True := trivial
theorem hd0.tw8335639332613301527 : True := trivial
theorem hd0.tw5241754053254526420 : True := trivial
theorem hd0.tw13398391709312642032 : True := trivial
theorem hd0.tw2080979622161356455 : True := trivial
theorem hd0.tw14574581053450234351 : True := trivial
theorem hd0.tw17443584081481348451 : True := trivial
theorem hd0.tw6070584094110415979 : True := trivial
theorem hd0.tw14528840667550511398 : True := trivial
theorem hd0.tw9636773541000906454 : True := trivial
theorem hd0.tw2788084877741506761 : True := trivial
theorem hd0.tw3203689360760453423 : True := trivial
theorem hd0.tw14778368771875113021 : True := trivial
theorem hd0.tw13386569130190815585 : True := trivial
theorem hd0.tw189931430836679332 : True := trivial
theorem hd0.tw11758758586359927915 : True := trivial
theorem hd0.tw17297856964557519182 : True := trivial
theorem hd0.tw9126222054196385890 : True := trivial
theorem hd0.tw4781000811798046743 : True := trivial
theorem hd0.tw1176053044683504432 : True := trivial
theorem hd0.tw8284464484006228044 : True := trivial
theorem hd0.tw7604119010897642556 : True := trivial
theorem hd0.tw16269486087580614188 : True := trivial
theorem hd0.tw17703592380641002728 : True := trivial
theorem hd0.tw10060115396404291046 : True := trivial
theorem hd0.tw16621426456839085515 : True := trivial
theorem hd0.tw9059464732126916848 : True := trivial
theorem hd0.tw16518725849791831052 : True := trivial
theorem hd0.tw12183904389932337105 : True := trivial
theorem hd0.tw11948003583001340954 : True := trivial
theorem hd0.tw3179202085876152303 : True := trivial
theorem hd0.tw13253873054810628565 : True := trivial
theorem hd0.tw15429971745270200749 : True := trivial
theorem hd0.tw4319935590431654399 : True := trivial
theorem hd0.tw7318283407661637438 : True := trivial
theorem hd0.tw5484117130419629514 : True := trivial
theorem hd0.tw14859510367324771804 : True := trivial
theorem hd0.tw5336939312866089149 : True := trivial
theorem hd0.tw7701764747771116850 : True := trivial
theorem hd0.tw870125979508588301 : True := trivial
theorem hd0.tw2290972259769597638 : True := trivial
theorem hd0.tw6246904962394784356 : True := trivial
theorem hd0.tw15490979449997167053 : True := trivial
theorem hd0.tw9385747698160950831 : True := trivial
theorem hd0.tw6731150079252952819 : True := trivial
theorem hd0.tw16871336801076393977 : True := trivial
theorem hd0.tw1963438426913184167 : True := trivial
theorem hd0.tw447684426723917565 : True := trivial
theorem hd0.tw5461055050941286108 : True := trivial
theorem hd0.tw4550181199752876123 : True := trivial
theorem hd0.tw9158488875951367014 : True := trivial
theorem hd0.tw12205703568204840568 : True := trivial
theorem hd0.tw18429324449565333914 : True := trivial
theorem hd0.tw3532348270762500020 : True := trivial
theorem hd0.tw12408544009092005060 : True := trivial
theorem hd0.tw12151319272224551882 : True := trivial
theorem hd0.tw16261526148008475707 : True := trivial
theorem hd0.tw15617416376691679683 : True := trivial
theorem hd0.tw8066634004926191738 : True := trivial
theorem hd0.tw1538813021119263245 : True := trivial
theorem hd0.tw5428070130070536091 : True := trivial
theorem hd0.tw5099789754451425677 : True := trivial
theorem hd0.tw16353760942946646146 : True := trivial
theorem hd0.tw6686488626606641068 : True := trivial
theorem hd0.tw2919583234286436895 : True := trivial
theorem hd0.tw1817164187568313849 : True := trivial
theorem hd0.tw16912591420726631485 : True := trivial
theorem hd0.tw12297212177519175542 : True := trivial
theorem hd0.tw8021989280010895897 : True := trivial
theorem hd0.tw2431039718480141022 : True := trivial
theorem hd0.tw7937780131228529215 : True := trivial
theorem hd0.tw2872812170981058569 : True := trivial
theorem hd0.tw83355183581604759 : True := trivial
theorem hd0.tw10995176720046339354 : True := trivial
theorem hd0.tw9307621412662132602 : True := trivial
theorem hd0.tw12664211946483082244 : True := trivial
theorem hd0.tw12579981767310751444 : True := trivial
theorem hd0.tw3037478669906946796 : True := trivial
theorem hd0.tw7237386881181516464 : True := trivial
theorem hd0.tw9920712778304440653 : True := trivial
theorem hd0.tw14266310162678413827 : True := trivial
theorem hd0.tw10821725748964873812 : True := trivial
theorem hd0.tw12205544625469342409 : True := trivial
theorem hd0.tw3278175577387793967 : True := trivial
theorem hd0.tw835703830586665043 : True := trivial
theorem hd0.tw6663342589294648794 : True := trivial
theorem hd0.tw10131604004383188290 : True := trivial
theorem hd0.tw18098247460298835536 : True := trivial
theorem hd0.tw1301209152814809411 : True := trivial
theorem hd0.tw14508254801004028759 : True := trivial
theorem hd0.tw16356745440860276358 : True := trivial
theorem hd0.tw11249123509674406191 : True := trivial
theorem hd0.tw6958545755987672987 : True := trivial
theorem hd0.tw5814328120849822248 : True := trivial
theorem hd0.tw4116054870980984685 : True := trivial
theorem hd0.tw6326191274288118561 : True := trivial
theorem hd0.tw10312334943385684113 : True := trivial
theorem hd0.tw13826388099692679067 : True := trivial
theorem hd0.tw3341479504388537406 : True := trivial
theorem hd0.tw4798827951396624206 : True := trivial
theorem hd0.tw2489025533102696113 : True := trivial
theorem hd0.tw11055183035642229788 : True := trivial
theorem hd0.tw10051225828250784925 : True := trivial
theorem hd0.tw12531005905967446356 : True := trivial
theorem hd0.tw15598781321256940172 : True := trivial
theorem hd0.tw475519468955650494 : True := trivial
theorem hd0.tw8708807820475274586 : True := trivial
theorem hd0.tw4835004971785622705 : True := trivial
theorem hd0.tw6568540664440534053 : True := trivial
theorem hd0.tw14494657868452557277 : True := trivial
theorem hd0.tw12846747447118687680 : True := trivial
theorem hd0.tw11237116216057311745 : True := trivial
theorem hd0.tw9834784931133436917 : True := trivial
theorem hd0.tw6514504669915491923 : True := trivial
theorem hd0.tw5364393782896679965 : True := trivial
theorem hd0.tw14910549516028445164 : True := trivial
theorem hd0.tw10991023720358251972 : True := trivial
theorem hd0.tw10702419455615826468 : True := trivial
theorem hd0.tw18310740603297040469 : True := trivial
theorem hd0.tw15764005096722370900 : True := trivial
theorem hd0.tw14254699458681805449 : True := trivial
theorem hd0.tw14708056100453182282 : True := trivial
theorem hd0.tw1881863556942964538 : True := trivial
theorem hd0.tw12760839115024893943 : True := trivial
theorem hd0.tw6595308224653121280 : True := trivial
theorem hd0.tw666637029103987267 : True := trivial
theorem hd0.tw1206084808893199565 : True := trivial
theorem hd0.tw15129630465062437422 : True := trivial
theorem hd0.tw8472709252117196360 : True := trivial
theorem hd0.tw16703394668816812204 : True := trivial
theorem hd0.tw10542246809792872130 : True := trivial
theorem hd0.tw10472887827112669461 : True := trivial
theorem hd0.tw12042970921518469988 : True := trivial
theorem hd0.tw13969635912206726010 : True := trivial
theorem hd0.tw14392666273103455515 : True := trivial
theorem hd0.tw15621366761432239028 : True := trivial
theorem hd0.tw8412496611741829076 : True := trivial
theorem hd0.tw17524989057665669244 : True := trivial
theorem hd0.tw3178646243906574223 : True := trivial
theorem hd0.tw8511555726976259291 : True := trivial
theorem hd0.tw16367954908017057810 : True := trivial
theorem hd0.tw1409594657495654067 : True := trivial
theorem hd0.tw17751538270359655562 : True := trivial
theorem hd0.tw15543821095186356926 : True := trivial
theorem hd0.tw17564057355376757762 : True := trivial
theorem hd0.tw4215313949165501139 : True := trivial
theorem hd0.tw1904828551985836751 : True := trivial
theorem hd0.tw5573079312679747698 : True := trivial
theorem hd0.tw414315201535598294 : True := trivial
theorem hd0.tw16112030641436606340 : True := trivial
theorem hd0.tw4366586776664963993 : True := trivial
theorem hd0.tw17819310920826306093 : True := trivial
theorem hd0.tw15675528710725479212 : True := trivial
theorem hd0.tw11623040055089417287 : True := trivial
theorem hd0.tw5223386943819690705 : True := trivial
theorem hd0.tw2510654449352665463 : True := trivial
theorem hd0.tw1375262684347379207 : True := trivial
theorem hd0.tw12753557443971426460 : True := trivial
theorem hd0.tw4449064183696094736 : True := trivial
theorem hd0.tw12949994812025541312 : True := trivial
theorem hd0.tw14019422052369805898 : True := trivial
theorem hd0.tw1408586941499263977 : True := trivial
theorem hd0.tw15783581761236437582 : True := trivial
theorem hd0.tw10085328584745137873 : True := trivial
theorem hd0.tw13528136040738991083 : True := trivial
theorem hd0.tw7493280530175958909 : True := trivial
theorem hd0.tw6269040581006461771 : True := trivial
theorem hd0.tw16611413978080045876 : True := trivial
theorem hd0.tw6893331240596464896 : True := trivial
theorem hd0.tw18353199073579788961 : True := trivial
theorem hd0.tw8935835073043769850 : True := trivial
theorem hd0.tw444321031296666723 : True := trivial
theorem hd0.tw16946435295296715926 : True := trivial
theorem hd0.tw2395880578221408459 : True := trivial
theorem hd0.tw13507686799319203751 : True := trivial
theorem hd0.tw10046214379172474726 : True := trivial
theorem hd0.tw6425220609725761449 : True := trivial
theorem hd0.tw5476550517563732157 : True := trivial
theorem hd0.tw15662963303021941862 : True := trivial
theorem hd0.tw9263301239724254889 : True := trivial
theorem hd0.tw16305315067834280204 : True := trivial
theorem hd0.tw3614440592705372375 : True := trivial
theorem hd0.tw11235671498635311869 : True := trivial
theorem hd0.tw11138249019705727585 : True := trivial
theorem hd0.tw6014977574509414443 : True := trivial
theorem hd0.tw12777931453158178941 : True := trivial
theorem hd0.tw13674825878566736871 : True := trivial
theorem hd0.tw15553139450688975919 : True := trivial
theorem hd0.tw17043531303389682065 : True := trivial
theorem hd0.tw7252911797259916394 : True := trivial
theorem hd0.tw14487139744964632365 : True := trivial
theorem hd0.tw7288751869163876638 : True := trivial
theorem hd0.tw5009392681941405746 : True := trivial
theorem hd0.tw14364967241312749879 : True := trivial
theorem hd0.tw13988911812552584791 : True := trivial
theorem hd0.tw15728283652489511788 : True := trivial
theorem hd0.tw10297934492154968163 : True := trivial
theorem hd0.tw6968693266975517553 : True := trivial
theorem hd0.tw8989800094379352571 : True := trivial
theorem hd0.tw14893186144138924201 : True := trivial
theorem hd0.tw4061320783067801059 : True := trivial
theorem hd0.tw14736164837976249918 : True := trivial
theorem hd0.tw5049636077015095027 : True := trivial
theorem hd0.tw1104153614263761704 : True := trivial
theorem hd0.tw10763176690372330244 : True := trivial
theorem hd0.tw16146168302681751184 : True := trivial
theorem hd0.tw6663726501131112074 : True := trivial
theorem hd0.tw13314375886522361641 : True := trivial
theorem hd0.tw7849129040761613689 : True := trivial
theorem hd0.tw10759000945844983178 : True := trivial
theorem hd0.tw1450596053491749582 : True := trivial
theorem hd0.tw8977896322151119144 : True := trivial
theorem hd0.tw11510660921149772417 : True := trivial
theorem hd0.tw10831172887324590962 : True := trivial
theorem hd0.tw3817695977128046484 : True := trivial
theorem hd0.tw6097230029259139074 : True := trivial
theorem hd0.tw6304940225609730636 : True := trivial
theorem hd0.tw4909664616505572318 : True := trivial
theorem hd0.tw5026567979408028989 : True := trivial
theorem hd0.tw5099975578641171906 : True := trivial
theorem hd0.tw7762228098215924476 : True := trivial
theorem hd0.tw14547275812638254195 : True := trivial
theorem hd0.tw3198289665323921157 : True := trivial
theorem hd0.tw8799922735631600174 : True := trivial
theorem hd0.tw11713894155979806921 : True := trivial
theorem hd0.tw8016032594811649588 : True := trivial
theorem hd0.tw9526941815458186415 : True := trivial
theorem hd0.tw5094363740755177244 : True := trivial
theorem hd0.tw9915369828831269134 : True := trivial
theorem hd0.tw4192044030403024501 : True := trivial
theorem hd0.tw1500556042865797202 : True := trivial
theorem hd0.tw6062643184621189875 : True := trivial
theorem hd0.tw15389241651499710389 : True := trivial
theorem hd0.tw16788234594190417584 : True := trivial
theorem hd0.tw1597637715128213681 : True := trivial
theorem hd0.tw10498964822654063026 : True := trivial
theorem hd0.tw6643238626148955698 : True := trivial
theorem hd0.tw4562695010225406382 : True := trivial
theorem hd0.tw1280484567907817961 : True := trivial
theorem hd0.tw5173078720295292078 : True := trivial
theorem hd0.tw5366906053448781924 : True := trivial
theorem hd0.tw4246812479124471808 : True := trivial
theorem hd0.tw4964845553990846222 : True := trivial
theorem hd0.tw1417947228256288561 : True := trivial
theorem hd0.tw17828249871568911703 : True := trivial
theorem hd0.tw6649401386675659039 : True := trivial
theorem hd0.tw9745709091790514047 : True := trivial
theorem hd0.tw3525650266765315696 : True := trivial
theorem hd0.tw11797003534878959301 : True := trivial
theorem hd0.tw9588568164011065487 : True := trivial
theorem hd0.tw5328798070617476075 : True := trivial
theorem hd0.tw6371508206912872073 : True := trivial
theorem hd0.tw5851460317537991607 : True := trivial
theorem hd0.tw10893015288667660014 : True := trivial
theorem hd0.tw6175420903726235015 : True := trivial
theorem hd0.tw4496683107371181865 : True := trivial
theorem hd0.tw7971345679002030817 : True := trivial
theorem hd0.tw2008372144067494435 : True := trivial
theorem hd0.tw18128571658164433924 : True := trivial
theorem hd0.tw7079748053240274874 : True := trivial
theorem hd0.tw12003068471920674386 : True := trivial
theorem hd0.tw15175115603890962481 : True := trivial
theorem hd0.tw10121685255857489051 : True := trivial
theorem hd0.tw16389596510190857529 : True := trivial
theorem hd0.tw7415385052924869713 : True := trivial
theorem hd0.tw1562688426800042800 : True := trivial
theorem hd0.tw10260036693505685281 : True := trivial
theorem hd0.tw8239782323564299538 : True := trivial
theorem hd0.tw7614193382627860833 : True := trivial
theorem hd0.tw16271690622389391696 : True := trivial
theorem hd0.tw2735401655943086511 : True := trivial
theorem hd0.tw5886135802988145460 : True := trivial
theorem hd0.tw10783142842391291914 : True := trivial
theorem hd0.tw18135268618719461282 : True := trivial
theorem hd0.tw6370926679442433380 : True := trivial
theorem hd0.tw10999217049103145239 : True := trivial
theorem hd0.tw9022554804500196224 : True := trivial
theorem hd0.tw12341762187451597905 : True := trivial
theorem hd0.tw14553179797840557467 : True := trivial
theorem hd0.tw14397348241044380734 : True := trivial
theorem hd0.tw5721069425725921740 : True := trivial
theorem hd0.tw10392444505398027283 : True := trivial
theorem hd0.tw16799398214865156367 : True := trivial
theorem hd0.tw7623283449146697146 : True := trivial
theorem hd0.tw5093094753107941602 : True := trivial
theorem hd0.tw8433178389996576230 : True := trivial
theorem hd0.tw9001251600818444179 : True := trivial
theorem hd0.tw5447685084907291095 : True := trivial
theorem hd0.tw5151245016333330754 : True := trivial
theorem hd0.tw2860899101727606338 : True := trivial
theorem hd0.tw1512869562912987329 : True := trivial
theorem hd0.tw11614672710775262937 : True := trivial
theorem hd0.tw4663038693165263023 : True := trivial
theorem hd0.tw9636976457204810352 : True := trivial
theorem hd0.tw11573459230172034977 : True := trivial
theorem hd0.tw8125271861009673391 : True := trivial
theorem hd0.tw17651327042114731174 : True := trivial
theorem hd0.tw12276868589851284407 : True := trivial
theorem hd0.tw7609028302745033977 : True := trivial
theorem hd0.tw1779554380871787090 : True := trivial
theorem hd0.tw12489974410676362506 : True := trivial
theorem hd0.tw11239748424757995403 : True := trivial
theorem hd0.tw539940733940218950 : True := trivial
theorem hd0.tw8428931017558521197 : True := trivial
theorem hd0.tw13960838486111706346 : True := trivial
theorem hd0.tw12244509886447296242 : True := trivial
theorem hd0.tw6998471644465347158 : True := trivial
theorem hd0.tw2510589942101626497 : True := trivial
theorem hd0.tw4211294207157064120 : True := trivial
theorem hd0.tw9777354187630944624 : True := trivial
theorem hd0.tw14602483098564173615 : True := trivial
theorem hd0.tw9802666196054454208 : True := trivial
theorem hd0.tw4505414625599408467 : True := trivial
theorem hd0.tw3465554795787012971 : True := trivial
theorem hd0.tw16057218211864961754 : True := trivial
theorem hd0.tw9846644877726163059 : True := trivial
theorem hd0.tw179991387133551241 : True := trivial
theorem hd0.tw17444978098136114977 : True := trivial
theorem hd0.tw11296317026604976579 : True := trivial
theorem hd0.tw15134839469752433495 : True := trivial
theorem hd0.tw122436498391896827 : True := trivial
theorem hd0.tw8503028519756171898 : True := trivial
theorem hd0.tw9622248605331731502 : True := trivial
theorem hd0.tw5354866172724995518 : True := trivial
theorem hd0.tw2329996539569397640 : True := trivial
theorem hd0.tw13486330257028493506 : True := trivial
theorem hd0.tw6974484485679511188 : True := trivial
theorem hd0.tw14463224177211564323 : True := trivial
theorem hd0.tw16255563409837272293 : True := trivial
theorem hd0.tw14332817513447026307 : True := trivial
theorem hd0.tw14667944589569409166 : True := trivial
theorem hd0.tw1359104647744391194 : True := trivial
theorem hd0.tw4504473542979724961 : True := trivial
theorem hd0.tw12171479601555845635 : True := trivial
theorem hd0.tw13218809760150993585 : True := trivial
theorem hd0.tw18143976691941029074 : True := trivial
theorem hd0.tw5353220722972676460 : True := trivial
theorem hd0.tw10834066803405267298 : True := trivial
theorem hd0.tw2093440984422149139 : True := trivial
theorem hd0.tw7359261033328424013 : True := trivial
theorem hd0.tw17259225582567307977 : True := trivial
theorem hd0.tw18253309430737647335 : True := trivial
theorem hd0.tw15233396900245208191 : True := trivial
theorem hd0.tw13291091997398420451 : True := trivial
theorem hd0.tw773914070166202923 : True := trivial
theorem hd0.tw7662431337288749014 : True := trivial
theorem hd0.tw3374477748439934669 : True := trivial
theorem hd0.tw17823266487745473820 : True := trivial
theorem hd0.tw17636036072376682784 : True := trivial
theorem hd0.tw7970355855660570498 : True := trivial
theorem hd0.tw14139502865228493775 : True := trivial
theorem hd0.tw10282353163112612276 : True := trivial
theorem hd0.tw11115630303567131559 : True := trivial
theorem hd0.tw13510157072313097611 : True := trivial
theorem hd0.tw7639661606733977184 : True := trivial
theorem hd0.tw17557899024913747603 : True := trivial
theorem hd0.tw2514418997314332413 : True := trivial
theorem hd0.tw11017282251955597146 : True := trivial
theorem hd0.tw113680085351987624 : True := trivial
theorem hd0.tw17998732546299578792 : True := trivial
theorem hd0.tw650764759088172349 : True := trivial
theorem hd0.tw3687058039446345037 : True := trivial
theorem hd0.tw1601430817000102872 : True := trivial
theorem hd0.tw3231066042875082792 : True := trivial
theorem hd0.tw11520006908099386746 : True := trivial
theorem hd0.tw3742632825282854878 : True := trivial
theorem hd0.tw12933303735471307315 : True := trivial
theorem hd0.tw3280791499721090808 : True := trivial
theorem hd0.tw13545224959385804456 : True := trivial
theorem hd0.tw11255595454929966185 : True := trivial
theorem hd0.tw11580911146225420957 : True := trivial
theorem hd0.tw16112012934339231772 : True := trivial
theorem hd0.tw9589788102987637898 : True := trivial
theorem hd0.tw1237551924186500246 : True := trivial
theorem hd0.tw5795620790108031851 : True := trivial
theorem hd0.tw8829411451785746636 : True := trivial
theorem hd0.tw15883065056585263411 : True := trivial
theorem hd0.tw7579484373256523769 : True := trivial
theorem hd0.tw16427158468746511654 : True := trivial
theorem hd0.tw16664977806865809019 : True := trivial
theorem hd0.tw11532703464391966607 : True := trivial
theorem hd0.tw12751726420226901460 : True := trivial
theorem hd0.tw463379757040502600 : True := trivial
theorem hd0.tw4837166207565515596 : True := trivial
theorem hd0.tw14861641958691549802 : True := trivial
theorem hd0.tw12921619473888229003 : True := trivial
theorem hd0.tw1191622958437496830 : True := trivial
theorem hd0.tw2808911380250203912 : True := trivial
theorem hd0.tw4632445285567490079 : True := trivial
theorem hd0.tw12319278043188072571 : True := trivial
theorem hd0.tw11759931035086368862 : True := trivial
theorem hd0.tw8685259877602558530 : True := trivial
theorem hd0.tw4691257246625332865 : True := trivial
theorem hd0.tw3093808528041796494 : True := trivial
theorem hd0.tw4864754268065981865 : True := trivial
theorem hd0.tw15746713401997345701 : True := trivial
theorem hd0.tw7746724291664459861 : True := trivial
theorem hd0.tw8900189494578354568 : True := trivial
theorem hd0.tw6865537962405302380 : True := trivial
theorem hd0.tw8475788313178198593 : True := trivial
theorem hd0.tw3153493263474777528 : True := trivial
theorem hd0.tw1903914753097239244 : True := trivial
theorem hd0.tw14595221640817416183 : True := trivial
theorem hd0.tw12075429309070946594 : True := trivial
theorem hd0.tw12584882590044025211 : True := trivial
theorem hd0.tw5429866549726478036 : True := trivial
theorem hd0.tw2630645244069355918 : True := trivial
theorem hd0.tw15478791486184338690 : True := trivial
theorem hd0.tw543060588611493414 : True := trivial
theorem hd0.tw961968547571948100 : True := trivial
theorem hd0.tw1673108226327096836 : True := trivial
theorem hd0.tw13143500989680652158 : True := trivial
theorem hd0.tw17327177587765197472 : True := trivial
theorem hd0.tw17058962927632970581 : True := trivial
theorem hd0.tw619783545232244655 : True := trivial
theorem hd0.tw9454721371543059285 : True := trivial
theorem hd0.tw17111967392191881361 : True := trivial
theorem hd0.tw17529906274252830889 : True := trivial
theorem hd0.tw7808699968346434859 : True := trivial
theorem hd0.tw15921446404595158815 : True := trivial
theorem hd0.tw866052350247734544 : True := trivial
theorem hd0.tw12784123285358203314 : True := trivial
theorem hd0.tw1174218808468287412 : True := trivial
theorem hd0.tw5677135109947497480 : True := trivial
theorem hd0.tw12323965438945104229 : True := trivial
theorem hd0.tw3478441296818514767 : True := trivial
theorem hd0.tw9402539598613710537 : True := trivial
theorem hd0.tw13012256603424907846 : True := trivial
theorem hd0.tw14891386369280825845 : True := trivial
theorem hd0.tw11064160589316715639 : True := trivial
theorem hd0.tw13774004877433310113 : True := trivial
theorem hd0.tw4301605040222552612 : True := trivial
theorem hd0.tw13553586316924007284 : True := trivial
theorem hd0.tw1700567991170962110 : True := trivial
theorem hd0.tw3752284228027186358 : True := trivial
theorem hd0.tw5215330951671769291 : True := trivial
theorem hd0.tw2872236389525822384 : True := trivial
theorem hd0.tw1862731975049639359 : True := trivial
theorem hd0.tw9387283391072121096 : True := trivial
theorem hd0.tw15631703557454890568 : True := trivial
theorem hd0.tw309277354587492579 : True := trivial
theorem hd0.tw2827288076518157466 : True := trivial
theorem hd0.tw5381195712251870386 : True := trivial
theorem hd0.tw4747281084397564757 : True := trivial
theorem hd0.tw13198788859858803882 : True := trivial
theorem hd0.tw14219380631129882139 : True := trivial
theorem hd0.tw3540153769243320697 : True := trivial
theorem hd0.tw15651294698572667320 : True := trivial
theorem hd0.tw8196393364371573391 : True := trivial
theorem hd0.tw9056650140919055547 : True := trivial
theorem hd0.tw12805207464963118493 : True := trivial
theorem hd0.tw7005178408466318249 : True := trivial
theorem hd0.tw13487184783045432306 : True := trivial
theorem hd0.tw5873444610005042059 : True := trivial
theorem hd0.tw10780423286290277794 : True := trivial
theorem hd0.tw9198760036051492388 : True := trivial
theorem hd0.tw2350088028635606421 : True := trivial
theorem hd0.tw295419916050123564 : True := trivial
theorem hd0.tw14751195016474515691 : True := trivial
theorem hd0.tw12056577157831287533 : True := trivial
theorem hd0.tw1087435185961119440 : True := trivial
theorem hd0.tw8052174542758884176 : True := trivial
theorem hd0.tw14210159926740337751 : True := trivial
theorem hd0.tw4345986799964169788 : True := trivial
theorem hd0.tw6271287328366208365 : True := trivial
theorem hd0.tw17312371794062739880 : True := trivial
theorem hd0.tw13934678020478736222 : True := trivial
theorem hd0.tw2863537065255238847 : True := trivial
theorem hd0.tw2363418288071270291 : True := trivial
theorem hd0.tw9957591292199686767 : True := trivial
theorem hd0.tw1025568017903320858 : True := trivial
theorem hd0.tw15726108546692610502 : True := trivial
theorem hd0.tw4909836705566933740 : True := trivial
theorem hd0.tw7352300727901408656 : True := trivial
theorem hd0.tw5890942443033146247 : True := trivial
theorem hd0.tw3801753739915242578 : True := trivial
theorem hd0.tw18132021507681513943 : True := trivial
theorem hd0.tw8575195297261919627 : True := trivial
theorem hd0.tw11329978527411681000 : True := trivial
theorem hd0.tw5900601929854858263 : True := trivial
theorem hd0.tw243666046294145252 : True := trivial
theorem hd0.tw17910583106863524117 : True := trivial
theorem hd0.tw16615932755609689693 : True := trivial
theorem hd0.tw18344095453417198420 : True := trivial
theorem hd0.tw2280702184356970510 : True := trivial
theorem hd0.tw12665113834384165610 : True := trivial
set_option Elab.async true in
set_option maxRecDepth 100000 in
set_option maxHeartbeats 0 in
theorem hd0 : True := by
  refine (fun (_key : Any ?P → PySem.Challenge.rw_nt0120_01.Holds) => trivial) ?key
  case key =>
    as_aux_lemma =>
      intro h
      w_on
      o_law
      k_head
      case hw => w_witness2
      exact h.out
end
/-! ## BD -/
section
set_option compiler.extract_closed false
theorem bdl {a91 c91 d91 : Nat} (h91 : a91 ≤ c91) (z91 : Nat.ble c91 d91 = true) : a91 ≤ d91 := Nat.le_trans h91 (Nat.le_of_ble_eq_true z91)
theorem bdt {a91 c91 d91 : Nat} (h91 : a91 ≤ c91) (z91 : Nat.blt c91 d91 = true) : a91 < d91 := Nat.lt_of_le_of_lt h91 (Nat.le_of_ble_eq_true z91)
theorem bdi {a91 c91 d91 : Nat} (h91 : a91 ≤ c91) (z91 : Nat.blt c91 d91 = true) : (a91 : Int) < @OfNat.ofNat Int d91 _ := Int.ofNat_lt.mpr (bdt h91 z91)
theorem bd62 {a91 c91 : Nat} (h91 : a91 ≤ c91) (z91 : Nat.ble c91 1000000 = true) : (a91 : Int) < 2 ^ 62 := Int.lt_of_le_of_lt (Int.ofNat_le.mpr (bdl h91 z91)) (by decide)
theorem bd63 {a91 c91 : Nat} (h91 : a91 ≤ c91) (z91 : Nat.ble c91 1000000 = true) : (a91 : Int) < 2 ^ 63 := Int.lt_of_le_of_lt (Int.ofNat_le.mpr (bdl h91 z91)) (by decide)
theorem bx64 {x91 : Int} {c91 : Nat} (h91 : x91 < @OfNat.ofNat Int c91 _) (z91 : Nat.ble c91 18446744073709551616 = true) : x91 < 2 ^ 64 := Int.lt_of_lt_of_le h91 (Int.le_trans (Int.ofNat_le.mpr (Nat.le_of_ble_eq_true z91)) (by decide))
theorem bx63 {x91 : Int} {c91 : Nat} (h91 : x91 < @OfNat.ofNat Int c91 _) (z91 : Nat.ble c91 1000000 = true) : x91 < 2 ^ 63 := Int.lt_of_lt_of_le h91 (Int.le_trans (Int.ofNat_le.mpr (Nat.le_of_ble_eq_true z91)) (by decide))
theorem bx10 {x91 : Int} {c91 : Nat} (h91 : x91 < @OfNat.ofNat Int c91 _) (z91 : Nat.ble c91 1000000 = true) : x91 < 10 ^ 10 := Int.lt_of_lt_of_le h91 (Int.le_trans (Int.ofNat_le.mpr (Nat.le_of_ble_eq_true z91)) (by decide))
theorem bp1920 : (1000000 : Int) ≤ 2 ^ 1920 := by omega
theorem bx1920 {x91 : Int} {c91 : Nat} (h91 : x91 < @OfNat.ofNat Int c91 _) (z91 : Nat.ble c91 1000000 = true) : x91 < 2 ^ 1920 := Int.lt_of_lt_of_le h91 (Int.le_trans (Int.ofNat_le.mpr (Nat.le_of_ble_eq_true z91)) bp1920)
theorem bd1920 {a91 c91 : Nat} (h91 : a91 ≤ c91) (z91 : Nat.blt c91 1000000 = true) : (a91 : Int) < 2 ^ 1920 := bx1920 (c91 := 1000000) (Int.ofNat_lt.mpr (bdt h91 z91)) rfl
theorem bxl {x91 : Int} {c91 d91 : Nat} (h91 : x91 < @OfNat.ofNat Int c91 _) (z91 : Nat.ble c91 d91 = true) : x91 < @OfNat.ofNat Int d91 _ := Int.lt_of_lt_of_le h91 (Int.ofNat_le.mpr (Nat.le_of_ble_eq_true z91))
theorem bn64 {x91 : Int} (h91 : 0 ≤ x91) : -2 ^ 64 < x91 := Int.lt_of_lt_of_le (by decide) h91
theorem bn1920 {x91 : Int} (h91 : 0 ≤ x91) : -2 ^ 1920 < x91 := Int.lt_of_lt_of_le (by have := bp1920; omega) h91
theorem bn62 {a91 : Nat} : -2 ^ 62 ≤ (a91 : Int) := Int.le_trans (by decide) (Int.natCast_nonneg a91)
theorem bnadd {a91 k91 : Nat} : 0 ≤ (a91 : Int) + @OfNat.ofNat Int k91 _ := Int.natCast_nonneg (a91 + k91)
theorem bnn {a91 b91 : Nat} : 0 ≤ (a91 : Int) + (b91 : Int) := Int.natCast_nonneg (a91 + b91)
theorem lit {a91 c91 : Nat} (h91 : a91 ≤ @OfNat.ofNat Nat c91 (instOfNatNat c91)) : a91 ≤ c91 := h91
theorem litt {a91 c91 : Nat} (h91 : a91 < @OfNat.ofNat Nat c91 (instOfNatNat c91)) : a91 ≤ Nat.pred c91 := Nat.le_pred_of_lt h91
theorem lite {a91 c91 : Nat} (h91 : a91 = @OfNat.ofNat Nat c91 (instOfNatNat c91)) : a91 ≤ c91 := Nat.le_of_eq h91
theorem leE {a91 b91 c91 : Nat} (h91 : a91 = b91) (k91 : b91 ≤ c91) : a91 ≤ c91 := h91 ▸ k91
theorem leS {a91 b91 c91 : Nat} (h91 : b91 = a91) (k91 : b91 ≤ c91) : a91 ≤ c91 := h91 ▸ k91
theorem leT {a91 b91 c91 : Nat} (h91 : a91 < b91) (k91 : b91 ≤ c91) : a91 ≤ c91 := Nat.le_trans (Nat.le_of_lt h91) k91
theorem leI {a91 b91 c91 : Nat} (h91 : (a91 : Int) < (b91 : Int)) (k91 : b91 ≤ c91) : a91 ≤ c91 := leT (Int.ofNat_lt.mp h91) k91
theorem leA {a91 k91 c91 : Nat} (h91 : a91 ≤ c91) : a91 + k91 ≤ c91 + k91 := Nat.add_le_add_right h91 k91
theorem leM {a91 b91 c91 : Nat} (h91 : a91 ≤ c91) : min a91 b91 ≤ c91 := Nat.le_trans (Nat.min_le_left a91 b91) h91
theorem leN {a91 b91 c91 : Nat} (h91 : b91 ≤ c91) : min a91 b91 ≤ c91 := Nat.le_trans (Nat.min_le_right a91 b91) h91
theorem leD {a91 b91 c91 : Nat} (h91 : a91 ≤ c91) : a91 - b91 ≤ c91 := Nat.le_trans (Nat.sub_le a91 b91) h91
theorem lt_eq {a91 b91 c91 : Nat} (h91 : a91 < b91) (e91 : b91 = c91) : a91 < c91 := e91 ▸ h91
theorem lt_qe {a91 b91 c91 : Nat} (h91 : a91 < b91) (e91 : c91 = b91) : a91 < c91 := e91 ▸ h91
theorem ilt {a91 b91 : Nat} (h91 : a91 < b91) : (a91 : Int) < (b91 : Int) := Int.ofNat_lt.mpr h91
theorem ieq {a91 b91 : Nat} (h91 : a91 = b91) : (a91 : Int) = (b91 : Int) := h91 ▸ rfl
theorem sle {a91 b91 : Nat} (h91 : a91 ≤ b91) : a91 + (0 + 1) ≤ b91 + 1 := Nat.succ_le_succ h91
theorem sne {a91 b91 : Nat} (h91 : a91 ≤ b91) (k91 : ¬ a91 < b91) : a91 = b91 := Nat.le_antisymm h91 (Nat.le_of_not_lt k91)
theorem dec1 {i91 n91 : Nat} (h91 : i91 < n91) : n91 - (i91 + 1) < n91 - i91 := Nat.sub_succ_lt_self n91 i91 h91
theorem tnl {a91 b91 : Nat} (h91 : a91 < b91) : (a91 : Int).toNat < b91 := h91
theorem mineq {a91 b91 c91 d91 : Nat} (h91 : a91 = c91) (k91 : b91 = d91) : ((min a91 b91 : Nat) : Int) = ((min c91 d91 : Nat) : Int) := by rw [h91, k91]
theorem neC {I91 D91 C91 : Nat} (e91 : C91 = D91 + 1) (h91 : I91 < D91) : I91 ≠ C91 := by omega
theorem neQ {D91 C91 : Nat} (e91 : C91 = D91 + 1) : D91 ≠ C91 := by omega
theorem leQ {D91 C91 : Nat} (e91 : C91 = D91 + 1) : D91 ≤ C91 := by omega
theorem nltl {a91 D91 : Nat} (e91 : D91 ≤ a91) : ¬ a91 < D91 := Nat.not_lt.mpr e91
theorem neg1 {x91 : Int} (h91 : -1 ≤ x91) (k91 : ¬ x91 = -1) : 0 ≤ x91 := by omega
theorem negc {a91 : Nat} : -1 ≤ (a91 : Int) := Int.le_trans (by decide) (Int.natCast_nonneg a91)
theorem nlt0 {a91 : Nat} : ¬ (a91 : Int) < 0 := Int.not_lt.mpr (Int.natCast_nonneg a91)
theorem le63 {a91 : Nat} : -2 ^ 63 ≤ (a91 : Int) := Int.le_trans (by decide) (Int.natCast_nonneg a91)
theorem rng {x91 : Int} {c91 d91 : Nat} (h91 : 0 ≤ x91) (k91 : x91 < @OfNat.ofNat Int c91 _) (z91 : Nat.ble c91 d91 = true) : 0 ≤ x91 ∧ x91 < @OfNat.ofNat Int d91 _ := ⟨h91, bxl k91 z91⟩
theorem nat3 {a91 b91 : Nat} (h91 : 3 ≤ b91) (k91 : a91 < 3) : (a91 : Int) < (b91 : Int) := Int.ofNat_lt.mpr (Nat.lt_of_lt_of_le k91 h91)
theorem binatcast_nonneg {a91 : Nat} : 0 ≤ (a91 : Int) := Int.natCast_nonneg a91
theorem bnzero_le {a91 : Nat} : 0 ≤ a91 := Nat.zero_le a91
theorem bnsucc_pos {a91 : Nat} : 0 < a91 + 1 := Nat.succ_pos a91
theorem bnle_trans {a91 b91 c91 : Nat} (e91 : a91 ≤ b91) (h91 : b91 ≤ c91) : a91 ≤ c91 := Nat.le_trans e91 h91
theorem bnle_refl {a91 : Nat} : a91 ≤ a91 := Nat.le_refl a91
theorem bnlt_of_lt_of_le {a91 b91 c91 : Nat} (e91 : a91 < b91) (h91 : b91 ≤ c91) : a91 < c91 := Nat.lt_of_lt_of_le e91 h91
theorem bnlt_of_le_of_lt {a91 b91 c91 : Nat} (e91 : a91 ≤ b91) (h91 : b91 < c91) : a91 < c91 := Nat.lt_of_le_of_lt e91 h91
theorem besymm {α91 : Type} {a91 b91 : α91} (h91 : a91 = b91) : b91 = a91 := h91.symm
theorem betrans {α91 : Type} {a91 b91 c91 : α91} (h91 : a91 = b91) (k91 : b91 = c91) : a91 = c91 := h91.trans k91
theorem bnsucc_le_succ {a91 b91 : Nat} (h91 : a91 ≤ b91) : a91 + 1 ≤ b91 + 1 := Nat.succ_le_succ h91
theorem bnle_succ_of_le {a91 b91 : Nat} (h91 : a91 ≤ b91) : a91 ≤ b91 + 1 := Nat.le_succ_of_le h91
theorem bnlt_succ_of_lt {a91 b91 : Nat} (h91 : a91 < b91) : a91 < b91 + 1 := Nat.lt_succ_of_lt h91
theorem bile_of_lt {a91 b91 : Int} (h91 : a91 < b91) : a91 ≤ b91 := Int.le_of_lt h91
theorem bnle_of_lt {a91 b91 : Nat} (h91 : a91 < b91) : a91 ≤ b91 := Nat.le_of_lt h91
theorem bnne_of_lt {a91 b91 : Nat} (h91 : a91 < b91) : a91 ≠ b91 := Nat.ne_of_lt h91
theorem bnne_of_gt {a91 b91 : Nat} (h91 : b91 < a91) : a91 ≠ b91 := Nat.ne_of_gt h91
theorem ltML {i91 a91 b91 : Nat} (h91 : i91 < min a91 b91) : i91 < a91 := Nat.lt_of_lt_of_le h91 (Nat.min_le_left _ _)
theorem ltMR {i91 a91 b91 : Nat} (h91 : i91 < min a91 b91) : i91 < b91 := Nat.lt_of_lt_of_le h91 (Nat.min_le_right _ _)
theorem lt_eq' {a91 b91 c91 : Nat} (e91 : b91 = c91) (h91 : a91 < b91) : a91 < c91 := e91 ▸ h91
theorem lt_qe' {a91 b91 c91 : Nat} (e91 : c91 = b91) (h91 : a91 < b91) : a91 < c91 := e91 ▸ h91
end
local macro_rules | `(tactic| ktn_no "nub") => `(tactic| first
  | apply leA; ktn_no "nub"
  | apply lit; assumption
  | apply litt; assumption
  | apply lite; assumption
  | apply leE; assumption; ktn_no "nub"
  | apply bnle_trans; assumption; ktn_no "nub"
  | apply leT; assumption; ktn_no "nub"
  | apply leI; assumption; ktn_no "nub"
  | apply leM; ktn_no "nub"
  | apply leN; ktn_no "nub"
  | apply leD; ktn_no "nub"
  | apply bnle_refl)
local macro_rules | `(tactic| ktn_no "nl1") => `(tactic| first
  | assumption
  | apply ltML; assumption
  | apply ltMR; assumption
  | apply bnlt_of_lt_of_le <;> assumption
  | apply bnlt_of_le_of_lt <;> assumption
  | fail)
local macro_rules | `(tactic| ktn_no "nlt") => `(tactic| first
  | ktn_no "nl1"
  | apply lt_qe'; assumption; ktn_no "nl1"
  | apply lt_eq'; assumption; ktn_no "nl1")
local macro_rules | `(tactic| ktn_no "neq") => `(tactic| first
  | assumption
  | apply besymm; assumption
  | apply betrans <;> first | assumption | (apply besymm; assumption))
local macro_rules | `(tactic| omega) => `(tactic| with_reducible first
  | assumption
  | decide
  | (first | apply binatcast_nonneg | apply bnzero_le | apply bnadd | apply bnsucc_pos | apply negc | apply le63 | apply bn62 | apply nlt0); done
  | (first | apply bdl | apply bdt | apply bd63 | apply bd62 | apply bd1920 | apply bdi); ktn_no "nub"; with_unfolding_all exact Eq.refl true
  | (first | apply bx64 | apply bx63 | apply bx10 | apply bx1920 | apply bxl); assumption; with_unfolding_all exact Eq.refl true
  | (first | apply bn64 | apply bn1920 | apply sle | apply bnsucc_le_succ | apply bnle_succ_of_le | apply bnlt_succ_of_lt | apply dec1 | apply bile_of_lt | apply leQ | apply neQ | apply nltl); assumption
  | apply bnle_of_lt; assumption
  | (first | apply sne | apply neC | apply mineq | apply nat3 | apply neg1) <;> assumption
  | (first | apply ilt | apply tnl); ktn_no "nlt"
  | apply ieq; ktn_no "neq"
  | apply rng <;> first | assumption | with_unfolding_all exact Eq.refl true
  | (first | apply bnne_of_lt | apply bnne_of_gt); assumption
  | ktn_no "nlt"
  | ktn_no "neq"
  | fail)
/-! ## CR -/
section
open PySem.Sem (wp)
section
variable {prog : Program} {w : World} {A : Around} {E : Value → Shared → Prop} {s : Shared} {env : Env}
theorem execsC_cons {st : Stmt} {rest : List Stmt} {Q : Flow → Shared → Prop}
    (h : wpC (model prog w) A (exec st env) (fun f s' => match f with | .next => wpC (model prog w) A (execs rest env) Q E s' | f => Q f s') E s) : wpC (model prog w) A (execs (st :: rest) env) Q E s := by
  rw [execs_cons]
  refine wpC_bind (wpC_mono h (fun f s' h' => ?_) fun _ _ h' => h')
  cases f <;> first | exact h' | exact wpC_pure h'
theorem execsC_A {st : Stmt} {rest : List Stmt} {Q : Flow → Shared → Prop}
    (h : wpAny (model prog w) A (exec st env) (fun f s' => match f with | .next => wpC (model prog w) A (execs rest env) Q E s' | f => Q f s') E s) : wpC (model prog w) A (execs (st :: rest) env) Q E s := execsC_cons (wpC_any h)
theorem AssignC {x : Str} {pos' pos : Pos} {value : PySem.Expr} {Q : Flow → Shared → Prop}
    (h : wpC (model prog w) A (eval value env) (fun v s₁ => wpAny (model prog w) A (storeName env x v) (fun _ => Q .next) E s₁) E s)
    (hs : swapsWith value (some (.Name x pos')) pos.line env = pure false := by rfl) : wpC (model prog w) A (exec (.Assign [.Name x pos'] value pos) env) Q E s := by
  rw [exec_Assign_Name env x pos' value pos hs]
  refine wpC_bind (wpC_standAt (wpC_bind (wpC_mono h (fun v s₁ h₁ => ?_) fun _ _ h' => h')))
  exact wpC_any (wpAny_bind (wpAny_standAt (wpAny_bind (wpAny_bindName (wpAny_mono h₁ (fun _ _ q => wpAny_pure q) fun _ _ e => e)))))
theorem ExprC {e : PySem.Expr} {pos : Pos} {Q : Flow → Shared → Prop} (h : wpC (model prog w) A (eval e env) (fun _ => Q .next) E s)
    (hi : interactive env = false := by rfl) (hs : swapsWith e none pos.line env = pure false := by rfl) : wpC (model prog w) A (exec (.Expr e pos) env) Q E s := by
  rw [exec_Expr env e pos hi hs]
  exact wpC_bind (wpC_standAt (wpC_bind (wpC_mono h (fun v s' h' => wpC_any (wpAny_dropValue h')) fun _ _ x => x)))
theorem CallNameC {x : Str} {p pos : Pos} {args : List PySem.Expr} {Q : Value → Shared → Prop}
    (h : wpAny (model prog w) A (eval (.Name x p) env) (fun f s₁ => wpC (model prog w) A (callWith pos f [] (backTo pos (starEach args env)) []) Q E s₁) E s) : wpC (model prog w) A (eval (.Call (.Name x p) args [] pos) env) Q E s := by
  show wpC _ A (eval (.Name x p) env >>= fun f => callWith pos f [] (backTo pos (starEach args env)) []) Q E s
  exact wpC_bindA h
theorem CallAttrC {pl : Sem Bool} {o : PySem.Expr} {name : Str} {apos pos : Pos} {args : List PySem.Expr} {Q : Value → Shared → Prop}
    (h : wpAny (model prog w) A (eval o env) (fun ov s₁ => wpAny (model prog w) A (getMethod ov name pl) (fun fx s₂ => wpC (model prog w) A (callWith pos fx.1 fx.2 (backTo pos (starEach args env)) []) Q E s₂) E s₁) E s)
    (he : eval (.Call (.Attribute o name apos) args [] pos) env = (do
      let ov ← eval o env
      standAt apos.atName
      let (f, first) ← holding [ov] (getMethod ov name pl)
      callWith pos f first (backTo pos (starEach args env)) []) := by rfl) : wpC (model prog w) A (eval (.Call (.Attribute o name apos) args [] pos) env) Q E s := by
  rw [he]
  refine wpC_bindA (wpAny_mono h (fun ov s₁ h₁ => wpC_bind (wpC_standAt (wpC_bind (wpC_holding (wpC_mono (wpC_any h₁) (fun fx s₂ h₂ => ?_) fun _ _ x => x))))) fun _ _ x => x)
  exact h₂
theorem wpC_keep {α : Type} {M : Model} {vs : List Value} {m : Sem α} {Q : α → Shared → Prop} (h : wpC M A m Q E s) : wpC M A (m.keep vs) Q E s :=
  fun Γ p hΓ hd hb => by rw [Sem.wp_keep]; exact h Γ p hΓ hd hb
theorem callWithC {P : Heap → Prop} {pos : Pos} {f : Value} {first : List Value} {args : List (Bool × Sem Value)} {Q : Value → Shared → Prop} (hplain : args.any (·.1) = false)
    (hk : ∀ h, P h → ∃ k, (k = Keeper.frame ∨ k = Keeper.machine ∨ k = Keeper.boundFrame) ∧ Looks (model prog w) h (keeperOf f) k)
    (h : wpC (model prog w) A (evalArgs f true args []) (fun a s₁ => P s₁.heap ∧ wpC (model prog w) A (call f (first ++ a.pos) a.kw) Q E s₁) E s) : wpC (model prog w) A (callWith pos f first args []) Q E s := by
  unfold callWith
  refine wpC_bind (wpC_holding (wpC_mono h (fun a s₁ h₁ => wpC_bind (wpC_standAt ?_)) fun _ _ x => x))
  obtain ⟨k, hk', L⟩ := hk _ h₁.1
  simp only [hplain, List.any_nil, Bool.or_false]
  refine wpC_bindA (L.here ?_)
  have tail : ∀ {t : Sem Value}, wpC (model prog w) A t Q E s₁ → wpC (model prog w) A (t >>= fun r => holding [r] point >>= fun _ => pure r) Q E s₁ :=
    fun ht => wpC_bind (wpC_mono ht (fun r s₂ hr => wpC_bind (wpC_holding (wpC_point (wpC_pure hr)))) fun _ _ x => x)
  have marked (mk : Value) : wpC (model prog w) A (callMarked mk f (first ++ a.pos) a.kw) Q E s₁ := by unfold callMarked; exact wpC_keep h₁.2
  rcases hk' with rfl | rfl | rfl <;> dsimp only <;> first | exact tail h₁.2 | (split <;> first | exact tail h₁.2 | exact tail (marked _))
theorem evalArgsC1 {f : Value} {x : Sem Value} {Q : Args → Shared → Prop} (h : wpC (model prog w) A x (fun v s' => Q ⟨[v], []⟩ s') E s) : wpC (model prog w) A (evalArgs f true [(false, x)] []) Q E s := by
  unfold evalArgs
  show wpC _ A (spliced [(false, x)] >>= _) Q E s
  refine wpC_bind ?_
  unfold spliced
  refine wpC_bind (wpC_mono h (fun v s₁ h₁ => ?_) fun _ _ e => e)
  refine wpC_bind (wpC_pure ?_)
  refine wpC_bind (wpC_holding (wpC_pure (wpC_pure ?_)))
  refine wpC_holding ?_
  exact wpC_bind (wpC_pure (wpC_bind (wpC_pure (wpC_pure h₁))))
theorem codeC_call_function {R : Result → Shared → Prop} {a : Addr} {args : Args} {o : Obj} {fd : FuncData} {body : List Stmt} (hroom : A.depth < recursionLimit) (ho : s.heap.get? a = some o)
    (hd : o.data = .func fd) (hco : fd.scope.isCoroutine = false) (hgen : fd.scope.isGenerator = false) (hbody : fd.body = .stmts body) (hcd : s.heap.CodeRec fd.code fd.qualname)
    (h : wpAny (model prog w) A.in1 (bindArgs fd args) (fun binds s₁ => wpAny (model prog w) A.in1 (newFunctionEnv fd.scope fd.globals fd.closure binds (fd.qualname ++ ".<locals>.") (some a) fd.code none fd.builtins)
        (fun env s₂ => s₂.heap.NoLimit ∧ codeC (model prog w) A (.func body env) R s₂) (fun e s' => R (.error e) s') s₁) (fun e s' => R (.error e) s') s) : codeC (model prog w) A (.call (.ref a) args) R s := by
  refine codeC_of_tree rfl (wpC_any ?_)
  show wpAny _ A.in1 (callAny (.ref a) args) _ _ s
  simp only [callAny]
  refine wpAny_bind (wpAny_load ho ?_)
  refine hide fun G99 hG99 => ?_
  obtain ⟨c, oc, vs, tq, hc, hoc, hdc, hq⟩ := hcd
  refine hG99 ?_
  clear hG99 G99
  simp only [hd, callFunction, hco, hgen, hbody, hc]
  rw [hc] at h
  refine wpAny_bind (m := field (.ref c) 1) (wpAny_field hoc hdc hq (wpAny_bind (wpAny_pure ?_)))
  exact wpAny_bind (wpAny_mono h (fun binds s₁ h₁ => wpAny_bind (wpAny_mono h₁ (fun env s₂ h₂ => wpAny_bind (wpAny_enterFrame h₂.1 hroom (wpAny_pure ⟨rfl, h₂.2⟩))) fun _ _ h' => h')) fun _ _ h' => h')
theorem codeC_func {R : Result → Shared → Prop} {body : List Stmt}
    (h : wpC (model prog w) (A.deeper env) (execs body env) (fun f s' => R (.ok (.ret (match f with | .ret v => v | _ => .none))) s')
      (fun e s' => wpC (model prog w) (A.deeper env) (leaving env e) (fun _ s'' => R (.error e) s'') (fun e' s'' => R (.error e') s'') s') s) : codeC (model prog w) A (.func body env) R s := by
  refine codeC_of_tree rfl ?_
  show wpC _ (A.deeper env) (do point; match ← (execs body env).onRaise (leaving env) with | .ret v => ret v | _ => ret .none) _ _ s
  refine wpC_bind (wpC_point (wpC_bind (wpC_onRaise (wpC_mono h (fun f s' h' => ?_) fun _ _ h' => h'))))
  cases f <;> exact wpC_pure h'
theorem codeC_block {R : Result → Shared → Prop} (h : R (.ok .next) s) : codeC (model prog w) A (.block [] env) R s :=
  codeC_any (codeAny_block (wpAny_execs_nil h))
theorem codeC_forLoop {R : Result → Shared → Prop} {target : PySem.Expr} {it : Value} {body : List Stmt} (I : Nat → Shared → Prop)
    (turn : ∀ n s, I n s → wpAny (model prog w) A (pyNext it) (fun r s₁ => match r with
      | none => R (.ok .next) s₁
      | some v => wpAny (model prog w) A (assign target env v) (fun _ s₂ => wpC (model prog w) A (execs body env) (fun f s₃ => match f with
          | .next | .cont => ∃ m, m < n ∧ I m s₃
          | .brk => R (.ok .next) s₃
          | .ret v => R (.ok (.ret v)) s₃) (fun _ _ => False) s₂) (fun _ _ => False) s₁) (fun _ _ => False) s)
    (n : Nat) (h : I n s) (ht : ∀ v, letOwnedTupleGo target it v = pure () := by intro _; rfl) : codeC (model prog w) A (.forLoop target it body [] env) R s := by
  refine codeC_loop rfl rfl I (fun n s hI => ?_) n h
  show wpC _ A ((forTurn target it body [] env).onRaise (fun x => do noteFrame x env; theTreesLotGoes x)) _ _ s
  refine wpC_onRaise (wpC_mono (E := fun _ _ => False) (Q := fun fin s' => match fin with | .done f => R (.ok f) s' | .again c' => (c' = .forLoop target it body [] env ∧ ∃ m, m < n ∧ I m s') ∨ (c'.quiet = true ∧ codeC (model prog w) A c' R s')) ?_ (fun _ _ q => q) fun _ _ q => q.elim)
  simp only [forTurn]
  refine wpC_bind (wpC_standAt (wpC_bind (wpC_onRaise (wpC_mono (wpC_any (turn n s hI)) (fun r s₁ h₁ => ?_) fun _ _ h' => h'.elim))))
  cases r with
  | none => exact wpC_pure (.inr ⟨rfl, codeC_block h₁⟩)
  | some v =>
    refine wpC_bind (wpC_eq (ht v) ?_)
    refine wpC_bindA (wpAny_mono h₁ (fun _ s₂ h₂ => wpC_bind (wpC_mono h₂ (fun f s₃ h₃ => ?_) fun _ _ h' => h')) fun _ _ h' => h')
    cases f with
    | next => exact wpC_pure (.inl ⟨rfl, h₃⟩)
    | cont => exact wpC_pure (.inl ⟨rfl, h₃⟩)
    | brk => exact wpC_pure h₃
    | ret v => exact wpC_pure h₃
theorem ForC {target iter : PySem.Expr} {body : List Stmt} {pos : Pos} {Q : Flow → Shared → Prop}
    (h : wpAny (model prog w) A (eval iter env) (fun x s₁ => wpAny (model prog w) A (pyIter x) (fun it s₂ => codeC (model prog w) A (.forLoop target it body [] env) (fun r s' => match r with | .ok f => Q f s' | .error _ => False) s₂) E s₁) E s)
    (hs : ∀ x, foldedSetIterable iter env x = pure x := by intro _; rfl) : wpC (model prog w) A (exec (.For target iter body [] pos) env) Q E s := by
  rw [exec_For]
  refine wpC_bind (wpC_standAt (wpC_bindA (wpAny_mono h (fun x s₁ h₁ => wpC_bind (wpC_eq (hs x) (wpC_bind (wpC_standAt (wpC_bind (wpC_holding (wpC_mono (wpC_any h₁) (fun it s₂ h₂ => ?_) fun _ _ e => e))))))) fun _ _ e => e)))
  unfold runOwn
  exact wpC_onRaise (wpC_run (codeC_mono h₂ fun r s' q => by cases r with | ok f => exact q | error e => exact q.elim))
end
end
/-! ## CB -/
section
open PySem.Sem (wp)
namespace BA
theorem mro : mroOf (.type "bytearray") = pure [.type "bytearray", .type "object"] := by rw [mroOf_type]; kernel_rfl
theorem lookup_new : typeLookup (.type "bytearray") "__new__" = pure (some (.builtin "bytearray.__new__")) := by rw [typeLookup_type, builtinLookup_eq_fast]; kernel_rfl
theorem slot_init : Slot "bytearray" "__init__" "bytearray.__init__" :=
  .of (owner := "bytearray") (n := "__init__") (by rw [typeLookup_type, builtinLookup_eq_fast]; kernel_rfl) (by decide +kernel) (by decide +kernel) (by decide +kernel)
    (by first | exact .inl (by decide +kernel) | exact .inr (by decide +kernel)) (by rw [isSubtype_type]; kernel_rfl)
theorem slot_extend : Slot "bytearray" "extend" "bytearray.extend" :=
  .of (owner := "bytearray") (n := "extend") (by rw [typeLookup_type, builtinLookup_eq_fast]; kernel_rfl) (by decide +kernel) (by decide +kernel) (by decide +kernel)
    (by first | exact .inl (by decide +kernel) | exact .inr (by decide +kernel)) (by rw [isSubtype_type]; kernel_rfl)
theorem slot_len : Slot "bytearray" "__len__" "bytearray.__len__" :=
  .of (owner := "bytearray") (n := "__len__") (by rw [typeLookup_type, builtinLookup_eq_fast]; kernel_rfl) (by decide +kernel) (by decide +kernel) (by decide +kernel)
    (by first | exact .inl (by decide +kernel) | exact .inr (by decide +kernel)) (by rw [isSubtype_type]; kernel_rfl)
theorem type_extend : typeOf (.builtin "bytearray.extend") = pure (.type "method_descriptor") := by show builtinType _ = _; rw [builtinType_eq_fast]; kernel_rfl
theorem plainAttrs : PlainAttrs "bytearray" := ⟨⟨"bytearray.__getattribute__", (by rw [typeLookup_type, builtinLookup_eq_fast]; kernel_rfl), by decide +kernel⟩, by rw [typeLookup_type, builtinLookup_eq_fast]; kernel_rfl⟩
theorem made : Bind.madeBy (.type "bytearray") = pure (some "bytearray.__new__") := madeBy_type mro lookup_new (by decide +kernel)
theorem sub : isSubtype (.type "bytearray") (.type "bytearray") = pure true := by rw [isSubtype_type]; kernel_rfl
theorem typeCall : checkTypeCall "bytearray" ⟨[], []⟩ = pure () := by kernel_rfl
theorem newCall : checkBuiltinCall "bytearray.__new__" ⟨[.type "bytearray"], []⟩ = pure () := by kernel_rfl
theorem entry_new : entryFor table "bytearray.__new__" = some Builtin.«list.__new__» :=
  entryFor_alias (id' := "list.__new__") (by kernel_rfl) (by first | rfl | decide +kernel) (by decide +kernel) (by kernel_rfl)
theorem entry_init : entryFor table "bytearray.__init__" = some Builtin.«bytearray.__init__» := entryFor_of_tree (by kernel_rfl)
theorem entry_extend : entryFor table "bytearray.extend" = some Builtin.«bytearray.extend» := entryFor_of_tree (by kernel_rfl)
theorem entry_len : entryFor table "bytearray.__len__" = some Builtin.«bytearray.__len__» := entryFor_of_tree (by kernel_rfl)
theorem plain_new : plainId "bytearray.__new__" = true := by decide +kernel
theorem plain_extend : plainId "bytearray.extend" = true := by decide +kernel
theorem buf_bytes : typeLookup (.type "bytes") "__buffer__" = pure (some (.builtin "bytes.__buffer__")) := by rw [typeLookup_type, builtinLookup_eq_fast]; kernel_rfl
theorem buf_ba : typeLookup (.type "bytearray") "__buffer__" = pure (some (.builtin "bytearray.__buffer__")) := by rw [typeLookup_type, builtinLookup_eq_fast]; kernel_rfl
theorem noBytes : typeLookup (.type "bytearray") "__bytes__" = pure none := by rw [typeLookup_type, builtinLookup_eq_fast]; kernel_rfl
theorem noIndex : typeLookup (.type "bytearray") "__index__" = pure none := by rw [typeLookup_type, builtinLookup_eq_fast]; kernel_rfl
theorem rel_bytes : typeLookup (.type "bytes") "__release_buffer__" = pure none := by rw [typeLookup_type, builtinLookup_eq_fast]; kernel_rfl
theorem rel_ba : typeLookup (.type "bytearray") "__release_buffer__" = pure (some (.builtin "bytearray.__release_buffer__")) := by rw [typeLookup_type, builtinLookup_eq_fast]; kernel_rfl
theorem sub_bytes : isSubtype (.type "bytes") (.type "bytes") = pure true := by rw [isSubtype_type]; kernel_rfl
theorem bind_init : Builtin.Bytes.bindOptional "bytearray.__init__" "bytearray" ["source", "encoding", "errors"] [] [] = pure [none, none, none] := by kernel_rfl
theorem args_extend (a b : Value) : argsOk "bytearray.extend" ⟨[a, b], []⟩ := by unfold argsOk; kernel_rfl
theorem args_init (a : Value) : argsOk "bytearray.__init__" ⟨[a], []⟩ := by unfold argsOk; kernel_rfl
set_option maxRecDepth 1000000 in
set_option maxHeartbeats 4000000 in
theorem owner_new : ("bytearray.__new__".splitOn ".__new__").headD "" = "bytearray" := by simp +decide [String.splitOn, String.splitOnAux]
end BA
section
variable {prog : Program} {w : World} {A : Around} {E : Value → Shared → Prop} {s : Shared}
abbrev baOf (b : Array UInt8) : Obj := { cls := .type "bytearray", data := .bytearray b }
theorem code_ba_new {Q₁ : Value → Shared → Prop} (h : Q₁ (.ref s.heap.objs.size) { s with heap := s.heap.push (baOf #[]) }) :
    codeAny (model prog w) A (.call (.builtin "bytearray.__new__") ⟨[.type "bytearray"], []⟩) (wants Q₁ E) s := by
  refine codeAny_of_tree ?_
  show wpAny _ A.in1 (do checkBuiltinCall "bytearray.__new__" ⟨[.type "bytearray"], []⟩; again (.builtin "bytearray.__new__" ⟨[.type "bytearray"], []⟩)) _ _ s
  refine wpAny_bind (wpAny_of_eq BA.newCall (wpAny_pure ⟨plainId_quiet BA.plain_new _, codeAny_builtin_stack BA.entry_new rfl fun p st => ?_⟩))
  rw [Around.under_plainId BA.plain_new _]
  have hsub := BA.sub
  have hown := BA.owner_new
  refine hide fun G99 hG99 => ?_
  obtain ⟨hp, g, d, tk, os⟩ := s
  refine hG99 ?_
  clear hG99 G99
  simp only [hown]
  wp_walk
  exact h
theorem codeC_call_builtin {R : Result → Shared → Prop} {id : String} {args : Args} {b : Builtin} (hq : plainId id = true) (hd : Builtin.Bytes.decodersThatHold.contains id = false) (hb : entryFor table id = some b)
    (h : wpAny (model prog w) A.in1 (checkBuiltinCall id args) (fun _ s₁ => wpC (model prog w) A.in1 (b args)
      (fun fin s' => match fin with | .done f => R (.ok f) s' | .again c' => c'.quiet = true ∧ codeC (model prog w) A c' R s') (fun e s' => R (.error e) s') s₁) (fun e s' => R (.error e) s') s) : codeC (model prog w) A (.call (.builtin id) args) R s := by
  refine codeC_of_tree rfl ?_
  show wpC _ A.in1 (do checkBuiltinCall id args; again (.builtin id args)) _ _ s
  refine wpC_bindA (wpAny_mono h (fun _ s₁ h₁ => wpC_pure ⟨plainId_quiet hq args, codeC_of_tree hd ?_⟩) fun _ _ h' => h')
  show wpC _ _ (match entryFor table id with | some b => b args | none => unsupported ((withoutEnding? id "#data").getD id)) _ _ s₁
  rw [hb, Around.under_plainId hq args]; exact h₁
theorem not_held {a : Addr} {b : Array UInt8} {Q : Bool → Shared → Prop} (hg : A.guards = some []) (ho : s.heap.get? a = some (baOf b)) (h : Q false s) :
    wpC (model prog w) A (Builtin.Bytes.exported (.ref a) <||> (do return (← Builtin.Bytes.exportsOf (.ref a)) > 0)) Q E s := by
  unfold orM
  refine wpC_bind (wpC_exported hg ?_)
  change wpC _ A (Builtin.Bytes.exportsOf (.ref a) >>= _) Q E s
  refine wpC_bind ?_
  unfold Builtin.Bytes.exportsOf
  refine wpC_bindA (wpAny_load ho ?_)
  exact wpC_pure (wpC_pure h)
theorem wpC_write {a : Addr} {b : Array UInt8} {f : Array UInt8 → Array UInt8} {Q : Unit → Shared → Prop} (ho : s.heap.get? a = some (baOf b)) (hz : (f b).size ≤ sizeLine)
    (h : ∀ h', Heap.SameBut a s.heap h' → h'.get? a = some (baOf (f b)) → Q () { s with heap := h' }) : wpC (model prog w) A (Builtin.Bytes.write (.ref a) f) Q E s := by
  refine wpC_any ?_
  show wpAny _ _ (updateBytearray a f) _ _ _
  unfold updateBytearray
  refine wpAny_bind (wpAny_load ho ?_)
  show wpAny _ _ (update a (Obj.mapBytearray f) >>= fun _ => lookBehind a) _ _ _
  refine wpAny_bind (wpAny_update ho ?_)
  have ho' : (s.heap.update a (Obj.mapBytearray f)).get? a = some (baOf (f b)) := Heap.get?_update_self (Obj.mapBytearray f) ho rfl
  refine wpAny_lookBehind ho' ?_ (h _ (Heap.SameBut.update ..) ho')
  show (if (f b).size > sizeLine then some "bytearray:memory" else none) = none
  rw [if_neg (Nat.not_lt.mpr hz)]
theorem own_bytes {b : Array UInt8} {t : Tok} {Q : Bool → Shared → Prop} (h : Q true s) : wpAny (model prog w) A (Builtin.Bytes.slotIsOwn (.bytes b t) "__buffer__") Q E s := by
  have hT : s.TypeIs (.bytes b t) "bytes" := typeIs_bytes _ _ _
  unfold Builtin.Bytes.slotIsOwn
  refine wpAny_bind (wpAny_specialOf hT BA.buf_bytes ?_)
  refine bm_if_false (by decide +kernel) ?_
  have e : ("bytes.__buffer__".dropRight ("__buffer__".length + 1)) = "bytes" := by decide +kernel
  rw [e]
  exact wpAny_isInstance hT BA.sub_bytes h
theorem rel_bytes {b : Array UInt8} {t : Tok} {Q : Bool → Shared → Prop} (h : Q false s) : wpAny (model prog w) A (Builtin.Bytes.ownRelease (.bytes b t)) Q E s := by
  have hT : s.TypeIs (.bytes b t) "bytes" := typeIs_bytes _ _ _
  unfold Builtin.Bytes.ownRelease Builtin.Bytes.slotIsOwn
  refine wpAny_bind (wpAny_bind (wpAny_specialOf hT BA.rel_bytes (wpAny_pure (wpAny_pure h))))
theorem own_ba {a : Addr} {Q : Bool → Shared → Prop} (hT : s.TypeIs (.ref a) "bytearray") (h : Q true s) : wpAny (model prog w) A (Builtin.Bytes.slotIsOwn (.ref a) "__buffer__") Q E s := by
  unfold Builtin.Bytes.slotIsOwn
  refine wpAny_bind (wpAny_specialOf hT BA.buf_ba ?_)
  refine bm_if_false (by decide +kernel) ?_
  have e : ("bytearray.__buffer__".dropRight ("__buffer__".length + 1)) = "bytearray" := by decide +kernel
  rw [e]
  exact wpAny_isInstance hT BA.sub h
theorem rel_ba {a : Addr} {Q : Bool → Shared → Prop} (hT : s.TypeIs (.ref a) "bytearray") (h : Q false s) : wpAny (model prog w) A (Builtin.Bytes.ownRelease (.ref a)) Q E s := by
  unfold Builtin.Bytes.ownRelease Builtin.Bytes.slotIsOwn
  refine wpAny_bind (wpAny_bind (wpAny_specialOf hT BA.rel_ba ?_))
  refine bm_if_false (by decide +kernel) ?_
  have e : ("bytearray.__release_buffer__".dropRight ("__release_buffer__".length + 1)) = "bytearray" := by decide +kernel
  rw [e]
  exact wpAny_isInstance hT BA.sub (wpAny_pure h)
theorem payload_ba {a : Addr} {b : Array UInt8} {Q : Array UInt8 → Shared → Prop} (ho : s.heap.get? a = some (baOf b)) (h : Q b s) : wpAny (model prog w) A (Builtin.Bytes.payload (.ref a)) Q E s := by
  unfold Builtin.Bytes.payload Builtin.Bytes.payload?
  refine wpAny_bind (wpAny_bind (wpAny_load ho ?_))
  exact wpAny_pure (wpAny_pure h)
/-- bytes hand over what they hold -/
theorem buffer_bytes {b : Array UInt8} {t : Tok} {id : String} {full : Bool} {Q : Option (Array UInt8) → Shared → Prop} (h : Q (some b) s) : wpAny (model prog w) A (Builtin.Bytes.buffer? id (.bytes b t) full) Q E s := by
  have hT : s.TypeIs (.bytes b t) "bytes" := typeIs_bytes _ _ _
  unfold Builtin.Bytes.buffer?
  refine wpAny_bind (wpAny_specialOf hT BA.buf_bytes ?_)
  refine wpAny_bind (own_bytes ?_)
  refine bm_if_false rfl ?_
  refine wpAny_bind (wpAny_specialOf hT BA.buf_bytes ?_)
  refine wpAny_bind (rel_bytes ?_)
  refine bm_if_false rfl ?_
  unfold Builtin.Bytes.payload Builtin.Bytes.payload?
  exact wpAny_bind (wpAny_bind (wpAny_pure (wpAny_pure (wpAny_pure h))))
theorem buffer_ba {a : Addr} {b : Array UInt8} {id : String} {full : Bool} {Q : Option (Array UInt8) → Shared → Prop} (ho : s.heap.get? a = some (baOf b)) (h : Q (some b) s) : wpAny (model prog w) A (Builtin.Bytes.buffer? id (.ref a) full) Q E s := by
  have hT : s.TypeIs (.ref a) "bytearray" := ⟨_, ho, rfl⟩
  unfold Builtin.Bytes.buffer?
  refine wpAny_bind (wpAny_specialOf hT BA.buf_ba ?_)
  refine wpAny_bind (own_ba hT ?_)
  refine bm_if_false rfl ?_
  refine wpAny_bind (wpAny_specialOf hT BA.buf_ba ?_)
  refine wpAny_bind (rel_ba hT ?_)
  refine bm_if_false rfl ?_
  exact wpAny_bind (payload_ba ho (wpAny_pure h))
theorem take_bytes {b : Array UInt8} {t : Tok} {Q : Option (Array UInt8 × Option Value) → Shared → Prop} (h : Q (some (b, none)) s) : wpAny (model prog w) A (Builtin.Bytes.takeBufferQuiet? "bytearray.extend" (.bytes b t) 0) Q E s := by
  have hT : s.TypeIs (.bytes b t) "bytes" := typeIs_bytes _ _ _
  unfold Builtin.Bytes.takeBufferQuiet?
  refine wpAny_bind (wpAny_attempt ?_)
  unfold Builtin.Bytes.takeBuffer?
  refine wpAny_bind (wpAny_specialOf hT BA.buf_bytes ?_)
  refine wpAny_bind (own_bytes ?_)
  refine bm_if_false rfl ?_
  refine wpAny_bind (wpAny_specialOf hT BA.buf_bytes ?_)
  refine wpAny_bind (buffer_bytes ?_)
  exact wpAny_pure (wpAny_pure h)
theorem codeC_ba_init {a : Addr} {Q : Shared → Prop} (hg : A.guards = some []) (ho : s.heap.get? a = some (baOf #[]))
    (h : ∀ h', Heap.SameBut a s.heap h' → h'.get? a = some (baOf #[]) → Q { s with heap := h' }) : codeC (model prog w) A (.call (.builtin "bytearray.__init__") ⟨[.ref a], []⟩) (wants (fun r s' => r = .none ∧ Q s') E) s := by
  have hT : s.TypeIs (.ref a) "bytearray" := ⟨_, ho, rfl⟩
  refine codeC_call_builtin BA.slot_init.plain (by decide +kernel) BA.entry_init (BA.slot_init.check _ _ _ _ _ _ _ _ hT (BA.args_init _) ?_)
  unfold Builtin.«bytearray.__init__»
  refine wpC_bindA (rel_ba hT ?_)
  refine wpC_ite_f rfl ?_
  refine wpC_bind (wpC_eq BA.bind_init ?_)
  refine wpC_bind (wpC_eq (a := ()) rfl ?_)
  refine wpC_bind (wpC_eq (a := ()) rfl ?_)
  refine wpC_bind (not_held hg ho ?_)
  refine wpC_ite_f rfl ?_
  refine wpC_bind (wpC_write ho (Nat.zero_le _) fun h' hs ho' => ?_)
  exact wpC_bind (wpC_pure (wpC_pure ⟨rfl, h _ hs ho'⟩))
theorem codeC_ba_extend {a : Addr} {b c : Array UInt8} {t : Tok} {Q : Value → Shared → Prop} (hg : A.guards = some []) (ho : s.heap.get? a = some (baOf b)) (hz : b.size + c.size ≤ sizeLine)
    (h : ∀ h', Heap.SameBut a s.heap h' → h'.get? a = some (baOf (b ++ c)) → Q .none { s with heap := h' }) : codeC (model prog w) A (.call (.builtin "bytearray.extend") ⟨[.ref a, .bytes c t], []⟩) (wants Q E) s := by
  have hT : s.TypeIs (.ref a) "bytearray" := ⟨_, ho, rfl⟩
  have hB : s.TypeIs (.bytes c t) "bytes" := typeIs_bytes _ _ _
  refine codeC_call_builtin BA.slot_extend.plain (by decide +kernel) BA.entry_extend (BA.slot_extend.check _ _ _ _ _ _ _ _ hT (BA.args_extend _ _) ?_)
  unfold Builtin.«bytearray.extend»
  refine wpC_bind (wpC_eq (a := (Value.ref a, Value.bytes c t)) rfl ?_)
  refine wpC_bindA (wpAny_specialOf hB BA.buf_bytes ?_)
  refine wpC_ite_t rfl ?_
  refine wpC_bindA (wpAny_rule ?_)
  refine wpC_bindA (payload_ba ho ?_)
  refine wpC_bindA (take_bytes ?_)
  refine wpC_ite_t rfl ?_
  have fin : wpC (model prog w) A.in1 (Builtin.Bytes.write (.ref a) (· ++ c) >>= fun _ => ret .none)
      (fun fin s' => match fin with | .done f => (wants Q E) (.ok f) s' | .again c' => c'.quiet = true ∧ codeC (model prog w) A c' (wants Q E) s') (fun e s' => (wants Q E) (.error e) s') s :=
    wpC_bind (wpC_write ho (by rw [Array.size_append]; exact hz) fun h' hs ho' => wpC_pure (h _ hs ho'))
  change wpC _ _ (if (!c.isEmpty) = true then (Builtin.Bytes.checkResize (.ref a) >>= fun _ => (Builtin.Bytes.write (.ref a) (· ++ c) >>= fun _ => ret .none)) else (Builtin.Bytes.write (.ref a) (· ++ c) >>= fun _ => ret .none)) _ _ _
  cases hc : c.isEmpty with
  | true => exact wpC_ite_f rfl fin
  | false =>
    refine wpC_ite_t rfl (wpC_bind ?_)
    unfold Builtin.Bytes.checkResize
    refine wpC_bind (not_held hg ho ?_)
    exact wpC_ite_f rfl (wpC_pure fin)
end
end
/-! ## CB2 -/
section
open PySem.Sem (wp)
section
variable {prog : Program} {w : World} {A : Around} {E : Value → Shared → Prop} {s : Shared}
theorem BA.canCreate : ((Manifest.find? "bytearray").bind (·.mro.findSome? fun t => (Manifest.find? t).bind fun b => if b.noNew then some true else if b.attrs.any (·.1 == "__new__") then some false else none)).getD false = false := by decide +kernel
theorem codeC_builtin {R : Result → Shared → Prop} {id : String} {args : Args} {b : Builtin} (hd : decC (.builtin id args) = false) (hb : entryFor table id = some b)
    (h : wpC (model prog w) (A.under (.builtin id args)) (b args) (fun fin s' => match fin with | .done f => R (.ok f) s' | .again c' => c'.quiet = true ∧ codeC (model prog w) A c' R s') (fun e s' => R (.error e) s') s) :
    codeC (model prog w) A (.builtin id args) R s := by
  refine codeC_of_tree hd ?_
  show wpC _ _ (match entryFor table id with | some b => b args | none => unsupported ((withoutEnding? id "#data").getD id)) _ _ s
  rw [hb]; exact h
/-- bytearray() -/
theorem callC_ba {Q : Value → Shared → Prop} (hg : A.guards = some [])
    (h : ∀ a h', (∀ b o, s.heap.get? b = some o → h'.get? b = some o) → s.heap.get? a = none → s.heap.objs.size ≤ a → h'.get? a = some (baOf #[]) → Q (.ref a) { s with heap := h' }) : wpC (model prog w) A (call (.type "bytearray") []) Q E s := by
  refine wpC_call (codeC_of_tree rfl ?_)
  show wpC _ _ (callAny (.type "bytearray") _) _ _ _
  refine wpC_pure ⟨Code.quiet_builtin _ (by decide +kernel), codeC_builtin (by decide +kernel) F.entry_type_call ?_⟩
  rw [Around.under_plain (weight_type_call_type "bytearray" [] []) (units_type_call_type "bytearray" [] [])]
  unfold Builtin.«type.__call__»
  refine wpC_ite_f (by decide) ?_
  refine wpC_ite_f BA.canCreate ?_
  refine wpC_bind (wpC_eq BA.typeCall ?_)
  refine wpC_bind (wpC_eq BA.mro ?_)
  refine wpC_ite_f rfl ?_
  refine wpC_bind (wpC_eq BA.made ?_)
  refine wpC_bind (wpC_pure ?_)
  refine wpC_bindA (wpAny_holding (wpAny_call ?_))
  refine code_ba_new ?_
  have ho : (s.heap.push (baOf #[])).get? s.heap.objs.size = some (baOf #[]) := Heap.get?_push_size _ rfl
  have hT : ({ s with heap := s.heap.push (baOf #[]) } : Shared).TypeIs (.ref s.heap.objs.size) "bytearray" := ⟨_, ho, rfl⟩
  have hn : s.heap.get? s.heap.objs.size = none := by
    cases q : s.heap.get? s.heap.objs.size with
    | none => rfl
    | some o => exact absurd (Heap.lt_size q) (Nat.lt_irrefl _)
  refine wpC_bindA (wpAny_isInstance hT BA.sub ?_)
  refine wpC_ite_f rfl ?_
  refine wpC_bind (wpC_holding ?_)
  unfold callSpecial?
  refine wpC_bindA (wpAny_specialOf hT BA.slot_init.lookup ?_)
  refine wpC_holding ?_
  refine wpC_bind (wpC_eq (BA.slot_init.bind _) ?_)
  refine wpC_bind (wpC_call ?_)
  have init := codeC_ba_init (prog := prog) (w := w) (A := A.in1) (E := fun _ _ => False) (s := { s with heap := s.heap.push (baOf #[]) })
    (Q := fun s' => ∃ h', s' = { s with heap := h' } ∧ (∀ b o, s.heap.get? b = some o → h'.get? b = some o) ∧ h'.get? s.heap.objs.size = some (baOf #[])) hg ho
    (fun h' hs ho' => ⟨h', rfl, fun b o e => (hs.2 b (Nat.ne_of_lt (Heap.lt_size e))).trans (Heap.get?_push_of_some _ e), ho'⟩)
  refine codeC_mono init fun r s' hr => ?_
  cases r with
  | error e => exact False.elim hr
  | ok f =>
    cases f with
    | ret v =>
      refine hide fun G99 hG99 => ?_
      obtain ⟨rfl, h', rfl, k, ho'⟩ := hr
      refine hG99 ?_
      clear hG99 G99
      refine wpC_pure ?_
      refine wpC_ite_f (by decide) ?_
      exact wpC_pure (h _ _ k hn (Nat.le_refl _) ho')
    | next => exact False.elim hr
    | brk => exact False.elim hr
    | cont => exact False.elim hr
end
end
/-! ## CB3 -/
section
open PySem.Sem (wp)
section
variable {prog : Program} {w : World} {A : Around} {E : Value → Shared → Prop} {s : Shared}
theorem BA.args_len (a : Value) : argsOk "bytearray.__len__" ⟨[a], []⟩ := by unfold argsOk; kernel_rfl
theorem len_barr {a : Addr} {b : Array UInt8} {Q : Value → Shared → Prop} (ho : s.heap.get? a = some (baOf b)) (hfit : (b.size : Int) < 2 ^ 63)
    (h : Q (.int b.size (s.toks + 1)) { s with toks := s.toks + 1 + 1 }) : wpAny (model prog w) A (call (.builtin "len") [.ref a]) Q E s := by
  have hT : s.TypeIs (.ref a) "bytearray" := ⟨_, ho, rfl⟩
  refine call_function_entry kind_len plain_len entry_len (args_len1 _) ?_
  unfold Builtin.«len»
  refine wpAny_bind (m := oneArg "len" _) (wpAny_pure ?_)
  refine wpAny_bind (m := callSpecial? (.ref a) (Str.ofString "__len__")) (wpAny_callSpecial?_slot (name := Str.ofString "__len__") hT BA.slot_len
    (wpAny_call_entry BA.slot_len hT BA.entry_len ?_ (BA.args_len _)))
  · unfold Builtin.«bytearray.__len__» slotArgs
    refine wpAny_bind (wpAny_pure ?_)
    refine wpAny_bind (payload_ba ho ?_)
    refine wpAny_bind (wpAny_mkInt (wpAny_pure ⟨_, rfl, ?_⟩))
    show wpAny _ _ (holding [Value.int b.size s.toks] (asIndex (Value.int b.size s.toks)) >>= _) _ _ _
    refine wpAny_bind (wpAny_holding (wpAny_pure ?_))
    refine wpAny_bind (wpAny_letGo ?_)
    show wpAny _ _ (if ((b.size : Nat) : Int) < 0 then _ else _) _ _ _
    rw [if_neg (by omega)]
    show wpAny _ _ (if ((b.size : Nat) : Int) ≥ 2 ^ 63 then _ else _) _ _ _
    rw [if_neg (by omega)]
    exact wpAny_bind (wpAny_mkInt (wpAny_pure ⟨_, rfl, h⟩))
theorem method_extend {a : Addr} {b : Array UInt8} {pl : Sem Bool} {Q : Value × List Value → Shared → Prop} (ho : s.heap.get? a = some (baOf b)) (h : Q (.builtin "bytearray.extend", [.ref a]) s) :
    wpAny (model prog w) A (getMethod (.ref a) "extend" pl) Q E s :=
  getMethod_builtin ⟨_, ho, rfl⟩ BA.plainAttrs BA.slot_extend BA.type_extend (fun a e => by cases e; exact ⟨_, ho, rfl⟩) h
theorem code_bytes_ba {a : Addr} {b : Array UInt8} {Q : Value → Shared → Prop} (ho : s.heap.get? a = some (baOf b)) (hz : b.size ≤ sizeLine)
    (hQ : ∀ t k, Q (.bytes b t) { s with toks := k }) : codeAny (model prog w) A (.call (.builtin "bytes.__new__") ⟨[.type "bytes", .ref a], []⟩) (wants Q E) s := by
  have hT : s.TypeIs (.ref a) "bytearray" := ⟨_, ho, rfl⟩
  refine codeAny_of_tree ?_
  show wpAny _ A.in1 (do checkBuiltinCall "bytes.__new__" ⟨[.type "bytes", .ref a], []⟩; again (.builtin "bytes.__new__" ⟨[.type "bytes", .ref a], []⟩)) _ _ s
  refine wpAny_bind (wpAny_of_eq (F.bm_newCall _) (wpAny_pure ⟨plainId_quiet F.bm_plain _, codeAny_builtin F.bm_entry ?_⟩))
  rw [Around.under_plainId F.bm_plain _]
  unfold Builtin.«bytes.__new__»
  refine wpAny_bind (wpAny_of_eq (a := true) rfl ?_)
  refine bm_if_false rfl ?_
  refine wpAny_bind (wpAny_of_eq F.bm_sub ?_)
  refine bm_if_false rfl ?_
  refine wpAny_bind (wpAny_of_eq (F.bm_bind _) ?_)
  refine wpAny_bind (wpAny_of_eq (a := ()) rfl ?_)
  refine wpAny_bind (wpAny_of_eq (a := ()) rfl ?_)
  refine bm_if_false rfl ?_
  refine wpAny_bind (wpAny_specialOf hT BA.noBytes ?_)
  refine wpAny_bind (wpAny_bind ?_)
  show wpAny _ _ (load a >>= _) _ _ _
  refine wpAny_bind (wpAny_load ho ?_)
  refine wpAny_pure (wpAny_pure ?_)
  refine bm_if_false rfl ?_
  refine wpAny_bind (wpAny_specialOf hT BA.noIndex ?_)
  refine bm_if_true rfl ?_
  first
    | show wpAny _ _ (Builtin.Bytes.buffer? "bytes.__new__" (.ref a) true >>= _) _ _ _
    | (refine wpAny_bind ?_; show wpAny _ _ (Builtin.Bytes.buffer? "bytes.__new__" (.ref a) true >>= _) _ _ _)
  refine wpAny_bind (buffer_ba ho ?_)
  refine wpAny_bind (wpAny_rule ?_)
  refine wpAny_bind (wpAny_mkBytes ?_ hz)
  show wpAny _ _ (if (Value.type "bytes" == Value.type "bytes") = true then _ else _) _ _ _
  refine bm_if_true (by decide) ?_
  first
    | exact wpAny_pure (hQ _ _)
    | exact wpAny_bind (wpAny_pure (wpAny_pure (hQ _ _)))
theorem bytes_barr {a : Addr} {b : Array UInt8} {Q : Value → Shared → Prop} (ho : s.heap.get? a = some (baOf b)) (hz : b.size ≤ sizeLine)
    (hQ : ∀ t k, Q (.bytes b t) { s with toks := k }) : wpAny (model prog w) A (call (.type "bytes") [.ref a]) Q E s := by
  refine callType_codes (Q₁ := fun obj s₁ => s₁.TypeIs obj "bytes" ∧ Q obj s₁) F.bm_called (F.bm_typeCall _) F.entry_object_init
    (code_bytes_ba ho hz fun t k => ⟨typeIs_bytes _ _ _, hQ t k⟩) fun obj s₁ h₁ => ?_
  exact ⟨h₁.1, F.args_object_init_2 obj _, object_init_meets F.bm_called.init.lookup F.bm_called.made (by decide) prog w A.in1 _ s₁ ⟨h₁.1, rfl, h₁.2⟩⟩
end
end
/-! ## CT2 -/
section
noncomputable abbrev lo : List Str := looseW hd0.view_1_40 [Str.ofString "WORD", Str.ofString "STORAGE_RANKS", Str.ofString "REPLACEMENT", Str.ofString "compare_values", Str.ofString "compare_keys"]
/-- what stands outside `xs` stays -/
def KeepB (xs : List (Addr × Obj)) (h h' : Heap) : Prop := ∀ b o, h.get? b = some o → b ∉ xs.map (·.1) → h'.get? b = some o
def Back (h₀ : Heap) (L : Addr) (m : Str → Option Value) (xs : List (Addr × Obj)) (h g : Heap) (L' : Addr) (R : Result → Shared → Prop) (v : Value) (s' : Shared) : Prop :=
  ∃ m', Fr g L' s'.heap m' ∧ (Fr h₀ L s'.heap m → KeepB xs h s'.heap → R (.ok (.ret v)) s')
section
variable {prog : Program} {w : World} {A₀ A : Around} {s : Shared} {base h₀ : Heap} {outer : List Env} {L : Addr} {m mg mb : Str → Option Value} {env : Env} {xs : List (Addr × Obj)} {K : Frag} {p : Program} {loose : List Str} {mean : ExcName → Option Value}
  {R : Result → Shared → Prop} {name qual : Str} {params : Arguments} {body : List Stmt} {scope : Scope} {dV kV doc pm cdv ct oc : Value} {an od : Option Addr} {osl : Array (Option Value)} {f : Addr} {args : Args} {binds : List (Str × Value)}
/-- a def's body, run over the heap as it stands, but for `xs` -/
theorem enterH (B : Below A₀ base outer h₀) (F : Fr h₀ L s.heap m) (X₀ : K.In h₀) (N : News h₀ L s.heap xs) (T : Top p loose mean mg mb h₀) (hA : A.frames = some (env :: outer)) (hf : env.frame = some L) (hke : env.scope.kind = .function)
    (ho : K.lookup f = some ⟨oc, od, .func (fnOf name qual params body scope dV kV doc pm an cdv ct), osl⟩) (hcd : codeIn K cdv qual = true) (hroom : A.depth < recursionLimit)
    (hbind : BindsTo s (fnOf name qual params body scope dV kV doc pm an cdv ct) args binds) (hloc : ∀ y ∈ binds, scope.names.lookup y.1 = some .local)
    (h : ∀ g L' h₁, KeepB xs s.heap g → Fr g L' h₁ (fun y => binds.reverse.lookup y) → News g L' h₁ xs → Below A base (env :: outer) g → K.In g → Top p loose mean mg mb g →
      wpAny (model prog w) (A.deeper (envOf qual scope L' f cdv)) (execs body (envOf qual scope L' f cdv))
        (fun fl s' => Back h₀ L m xs s.heap g L' R (match fl with | .ret v => v | _ => .none) s')
        (fun e s' => wpAny (model prog w) (A.deeper (envOf qual scope L' f cdv)) (leaving (envOf qual scope L' f cdv) e) (fun _ s'' => R (.error e) s'') (fun e' s'' => R (.error e') s'') s')
        { s with heap := h₁, toks := s.toks + binds.length })
    (hco : scope.isCoroutine = false) (hgen : scope.isGenerator = false) (hk : scope.kind = .function)
    (hcell : ∀ x ∈ scope.names, x.2 ≠ .cell) : codeAny (model prog w) A (.call (.ref f) args) R s := by
  refine hide fun G99 hG99 => ?_
  obtain ⟨FG, BG, st, -⟩ := groundX (R := R) B F N hA hf hke
  refine hG99 ?_
  clear hG99 G99
  refine codeAny_call_def (fd := fnOf name qual params body scope dV kV doc pm an cdv ct) (body := body) (binds := binds) hroom ((X₀.keeps F.keep) _ _ ho) rfl (T.nolimit.keeps F.keep) (codeRec_of (X₀.keeps F.keep) hcd) rfl hbind hcell hloc (fun h₁ hns hk₁ => ?_) hco hgen hk
  have kb : KeepB xs s.heap (hideAll s.heap (xs.map (·.1))) := fun b o e nb => hideAll_get _ e nb
  refine wpAny_mono (h _ s.heap.objs.size h₁ kb ⟨hns, fun b o e => hk₁ b o (of_hideAll _ e), Nat.le_of_eq (hideAll_size _ _)⟩
    (fun p hp => ⟨hk₁ _ _ (N p hp).1, Nat.ne_of_lt (Heap.lt_size (N p hp).1), hideAll_none _ (List.mem_map_of_mem hp)⟩) BG (X₀.keeps st) (T.keeps st)) (fun fl s' hl => ?_) fun _ _ y => y
  obtain ⟨m', F', k⟩ := hl
  refine hide fun G99 hG99 => ?_
  obtain ⟨⟨oL, es, ep, hL, r⟩, _, _⟩ := FG
  refine hG99 ?_
  clear hG99 G99
  exact k ⟨⟨oL, es, ep, F'.keep _ _ hL, r⟩, fun b o e => F'.keep _ _ (st b o e), F.above⟩ (fun b o e nb => F'.keep _ _ (kb b o e nb))
end
/-- a call of the def at `f`: over any heap that bears `pre`, it ends, keeps all but `xs`, and hands back what `R` says -/
def Tell (w : World) (mean : ExcName → Option Value) (mg mb : Str → Option Value) (f : Addr) (d : Nat) (vs : List Value) (xs : List (Addr × Obj)) (pre : Heap → Prop) (R : Heap → Value → Heap → Prop) : Prop :=
  ∀ (dp un : Nat) (gd : Option (List Code)) (cn : Str) (cs : Scope) (a : Addr) (ccd : Value) (cl : List (Str × Addr)) (outer : List Env) (A₀ : Around) (base h₀ : Heap) (L : Addr) (m : Str → Option Value) (s : Shared) (Q E : Value → Shared → Prop),
    Below A₀ base outer h₀ → Fr h₀ L s.heap m → (hd0.heap_1_39 w.params).In h₀ → News h₀ L s.heap xs → Top hd0.view_1_40 lo mean mg mb h₀ → cs.kind = .function → pre s.heap → dp + d < recursionLimit → un + 8 * d < cLine →
    (∀ r h' tk', Fr h₀ L h' m → KeepB xs s.heap h' → R s.heap r h' → Q r { s with heap := h', toks := tk' }) →
    wpAny (model PySem.Challenge.rw_nt0120_01.row.prog w) (ktrTop dp un gd cn cs L a ccd cl outer) (call (.ref f) vs) Q E s
theorem back_intro {h₀ g h : Heap} {L L' : Addr} {m m' : Str → Option Value} {xs : List (Addr × Obj)} {R : Result → Shared → Prop} {v : Value} {s' : Shared} (F' : Fr g L' s'.heap m')
    (k : Fr h₀ L s'.heap m → KeepB xs h s'.heap → R (.ok (.ret v)) s') : Back h₀ L m xs h g L' R v s' := ⟨m', F', k⟩
abbrev Val := Option Int
def IsVal (v : Value) : Val → Prop
  | none => v = .none
  | some i => ∃ t, v = .int i t
def IsI (v : Value) (i : Int) : Prop := ∃ t, v = .int i t
theorem isI {y x : Int} {t : Tok} (e : y = x) : IsI (.int y t) x := ⟨t, by rw [e]⟩
def IsS (v : Value) (i : String) : Prop := ∃ t, v = .str (Str.ofString i) t
section
variable {w : World} {mean : ExcName → Option Value} {mg mb : Str → Option Value} {f : Addr} {d : Nat} {vs : List Value} {xs : List (Addr × Obj)} {pre : Heap → Prop} {R : Heap → Value → Heap → Prop}
  {dp un : Nat} {gd : Option (List Code)} {cn : Str} {cs : Scope} {a : Addr} {ccd : Value} {cl : List (Str × Addr)} {outer : List Env} {A₀ : Around} {base h₀ : Heap} {L : Addr} {m : Str → Option Value} {news : List (Addr × Obj)} {s : Shared} {Q E : Value → Shared → Prop}
/-- the use of a contract that changes nothing that stood -/
theorem tell_use0 (C : Tell w mean mg mb f d vs [] pre R) (B : Below A₀ base outer h₀) (F : Fr h₀ L s.heap m) (X : (hd0.heap_1_39 w.params).In h₀) (N : News h₀ L s.heap news) (T : Top hd0.view_1_40 lo mean mg mb h₀) (hk : cs.kind = .function)
    (hp : pre s.heap) (hd : dp + d < recursionLimit) (hu : un + 8 * d < cLine)
    (ret : ∀ r h' tk', Fr h₀ L h' m → News h₀ L h' news → KeepB [] s.heap h' → R s.heap r h' → Q r { s with heap := h', toks := tk' }) :
    wpAny (model PySem.Challenge.rw_nt0120_01.row.prog w) (ktrTop dp un gd cn cs L a ccd cl outer) (call (.ref f) vs) Q E s :=
  C dp un gd cn cs a ccd cl outer A₀ base h₀ L m s Q E B F X News.nil T hk hp hd hu fun r h' tk' F' K' R' =>
    ret r h' tk' F' (fun p hp => ⟨K' _ _ (N p hp).1 (by simp), (N p hp).2⟩) K' R'
/-- a new thing onto the ledger -/
theorem news_new {h h' : Heap} {l : Addr} {o : Obj} (F : Fr h₀ L h m) (N' : News h₀ L h' news) (e : h'.get? l = some o) (f : h.get? l = none) : News h₀ L h' ((l, o) :: news) := by
  intro p hp
  rcases List.mem_cons.mp hp with rfl | hp
  · refine ⟨e, fun q => ?_, ?_⟩
    · refine hide fun G99 hG99 => ?_
      obtain ⟨⟨oL, es, ep, hL, r⟩, _, _⟩ := F
      refine hG99 ?_
      clear hG99 G99
      have q' : l = L := q
      rw [q', hL] at f; cases f
    · show h₀.get? l = none
      cases q : h₀.get? l with
      | none => rfl
      | some o' => rw [F.keep _ _ q] at f; cases f
  · exact N' p hp
end
section
variable {prog : Program} {w : World} {A : Around} {E : Value → Shared → Prop} {s : Shared} {x y : Int} {t u : Tok} {Q : Value → Shared → Prop}
theorem mod_small (h0 : 0 ≤ x) (h1 : x < y) (h : Q (.int x s.toks) { s with toks := s.toks + 1 }) : wpAny (model prog w) A (binaryOp .Mod (.int x t) (.int y u)) Q E s :=
  mod_int' (by omega) (by rw [Int.fmod_eq_emod_of_nonneg _ (by omega), Int.emod_eq_of_lt h0 h1]; exact h)
theorem and127 (h0 : 0 ≤ x) (h1 : x < 128) (h : Q (.int x s.toks) { s with toks := s.toks + 1 }) : wpAny (model prog w) A (binaryOp .BitAnd (.int x t) (.int 127 u)) Q E s :=
  and_int (by rw [bitAnd_m7, Int.emod_eq_of_lt h0 h1]; exact h)
theorem and255 (h0 : 0 ≤ x) (h1 : x < 256) (h : Q (.int x s.toks) { s with toks := s.toks + 1 }) : wpAny (model prog w) A (binaryOp .BitAnd (.int x t) (.int 255 u)) Q E s :=
  and_int (by rw [bitAnd_m8, Int.emod_eq_of_lt h0 h1]; exact h)
theorem bitOr_zero (h0 : 0 ≤ y) : Builtin.bitOr 0 y = y := by
  have e1 : Builtin.bitNot 0 = -1 := by decide
  unfold Builtin.bitOr
  rw [e1]
  have h : Builtin.bitNot y < 0 := by unfold Builtin.bitNot; omega
  unfold Builtin.bitAnd
  simp only [show decide ((0:Int) ≤ -1) = false from by decide, decide_eq_false (Int.not_le.mpr h)]
  unfold Builtin.bitNot
  have e2 : (-(-1 : Int) - 1).toNat = 0 := by decide
  rw [e2, Nat.zero_or]
  omega
theorem or_zero (h0 : 0 ≤ y) (h : Q (.int y s.toks) { s with toks := s.toks + 1 }) : wpAny (model prog w) A (binaryOp .BitOr (.int 0 t) (.int y u)) Q E s :=
  or_int (by rw [bitOr_zero h0]; exact h)
theorem shl_zero (h0 : 0 ≤ y) (h1 : y ≤ 1000000) (h : Q (.int 0 s.toks) { s with toks := s.toks + 1 }) : wpAny (model prog w) A (binaryOp .LShift (.int 0 t) (.int y u)) Q E s :=
  lshift_int_small h0 h1 (by decide) (by rw [Int.zero_mul]; exact h)
theorem ishr7 (h0 : 0 ≤ x) (h1 : x < 128) (h : Q (.int 0 s.toks) { s with toks := s.toks + 1 }) : wpAny (model prog w) A (inplaceOp .RShift (.int x t) (.int 7 u)) Q E s :=
  irshift_int (by decide) (by
    have e : x.fdiv (2 ^ Int.toNat 7) = 0 := by
      rw [Int.fdiv_eq_ediv_of_nonneg _ (by decide)]
      have : (2 : Int) ^ Int.toNat 7 = 128 := by decide
      rw [this]; omega
    rw [e]; exact h)
theorem ishr8 (h0 : 0 ≤ x) (h1 : x < 256) (h : Q (.int 0 s.toks) { s with toks := s.toks + 1 }) : wpAny (model prog w) A (inplaceOp .RShift (.int x t) (.int 8 u)) Q E s :=
  irshift_int (by decide) (by
    have e : x.fdiv (2 ^ Int.toNat 8) = 0 := by
      rw [Int.fdiv_eq_ediv_of_nonneg _ (by decide)]
      have : (2 : Int) ^ Int.toNat 8 = 256 := by decide
      rw [this]; omega
    rw [e]; exact h)
/-- a power of written numbers, as its value -/
theorem pow_lit {k : Int} (h0 : 0 ≤ y) (h1 : y ≤ 1000) (h2 : x.natAbs < 2 ^ 64) (e : x ^ y.toNat = k) (h : Q (.int k s.toks) { s with toks := s.toks + 1 }) : wpAny (model prog w) A (binaryOp .Pow (.int x t) (.int y u)) Q E s :=
  pow_int_small h0 (by omega) h2 (by rw [e]; exact h)
end
theorem isValN : IsVal .none none := rfl
theorem isValI {i : Int} {t : Tok} : IsVal (.int i t) (some i) := ⟨t, rfl⟩
section
variable {prog : Program} {w : World} {A : Around} {E : Value → Shared → Prop} {s : Shared} {t u : Tok} {ns : List Int} {Q : Value → Shared → Prop}
theorem len_ba (hz : ns.length ≤ 1000) (h : Q (.int ns.length (s.toks + 1)) { s with toks := s.toks + 1 + 1 }) : wpAny (model prog w) A (call (.builtin "len") [.bytes (byteArr ns) t]) Q E s :=
  len_bytes (by rw [byteArr_size]; omega) (by rw [byteArr_size]; exact h)
theorem item_ba {value slice : Expr} {i x : Int} (hz : ns.length ≤ 1000) (h0 : 0 ≤ i) (hx : ns[i.toNat]? = some x) (hx0 : 0 ≤ x) (hx1 : x < 256) (h : Q (.int x s.toks) { s with toks := s.toks + 1 })
    (h1 : subscripted slice false (Value.bytes (byteArr ns) t) (Value.int i u) = operate [Value.bytes (byteArr ns) t, Value.int i u] (getItem (Value.bytes (byteArr ns) t) (Value.int i u)) := by with_unfolding_all rfl)
    (h2 : ∀ r, letTemporaryGo value (Value.bytes (byteArr ns) t) r = pure () := by intro r; cases r <;> with_unfolding_all rfl) :
    wpAny (model prog w) A (subscriptTail value slice (.bytes (byteArr ns) t) (.int i u)) Q E s := by
  have hlt : i.toNat < ns.length := (List.getElem?_eq_some_iff.mp hx).1
  generalize hl : (ns.map fun n : Int => n.toNat.toUInt8) = l
  have hb : byteArr ns = l.toArray := by rw [← hl]; rfl
  have hlen : l.length = ns.length := by rw [← hl, List.length_map]
  have hget : l[i.toNat]? = some x.toNat.toUInt8 := by rw [← hl, List.getElem?_map, hx]; rfl
  clear hl
  rw [hb] at h1 h2 ⊢
  refine KBy.item_N (by omega) h0 (by omega) ?_ h1 h2
  have e : ((l.getD i.toNat 0).toNat : Int) = x := by
    rw [List.getD_eq_getElem?_getD, hget, Option.getD_some]
    have e2 : x.toNat.toUInt8.toNat = x.toNat % 256 := UInt8.toNat_ofNat'
    rw [e2, Nat.mod_eq_of_lt (by omega)]
    omega
  rw [e]; exact h
theorem add_ba {ms : List Int} (hz : ns.length + ms.length ≤ 1000) (h : ∀ t' k, Q (.bytes (byteArr (ns ++ ms)) t') { s with toks := k }) : wpAny (model prog w) A (binaryOp .Add (.bytes (byteArr ns) t) (.bytes (byteArr ms) u)) Q E s :=
  KBy.add_bytes (by rw [byteArr_size, byteArr_size]; omega) fun t' k => by
    have e : byteArr ns ++ byteArr ms = byteArr (ns ++ ms) := by simp [byteArr]
    rw [e]; exact h t' k
end
theorem made {g h h' : Heap} {L' : Addr} {news' : List (Addr × Obj)} {l : Addr} {o : Obj} (kg : KeepB [] h g) (N : News g L' h' news') (hm : (l, o) ∈ news') : h'.get? l = some o ∧ h.get? l = none := by
  refine ⟨(N _ hm).1, ?_⟩
  cases q : h.get? l with
  | none => rfl
  | some o' => have := (N _ hm).2.2; rw [kg _ _ q (by simp)] at this; cases this
theorem rsize1 (a : Int) : Builtin.Range.rangeSize a (a + 1) 1 = ((1 : Nat) : Int) := by
  unfold Builtin.Range.rangeSize
  rw [if_pos (by decide), if_pos (by omega)]
  have : a + 1 - a - 1 = 0 := by omega
  rw [this]; rfl
theorem rsmall1 {a : Int} (h0 : 0 ≤ a) (h1 : a ≤ 1000) : Builtin.Range.small a (a + 1) 1 = true := small_one (by omega) (by omega) (by omega) (by omega)
def AllNe (d : Addr) : List (Addr × Obj) → Prop
  | [] => True
  | p :: r => @Ne Nat p.1 d ∧ AllNe d r
theorem newNe {h₀ h : Heap} {L l : Addr} {news : List (Addr × Obj)} (N : News h₀ L h news) (f : h.get? l = none) : AllNe l news := by
  have key : ∀ r, (∀ p ∈ r, p ∈ news) → AllNe l r := by
    intro r
    induction r with
    | nil => intro _; trivial
    | cons p r ih =>
      intro hs
      refine ⟨fun e => ?_, ih fun q hq => hs q (.tail _ hq)⟩
      have := (N p (hs p (.head _))).1
      rw [show p.1 = l from e, f] at this; cases this
  exact key news fun p hp => hp
end
section
theorem w_off : hd0.heap_1_39 = hd0.heap_1_39 := by
  w_top off
  rfl
end
/-! ## FL -/
section
open PySem.Sem (wp)
/-- how a turn of a loop ends -/
def Turned (h₀ : Heap) (L I : Addr) (o : Obj) (J' : (Str → Option Value) → List (Addr × Obj) → Prop) (s : Shared) (Q : Flow → Shared → Prop) (f : Flow) (s' : Shared) : Prop :=
  match f with
  | .ret v => Q (.ret v) s'
  | .brk => Q .next s'
  | _ => ∃ h' tk' m' news', s' = { s with heap := h', toks := tk' } ∧ Fr h₀ L h' m' ∧ News h₀ L h' ((I, o) :: news') ∧ (∀ p ∈ news', p.1 ≠ I) ∧ J' m' news'
theorem Turned.next {h₀ : Heap} {L I : Addr} {o : Obj} {J' : (Str → Option Value) → List (Addr × Obj) → Prop} {s : Shared} {Q : Flow → Shared → Prop} {h' : Heap} {tk' : Nat} {m' : Str → Option Value} {all : List (Addr × Obj)} (news' : List (Addr × Obj))
    (F : Fr h₀ L h' m') (N : News h₀ L h' all) (hI : (I, o) ∈ all) (hs : ∀ p ∈ news', p ∈ all) (hne : ∀ p ∈ news', p.1 ≠ I) (hj : J' m' news') : Turned h₀ L I o J' s Q .next { s with heap := h', toks := tk' } :=
  ⟨h', tk', m', news', rfl, F, fun p hp => by rcases List.mem_cons.mp hp with rfl | hp; exact N _ hI; exact N _ (hs p hp), hne, hj⟩
theorem fr_but {h₀ h h' : Heap} {L a : Addr} {m : Str → Option Value} (F : Fr h₀ L h m) (ha : h₀.get? a = none) (hL : L ≠ a) (hs : ∀ b o, b ≠ a → h.get? b = some o → h'.get? b = some o) : Fr h₀ L h' m := by
  refine hide fun G99 hG99 => ?_
  obtain ⟨⟨oL, es, ep, e, r⟩, k, ab⟩ := F
  refine hG99 ?_
  clear hG99 G99
  exact ⟨⟨oL, es, ep, hs _ _ hL e, r⟩, fun b o q => hs b o (fun z => by rw [z, ha] at q; cases q) (k b o q), ab⟩
section
variable {prog : Program} {w : World} {A : Around} {E : Value → Shared → Prop} {s : Shared} {env : Env}
/-- all of h but I stands in h' -/
def ButI (I : Addr) (h h' : Heap) : Prop := ∀ b o, b ≠ I → h.get? b = some o → h'.get? b = some o
def LetOK (prog : Program) (w : World) (A : Around) (target : PySem.Expr) (I : Addr) (v : Value) (s : Shared) : Prop := ∀ (Q : Unit → Shared → Prop) (E1 : Value → Shared → Prop), Q () s → wpAny (model prog w) A (letOwnedTupleGo target (.ref I) v) Q E1 s
/-- what a for goes over: its next value, its end -/
def SrcL (prog : Program) (w : World) (A : Around) (h₀ : Heap) (L : Addr) (target : PySem.Expr) (s : Shared) (I : Addr) (n : Nat) (Vi : Nat → Value → Prop) (It : Nat → Heap → Prop) (J : Nat → (Str → Option Value) → List (Addr × Obj) → Prop) : Prop :=
  (∀ i h m₁ tk (Q : Option Value → Shared → Prop) E1, It i h → Fr h₀ L h m₁ → i < n → (∀ v h₂ tk₂ oI, Vi i v → h₂.get? I = some oI → ButI I h h₂ → LetOK prog w A target I v { s with heap := h₂, toks := tk₂ } →
      (∀ h₅ m₅ n₅, Fr h₀ L h₅ m₅ → (∀ p ∈ n₅, h₅.get? p.1 = some p.2) → J (i + 1) m₅ n₅ → h₅.get? I = some oI → It (i + 1) h₅) → Q (some v) { s with heap := h₂, toks := tk₂ }) → wpAny (model prog w) A (pyNext (.ref I)) Q E1 { s with heap := h, toks := tk }) ∧
  (∀ h tk (Q : Option Value → Shared → Prop) E1, It n h → (∀ h₂ tk₂, ButI I h h₂ → Q none { s with heap := h₂, toks := tk₂ }) → wpAny (model prog w) A (pyNext (.ref I)) Q E1 { s with heap := h, toks := tk })
/-- between two turns -/
def LoopSt (h₀ : Heap) (L : Addr) (s : Shared) (I : Addr) (n : Nat) (It : Nat → Heap → Prop) (J : Nat → (Str → Option Value) → List (Addr × Obj) → Prop) (k : Nat) (s' : Shared) : Prop :=
  ∀ G : Prop, (∀ i h tk m₁ n₁, i ≤ n → k = n - i → s' = { s with heap := h, toks := tk } → Fr h₀ L h m₁ → News h₀ L h n₁ → (∀ p ∈ n₁, p.1 ≠ I) → It i h → J i m₁ n₁ → G) → G
theorem for_step {X : Shared → Prop} {Y : Value → Shared → Prop} {E1 : Value → Shared → Prop} {s' : Shared} {target : PySem.Expr} {Q : Flow → Shared → Prop} {h₀ : Heap} {L I : Addr} {n k : Nat} {Vi : Nat → Value → Prop} {It : Nat → Heap → Prop} {J : Nat → (Str → Option Value) → List (Addr × Obj) → Prop}
    (S : SrcL prog w A h₀ L target s I n Vi It J) (hIL : L ≠ I) (hI₀ : h₀.get? I = none) (hS : LoopSt h₀ L s I n It J k s') (fin : ∀ m₁ n₁ h tk, J n m₁ n₁ → Fr h₀ L h m₁ → News h₀ L h n₁ → X { s with heap := h, toks := tk })
    (one : ∀ i v m₁ n₁ h tk o, Vi i v → J i m₁ n₁ → Fr h₀ L h m₁ → News h₀ L h ((I, o) :: n₁) → (∀ p ∈ n₁, p.1 ≠ I) → i < n → LetOK prog w A target I v { s with heap := h, toks := tk } →
      (∀ f s₃, Turned h₀ L I o (J (i + 1)) s Q f s₃ → match f with
        | .next | .cont => ∃ m, m < k ∧ LoopSt h₀ L s I n It J m s₃
        | .brk => Q .next s₃
        | .ret v => Q (.ret v) s₃) → Y v { s with heap := h, toks := tk }) :
    wpAny (model prog w) A (pyNext (.ref I)) (fun r s₁ => match r with | none => X s₁ | some v => Y v s₁) E1 s' := by
  refine hS _ fun i h tk m₁ n₁ hi hk e F₁ N₁ hne hit hJ => ?_
  subst e hk
  by_cases hlt : i < n
  · refine S.1 i h m₁ tk _ _ hit F₁ hlt fun v h₂ tk₂ oI hV eI hb lt back => ?_
    refine one i v m₁ n₁ h₂ tk₂ oI hV hJ (fr_but F₁ hI₀ hIL hb) (List.forall_mem_cons.mpr ⟨⟨eI, Ne.symm hIL, hI₀⟩, fun p hp => ⟨hb _ _ (hne p hp) (N₁ p hp).1, (N₁ p hp).2⟩⟩) hne hlt lt fun f s₃ t => ?_
    have step : (∃ h' tk' m' news', s₃ = { s with heap := h', toks := tk' } ∧ Fr h₀ L h' m' ∧ News h₀ L h' ((I, oI) :: news') ∧ (∀ p ∈ news', p.1 ≠ I) ∧ J (i + 1) m' news') → ∃ m, m < n - i ∧ LoopSt h₀ L s I n It J m s₃ := fun t => by
      refine hide fun G99 hG99 => ?_
      obtain ⟨h', tk', m', n', e, F', N', hne', hJ'⟩ := t
      refine hG99 ?_
      clear hG99 G99
      exact ⟨n - (i + 1), Nat.sub_lt_sub_left hlt (Nat.lt_succ_self i), fun G g => g (i + 1) h' tk' m' n' hlt rfl e F' (fun p hp => N' p (.tail _ hp)) hne' (back h' m' n' F' (fun p hp => (N' p (.tail _ hp)).1) hJ' (N' _ (.head _)).1) hJ'⟩
    cases f with
    | ret r => exact t
    | brk => exact t
    | next => exact step t
    | cont => exact step t
  · have e : i = n := Nat.le_antisymm hi (Nat.le_of_not_lt hlt)
    exact S.2 h tk _ _ (e ▸ hit) fun h₂ tk₂ hb => fin m₁ n₁ h₂ tk₂ (e ▸ hJ) (fr_but F₁ hI₀ hIL hb) fun p hp => ⟨hb _ _ (hne p hp) (N₁ p hp).1, (N₁ p hp).2⟩
theorem list_srcL {target : PySem.Expr} {I l : Addr} {vs : List Value} {h₀ : Heap} {L : Addr} {J : Nat → (Str → Option Value) → List (Addr × Obj) → Prop} (hh : A.handled = none)
    (hlet : ∀ (I : Addr) (j : Nat) (h : Heap) (v : Value) (tk : Nat) (Q : Unit → Shared → Prop) (E1 : Value → Shared → Prop), h.IsListIter I l j → v ∈ vs → Q () { s with heap := h, toks := tk } → wpAny (model prog w) A (letOwnedTupleGo target (.ref I) v) Q E1 { s with heap := h, toks := tk })
    (hkeep : (∃ o, h₀.get? l = some o) ∨ (∀ i m₁ n₁, J i m₁ n₁ → ∃ o, (l, o) ∈ n₁ ∧ o.cls = .type "list" ∧ ∃ k, o.data = .seq vs.toArray k)) :
    SrcL prog w A h₀ L target s I vs.length (fun i v => vs[i]? = some v) (fun i h => h.IsListIter I l i ∧ h.IsList l vs.toArray) J :=
  ⟨fun i h m₁ tk Q E1 hi F hlt k => by
    have hv : vs[i]? = some vs[i] := List.getElem?_eq_getElem hlt
    refine wpAny_pyNext_list_item (x := vs[i]) hi.1 hi.2 (by rw [List.getElem?_toArray]; exact hv) fun h₂ hit₂ hs₂ => ?_
    refine let ⟨oI, eI, cI, dI⟩ := id hit₂; k _ h₂ tk oI hv eI (fun b o hb e => hs₂.extBut b o hb e) (fun Q E1 q => hlet I _ h₂ _ tk Q E1 hit₂ (List.mem_of_getElem? hv) q) fun h₅ m₅ n₅ F₅ N₅ J₅ e₅ => ⟨⟨oI, e₅, cI, dI⟩, ?_⟩
    exact hkeep.elim (fun ⟨o₀, e₀⟩ => let ⟨oo, eo, r⟩ := hi.2; ⟨o₀, F₅.keep _ _ e₀, Option.some.inj (eo.symm.trans (F.keep _ _ e₀)) ▸ r⟩) fun hk => let ⟨o₁, hm, r⟩ := hk _ _ _ J₅; ⟨o₁, N₅ _ hm, r⟩,
  fun h tk Q E1 hi k => wpAny_pyNext_list_end hh hi.1 hi.2 (by rw [List.getElem?_toArray]; exact List.getElem?_eq_none (Nat.le_refl _)) fun h₂ he => k h₂ tk fun b o hb e => he b o hb e⟩
/-- at the start: an iterator is made -/
theorem loop_start {h₀ : Heap} {L : Addr} {n : Nat} {It : Nat → Heap → Prop} {J : Nat → (Str → Option Value) → List (Addr × Obj) → Prop} {m₀ : Str → Option Value} {news : List (Addr × Obj)} (o : Obj) (F : Fr h₀ L s.heap m₀) (N : News h₀ L s.heap news) (hit : It 0 (s.heap.push o)) (hj : J 0 m₀ news) :
    LoopSt h₀ L s s.heap.objs.size n It J n { s with heap := s.heap.push o } := fun G g =>
  g 0 (s.heap.push o) s.toks m₀ news (Nat.zero_le _) rfl rfl (F.push _) (fun p hp => ⟨Heap.get?_push_of_some _ (N p hp).1, (N p hp).2⟩) (fun p hp => Nat.ne_of_lt (Heap.lt_size (N p hp).1)) hit hj
theorem iterC {target : PySem.Expr} {body : List Stmt} {Q : Flow → Shared → Prop} {h₀ : Heap} {L l : Addr} {vs : List Value} {m₀ : Str → Option Value} {news : List (Addr × Obj)} (J : Nat → (Str → Option Value) → List (Addr × Obj) → Prop)
    (hh : A.handled = none) (hl : s.heap.IsList l vs.toArray) (hkeep : (∃ o, h₀.get? l = some o) ∨ (∀ i m₁ n₁, J i m₁ n₁ → ∃ o, (l, o) ∈ n₁ ∧ o.cls = .type "list" ∧ ∃ k, o.data = .seq vs.toArray k))
    (F : Fr h₀ L s.heap m₀) (N : News h₀ L s.heap news) (hj : J 0 m₀ news)
    (turn : ∀ i v m₁ news₁ h tk I o, vs[i]? = some v → J i m₁ news₁ → Fr h₀ L h m₁ → News h₀ L h ((I, o) :: news₁) → (∀ p ∈ news₁, p.1 ≠ I) →
      wpAny (model prog w) A (assign target env v) (fun _ s₂ => wpC (model prog w) A (execs body env) (Turned h₀ L I o (J (i + 1)) s Q) (fun _ _ => False) s₂) (fun _ _ => False) { s with heap := h, toks := tk })
    (done : ∀ m₁ news₁ h tk, J vs.length m₁ news₁ → Fr h₀ L h m₁ → News h₀ L h news₁ → Q .next { s with heap := h, toks := tk })
    (ht : ∀ it v, letOwnedTupleGo target it v = pure () := by intro _ _; rfl) :
    wpAny (model prog w) A (pyIter (.ref l)) (fun it s₂ => codeC (model prog w) A (.forLoop target it body [] env) (fun r s' => match r with | .ok f => Q f s' | .error _ => False) s₂) E s := by
  refine wpAny_pyIter_list hl (codeC_forLoop (LoopSt h₀ L s s.heap.objs.size vs.length (fun i h => h.IsListIter s.heap.objs.size l i ∧ h.IsList l vs.toArray) J) (fun k s' hS => ?_) vs.length (loop_start _ F N ⟨⟨_, Heap.get?_push_size _ rfl, rfl, rfl⟩, hl.push _⟩ hj) (ht _))
  exact for_step (Q := Q) (list_srcL hh (fun I j h v tk Q E1 _ _ q => by rw [ht]; exact wpAny_pure q) hkeep) (Nat.ne_of_lt F.ns.lt) (next_is_new F) hS done fun i v m₁ n₁ h tk o hV hJ F N off hi lt cont =>
    wpAny_mono (turn i v m₁ n₁ h tk _ o hV hJ F N off) (fun _ s₂ q => wpC_mono q (fun f s₃ t => by have z := cont f s₃ t; cases f <;> exact z) fun _ _ x => x) fun _ _ x => x
theorem iterP {target : PySem.Expr} {body : List Stmt} {Q : Flow → Shared → Prop} {E' : Value → Shared → Prop} {h₀ : Heap} {L l : Addr} {vs : List Value} {m₀ : Str → Option Value} {news : List (Addr × Obj)} (J : Nat → (Str → Option Value) → List (Addr × Obj) → Prop)
    (hh : A.handled = none) (hl : s.heap.IsList l vs.toArray) (hkeep : (∃ o, h₀.get? l = some o) ∨ (∀ i m₁ n₁, J i m₁ n₁ → ∃ o, (l, o) ∈ n₁ ∧ o.cls = .type "list" ∧ ∃ k, o.data = .seq vs.toArray k))
    (F : Fr h₀ L s.heap m₀) (N : News h₀ L s.heap news) (hj : J 0 m₀ news)
    (turn : ∀ i v m₁ news₁ h tk I o, vs[i]? = some v → J i m₁ news₁ → Fr h₀ L h m₁ → News h₀ L h ((I, o) :: news₁) → (∀ p ∈ news₁, p.1 ≠ I) →
      wpAny (model prog w) A (assign target env v) (fun _ s₂ => wpAny (model prog w) A (execs body env) (Turned h₀ L I o (J (i + 1)) s Q) (notedBy (model prog w) A env E') s₂) (notedBy (model prog w) A env E') { s with heap := h, toks := tk })
    (done : ∀ m₁ news₁ h tk, J vs.length m₁ news₁ → Fr h₀ L h m₁ → News h₀ L h news₁ → Q .next { s with heap := h, toks := tk })
    (hlet : ∀ (I : Addr) (j : Nat) (h : Heap) (v : Value) (tk : Nat) (Q : Unit → Shared → Prop) (E1 : Value → Shared → Prop), h.IsListIter I l j → v ∈ vs → Q () { s with heap := h, toks := tk } → wpAny (model prog w) A (letOwnedTupleGo target (.ref I) v) Q E1 { s with heap := h, toks := tk }) :
    wpAny (model prog w) A (pyIter (.ref l)) (fun it s₂ => codeAny (model prog w) A (.forLoop target it body [] env) (fun r s' => match r with | .ok f => Q f s' | .error e => E' e s') s₂) E s := by
  refine wpAny_pyIter_list hl (codeAny_forLoop_any (LoopSt h₀ L s s.heap.objs.size vs.length (fun i h => h.IsListIter s.heap.objs.size l i ∧ h.IsList l vs.toArray) J) (fun k s' hS => ?_) vs.length (loop_start _ F N ⟨⟨_, Heap.get?_push_size _ rfl, rfl, rfl⟩, hl.push _⟩ hj))
  exact for_step (Q := Q) (list_srcL hh hlet hkeep) (Nat.ne_of_lt F.ns.lt) (next_is_new F) hS (fun m₁ n₁ h tk hJ F N => wpAny_execs_nil (done m₁ n₁ h tk hJ F N)) fun i v m₁ n₁ h tk o hV hJ F N off hi lt cont => lt _ _
    (wpAny_mono (turn i v m₁ n₁ h tk _ o hV hJ F N off) (fun _ s₂ q => wpAny_mono q (fun f s₃ t => by have z := cont f s₃ t; cases f <;> exact z) fun _ _ x => x) fun _ _ x => x)
theorem iterA {target : PySem.Expr} {body : List Stmt} {Q : Flow → Shared → Prop} {E' : Value → Shared → Prop} {h₀ : Heap} {L l : Addr} {vs : List Value} {m₀ : Str → Option Value} {news : List (Addr × Obj)} (J : Nat → (Str → Option Value) → List (Addr × Obj) → Prop)
    (hh : A.handled = none) (hl : s.heap.IsList l vs.toArray) (hkeep : (∃ o, h₀.get? l = some o) ∨ (∀ i m₁ n₁, J i m₁ n₁ → ∃ o, (l, o) ∈ n₁ ∧ o.cls = .type "list" ∧ ∃ k, o.data = .seq vs.toArray k))
    (F : Fr h₀ L s.heap m₀) (N : News h₀ L s.heap news) (hj : J 0 m₀ news)
    (turn : ∀ i v m₁ news₁ h tk I o, vs[i]? = some v → J i m₁ news₁ → Fr h₀ L h m₁ → News h₀ L h ((I, o) :: news₁) → (∀ p ∈ news₁, p.1 ≠ I) →
      wpAny (model prog w) A (assign target env v) (fun _ s₂ => wpAny (model prog w) A (execs body env) (Turned h₀ L I o (J (i + 1)) s Q) (notedBy (model prog w) A env E') s₂) (notedBy (model prog w) A env E') { s with heap := h, toks := tk })
    (done : ∀ m₁ news₁ h tk, J vs.length m₁ news₁ → Fr h₀ L h m₁ → News h₀ L h news₁ → Q .next { s with heap := h, toks := tk })
    (ht : ∀ it v, letOwnedTupleGo target it v = pure () := by intro _ _; rfl) :
    wpAny (model prog w) A (pyIter (.ref l)) (fun it s₂ => codeAny (model prog w) A (.forLoop target it body [] env) (fun r s' => match r with | .ok f => Q f s' | .error e => E' e s') s₂) E s :=
  iterP J hh hl hkeep F N hj turn done fun I j h v tk Q E1 _ _ q => by rw [ht]; exact wpAny_pure q
end
end
/-! ## CE0 -/
section
open PySem.Sem (wp)
section
variable {prog : Program} {w : World} {A₀ A : Around} {s : Shared} {base h₀ : Heap} {outer : List Env} {L : Addr} {m mg mb : Str → Option Value} {env : Env} {xs : List (Addr × Obj)} {K : Frag} {p : Program} {loose : List Str} {mean : ExcName → Option Value}
  {R : Result → Shared → Prop} {name qual : Str} {params : Arguments} {body : List Stmt} {scope : Scope} {dV kV doc pm cdv ct oc : Value} {an od : Option Addr} {osl : Array (Option Value)} {f : Addr} {args : Args} {binds : List (Str × Value)}
/-- as enterH, of clean stacks -/
theorem enterC (B : Below A₀ base outer h₀) (F : Fr h₀ L s.heap m) (X₀ : K.In h₀) (N : News h₀ L s.heap xs) (T : Top p loose mean mg mb h₀) (hA : A.frames = some (env :: outer)) (hf : env.frame = some L) (hke : env.scope.kind = .function)
    (ho : K.lookup f = some ⟨oc, od, .func (fnOf name qual params body scope dV kV doc pm an cdv ct), osl⟩) (hcd : codeIn K cdv qual = true) (hroom : A.depth < recursionLimit)
    (hbind : BindsTo s (fnOf name qual params body scope dV kV doc pm an cdv ct) args binds) (hloc : ∀ y ∈ binds, scope.names.lookup y.1 = some .local)
    (h : ∀ g L' h₁, KeepB xs s.heap g → Fr g L' h₁ (fun y => binds.reverse.lookup y) → News g L' h₁ xs → Below A base (env :: outer) g → K.In g → Top p loose mean mg mb g →
      wpC (model prog w) (A.deeper (envOf qual scope L' f cdv)) (execs body (envOf qual scope L' f cdv))
        (fun fl s' => Back h₀ L m xs s.heap g L' R (match fl with | .ret v => v | _ => .none) s') (fun _ _ => False) { s with heap := h₁, toks := s.toks + binds.length })
    (hco : scope.isCoroutine = false) (hgen : scope.isGenerator = false) (hk : scope.kind = .function)
    (hcell : ∀ x ∈ scope.names, x.2 ≠ .cell) : codeC (model prog w) A (.call (.ref f) args) R s := by
  refine hide fun G99 hG99 => ?_
  obtain ⟨FG, BG, st, -⟩ := groundX (R := R) B F N hA hf hke
  refine hG99 ?_
  clear hG99 G99
  refine codeC_call_function (fd := fnOf name qual params body scope dV kV doc pm an cdv ct) (body := body) hroom ((X₀.keeps F.keep) _ _ ho) rfl hco hgen rfl (codeRec_of (X₀.keeps F.keep) hcd) (hbind _ _ _ _ ?_)
  refine wpAny_newFunctionEnv hcell hloc (fun h₁ hns hsb => ⟨(T.nolimit.keeps F.keep).fresh _ hsb, codeC_func ?_⟩) hk
  have hk₁ : ∀ b o, s.heap.get? b = some o → h₁.get? b = some o := fun b o e => hsb.extBut b o (Nat.ne_of_lt (Heap.lt_size e)) (Heap.get?_push_of_some _ e)
  have kb : KeepB xs s.heap (hideAll s.heap (xs.map (·.1))) := fun b o e nb => hideAll_get _ e nb
  refine wpC_mono (h _ s.heap.objs.size h₁ kb ⟨hns, fun b o e => hk₁ b o (of_hideAll _ e), Nat.le_of_eq (hideAll_size _ _)⟩
    (fun p hp => ⟨hk₁ _ _ (N p hp).1, Nat.ne_of_lt (Heap.lt_size (N p hp).1), hideAll_none _ (List.mem_map_of_mem hp)⟩) BG (X₀.keeps st) (T.keeps st)) (fun fl s' hl => ?_) fun _ _ y => y.elim
  obtain ⟨m', F', k⟩ := hl
  refine hide fun G99 hG99 => ?_
  obtain ⟨⟨oL, es, ep, hL, r⟩, _, _⟩ := FG
  refine hG99 ?_
  clear hG99 G99
  exact k ⟨⟨oL, es, ep, F'.keep _ _ hL, r⟩, fun b o e => F'.keep _ _ (st b o e), F.above⟩ (fun b o e nb => F'.keep _ _ (kb b o e nb))
end
/-- as Tell, of clean stacks -/
def TellC (w : World) (mean : ExcName → Option Value) (mg mb : Str → Option Value) (f : Addr) (d : Nat) (vs : List Value) (xs : List (Addr × Obj)) (pre : Heap → Prop) (R : Heap → Value → Heap → Prop) : Prop :=
  ∀ (dp un : Nat) (cn : Str) (cs : Scope) (a : Addr) (ccd : Value) (cl : List (Str × Addr)) (outer : List Env) (A₀ : Around) (base h₀ : Heap) (L : Addr) (m : Str → Option Value) (s : Shared) (Q E : Value → Shared → Prop),
    Below A₀ base outer h₀ → Fr h₀ L s.heap m → (hd0.heap_1_39 w.params).In h₀ → News h₀ L s.heap xs → Top hd0.view_1_40 lo mean mg mb h₀ → cs.kind = .function → pre s.heap → dp + d < recursionLimit → un + 8 * d < cLine →
    (∀ r h' tk', Fr h₀ L h' m → KeepB xs s.heap h' → R s.heap r h' → Q r { s with heap := h', toks := tk' }) →
    wpC (model PySem.Challenge.rw_nt0120_01.row.prog w) (ktrTop dp un (some []) cn cs L a ccd cl outer) (call (.ref f) vs) Q E s
def ValsAre : List Value → List Val → Prop
  | [], [] => True
  | v :: vs, d :: ds => IsVal v d ∧ ValsAre vs ds
  | _, _ => False
theorem ValsAre.length : ∀ {vs : List Value} {ds : List Val}, ValsAre vs ds → vs.length = ds.length
  | [], [], _ => rfl
  | _ :: _, _ :: _, h => by rw [List.length_cons, List.length_cons, ValsAre.length h.2]
theorem ValsAre.at : ∀ {vs : List Value} {ds : List Val}, ValsAre vs ds → ∀ {i : Nat} {v : Value}, vs[i]? = some v → ∃ d, ds[i]? = some d ∧ IsVal v d
  | _ :: _, d :: _, h, 0, v, e => by cases e; exact ⟨d, rfl, h.1⟩
  | _ :: _, _ :: _, h, i + 1, v, e => by
    obtain ⟨d, hd, hv⟩ := ValsAre.at h.2 (i := i) (v := v) (by simpa using e)
    exact ⟨d, by simpa using hd, hv⟩
/-- the frame's names, but for two -/
theorem fr2 {h₀ h : Heap} {L : Addr} {m₀ m₁ : Str → Option Value} {x y : Str} (F : Fr h₀ L h m₁) (hm : ∀ z, z ≠ x → z ≠ y → m₁ z = m₀ z) :
    Fr h₀ L h (fun z => if z = x then m₁ x else if z = y then m₁ y else m₀ z) := by
  have e : (fun z => if z = x then m₁ x else if z = y then m₁ y else m₀ z) = m₁ := by
    funext z
    by_cases h1 : z = x
    · subst h1; simp
    · by_cases h2 : z = y
      · subst h2; simp [h1]
      · simp [h1, h2, hm z h1 h2]
  rw [e]; exact F
/-- some names of a frame, said -/
def over : List (Str × Value) → (Str → Option Value) → Str → Option Value
  | [], m => m
  | (x, v) :: r, m => fun z => if z = x then some v else over r m z
theorem over_eq {m : Str → Option Value} : ∀ (es : List (Str × Value)), (∀ p ∈ es, m p.1 = some p.2) → over es m = m
  | [], _ => rfl
  | (x, v) :: r, h => by
    funext z
    have ih := over_eq r fun p hp => h p (.tail _ hp)
    by_cases e : z = x
    · subst e; simp [over, h _ (.head _)]
    · simp [over, e, ih]
theorem fr_over {h₀ h : Heap} {L : Addr} {m : Str → Option Value} (F : Fr h₀ L h m) (es : List (Str × Value)) (he : ∀ p ∈ es, m p.1 = some p.2) : Fr h₀ L h (over es m) := by
  rw [over_eq es he]; exact F
theorem news_put {h₀ h h' : Heap} {L d : Addr} {o o' : Obj} {news news' : List (Addr × Obj)} (N : News h₀ L h news) (U : Upd d o o' news news') (hs : Heap.SameBut d h h') (ho : h'.get? d = some o') : News h₀ L h' news' := by
  refine hide fun G99 hG99 => ?_
  obtain ⟨pre, post, rfl, rfl, a, b⟩ := U.split
  refine hG99 ?_
  clear hG99 G99
  exact news_set N a b hs ho
theorem fr_put {h₀ h h' : Heap} {L d : Addr} {o : Obj} {m : Str → Option Value} {news : List (Addr × Obj)} (F : Fr h₀ L h m) (N : News h₀ L h news) (hm : (d, o) ∈ news) (hs : Heap.SameBut d h h') : Fr h₀ L h' m :=
  fr_but F (N _ hm).2.2 (Ne.symm (N _ hm).2.1) fun b o hb e => (hs.2 b hb).trans e
theorem byteArr_append (a b : List Int) : byteArr a ++ byteArr b = byteArr (a ++ b) := by simp [byteArr]
section
variable {prog : Program} {w : World} {A : Around} {E : Value → Shared → Prop} {s : Shared} {a : Addr} {ns : List Int}
theorem len_barI {Q : Value → Shared → Prop} (ho : s.heap.get? a = some (baOf (byteArr ns))) (hz : ns.length ≤ 1000) (h : Q (.int ns.length (s.toks + 1)) { s with toks := s.toks + 1 + 1 }) : wpAny (model prog w) A (call (.builtin "len") [.ref a]) Q E s :=
  len_barr ho (by rw [byteArr_size]; omega) (by rw [byteArr_size]; exact h)
theorem bytes_barI {Q : Value → Shared → Prop} (ho : s.heap.get? a = some (baOf (byteArr ns))) (hz : ns.length ≤ 1000) (h : ∀ t k, Q (.bytes (byteArr ns) t) { s with toks := k }) : wpAny (model prog w) A (call (.type "bytes") [.ref a]) Q E s :=
  bytes_barr ho (by rw [byteArr_size, sizeLine_eq]; omega) h
end
end
/-! ## NK0 -/
section
/-- none of these is d -/
def Off (d : Addr) (l : List Addr) : Prop := ∀ a ∈ l, @Ne Nat a d
theorem Off.ne {a d : Addr} {l : List Addr} (h : Off d l) (m : a ∈ l) : @Ne Nat a d := h a m
theorem Off.en {a d : Addr} {l : List Addr} (h : Off d l) (m : a ∈ l) : @Ne Nat d a := fun e => h a m e.symm
theorem Off.all {d : Addr} {l : List (Addr × Obj)} (h : Off d (l.map (·.1))) : ∀ p ∈ l, @Ne Nat p.1 d := fun _ hp => h _ (List.mem_map_of_mem hp)
theorem off_of {d : Addr} {l : List (Addr × Obj)} (h : ∀ p ∈ l, p.1 < d) : Off d (l.map (·.1)) := fun a m => by
  obtain ⟨p, hp, rfl⟩ := List.mem_map.mp m
  exact Nat.ne_of_lt (h p hp)
theorem newOff {h₀ h : Heap} {L l : Addr} {news : List (Addr × Obj)} (N : News h₀ L h news) (f : h.get? l = none) : Off l (news.map (·.1)) := fun a m e => by
  obtain ⟨p, hp, rfl⟩ := List.mem_map.mp m
  have := (N p hp).1
  rw [show p.1 = l from e, f] at this; cases this
theorem room0 {n D k : Nat} (h : n + D < k) : n < k := Nat.lt_of_le_of_lt (Nat.le_add_right _ _) h
theorem room1 {n D k a : Nat} (h : n + D < k) (e : a ≤ D) : n + a < k := Nat.lt_of_le_of_lt (Nat.add_le_add_left e n) h
theorem room2 {n D k a b : Nat} (h : n + D < k) (e : a + b ≤ D) : n + a + b < k := by rw [Nat.add_assoc]; exact room1 h e
end
local macro_rules | `(tactic| ktn_no "b_list") => `(tactic| first | exact Fr.lst (by assumption) (by assumption) | exact News.isList (by assumption) (by news_mem) | (refine' News.isList ?N ?h; (case N => k_asm); (case h => k_mem)) | assumption)
local macro_rules | `(tactic| ktn_no "b_tup") => `(tactic| first | exact Fr.tup (by assumption) (by assumption) | exact isTup_news (by assumption) (by news_mem) | (refine' isTup_news ?N ?h; (case N => k_asm); (case h => k_mem)) | assumption)
local macro_rules | `(tactic| ktn_no "b_len") => `(tactic| (simp only [List.size_toArray, List.length_map, List.length_cons, List.length_nil]; omega))
section
theorem inst_keep {h h' : Heap} {x C : Addr} {ox : Obj} {od : Option Obj} (I : PySem.W.InstAt h x ox C od) (hk : ∀ b o, h.get? b = some o → h'.get? b = some o) : PySem.W.InstAt h' x ox C od := by
  refine hide fun G99 hG99 => ?_
  obtain ⟨a, b, c, d⟩ := I
  refine hG99 ?_
  clear hG99 G99
  refine ⟨hk _ _ a, b, c, ?_⟩
  cases hd : ox.dict with
  | none => rw [hd] at d; cases od <;> simp_all
  | some dx => rw [hd] at d; cases od with
    | none => simp_all
    | some o => exact hk _ _ d
theorem inst_of {h : Heap} {x dx C : Addr} {o : Obj} (h1 : h.get? x = some (instObj C dx)) (h2 : h.get? dx = some o) : PySem.W.InstAt h x (instObj C dx) C (some o) := ⟨h1, rfl, rfl, h2⟩
theorem isTup_news {h₀ h : Heap} {L l : Addr} {items : Array Value} {news : List (Addr × Obj)} {n : Nat} (N : News h₀ L h news) (hm : (l, ({ cls := .type "tuple", data := .seq items n } : Obj)) ∈ news) : IsTup h l items := ⟨_, N.get hm, rfl, _, rfl⟩
theorem isList_base {g h : Heap} {l : Addr} {a : Array Value} (kg : KeepB [] h g) (x : h.IsList l a) : g.IsList l a := let ⟨o, ho, r⟩ := x; ⟨o, kg _ _ ho (by simp), r⟩
theorem isTup_base {g h : Heap} {l : Addr} {a : Array Value} (kg : KeepB [] h g) (x : IsTup h l a) : IsTup g l a := let ⟨o, ho, r⟩ := x; ⟨o, kg _ _ ho (by simp), r⟩
theorem inst_base {g h : Heap} {x C : Addr} {ox : Obj} {od : Option Obj} (kg : KeepB [] h g) (I : PySem.W.InstAt h x ox C od) : PySem.W.InstAt g x ox C od := inst_keep I fun b o e => kg b o e (by simp)
theorem rsize0 (n : Nat) : Builtin.Range.rangeSize 0 (n : Int) 1 = (n : Int) := by
  unfold Builtin.Range.rangeSize
  rw [if_pos (by decide)]
  by_cases h : n = 0
  · subst h; rfl
  · rw [if_pos (by omega)]
    have e : ((n : Int) - 0 - 1) / 1 + 1 = n := by omega
    first | exact e | (rw [Int.ediv_one]; omega)
theorem rsmall0 {n : Nat} (h1 : n ≤ 1000) : Builtin.Range.small 0 (n : Int) 1 = true := small_one (by omega) (by omega) (by omega) (by omega)
abbrev entW (w : World) (n : String) (t : Tok) (v : Value) : DictEntry := { hash := PyData.keyHash w.params (Str.ofString n), key := .str (Str.ofString n) t, val := v }
end
local macro_rules | `(tactic| ktr_rel) => `(tactic| first | omega | (simp (disch := omega) only [decide_eq_true_eq, decide_eq_false_iff_not, beq_iff_eq, bne_iff_ne, ne_eq, eq_self, bne_self_eq_false, Decidable.not_not, not_true_eq_false, not_false_eq_true, Bool.not_eq_true', beq_eq_false_iff_ne, bne_eq_false_iff_eq, Bool.not_eq_true, Bool.not_eq_false, Int.reducePow, Int.reduceFDiv, Int.reduceFMod, Int.reduceToNat, Int.reduceNeg, Int.reduceMul, Int.fmod_eq_emod_of_nonneg, Int.fdiv_eq_ediv_of_nonneg]; first | done | omega))
local macro_rules | `(tactic| ktn_no "ent") => `(tactic| (k_dflt (refine' enterH (by assumption) (by assumption) (by assumption) (by assumption) (by assumption) (by exact rfl) (by exact rfl) (by assumption) (by k_is) (by k_is) (by ktr_room) (by first | exact BindsTo.of_eq rfl | exact binds_K (Frag.In.keeps (by assumption) (Fr.keep (by assumption))) rfl (by k_is) rfl rfl rfl) (by exact locs rfl) ?_ (by exact rfl) (by exact rfl) (by exact rfl) (by decide); k_whole)))
local macro_rules | `(tactic| ktr_enter) => `(tactic| (refine wpAny_call ?_; ktn_no "ent"; intro g' L' h' kg' F' N' B' X' T'; (try dsimp only); (try k_fold)))
local macro_rules | `(tactic| walk_at "ite") => `(tactic| first
  | (refine ite_pos (by ktr_rel) ?_; walk_say "DECIDED")
  | (refine ite_neg (by ktr_rel) ?_; walk_say "DECIDED"))
local macro_rules | `(tactic| walk_at "WhlIf") => `(tactic| (first | (refine WhlIf.yes (by ktr_rel) ?_) | (refine WhlIf.no (by ktr_rel) ?_)))
local macro_rules | `(tactic| walk_at "call builtin:len") => `(tactic| ((with_reducible show wpAny _ _ (call (Value.builtin "len") [Value.bytes (byteArr _) _]) _ _ _); refine len_ba (by first | assumption | omega | (simp; done)) ?_; (try simp only [List.length_cons, List.length_nil])))
local macro_rules | `(tactic| ktn_no "b_tup") => `(tactic| first | exact Fr.tup (by assumption) (by assumption) | (refine' isTup_news (by k_asm) (by k_mem)) | assumption)
local macro_rules | `(tactic| ktr_rel) => `(tactic| assumption)
local macro_rules | `(tactic| k_inst) => `(tactic| exact inst_keep (by assumption) (Fr.keep (by assumption)))
local macro_rules | `(tactic| walk_at "call builtin:len") => `(tactic| ((with_reducible show wpAny _ _ (call (Value.builtin "len") [Value.ref _]) _ _ _); refine' len_list (by ktn_no "b_list") (by ktn_no "b_len") ?_; (try simp only [List.size_toArray])))
local macro_rules | `(tactic| walk_at "call builtin:len") => `(tactic| ((with_reducible show wpAny _ _ (call (Value.builtin "len") [Value.ref _]) _ _ _); refine' len_tuple (by ktn_no "b_tup") (by ktn_no "b_len") ?_; (try simp only [List.size_toArray])))
local macro_rules | `(tactic| ktn_no "it1") => `(tactic| ((with_reducible show wpAny _ _ (subscriptTail _ _ (Value.ref _) (Value.int _ _)) _ _ _); k_dflt (refine' item_listL (by ktn_no "b_list") (by omega) (by omega) (by assumption) ?_)))
local macro_rules | `(tactic| walk_at "subscriptTail") => `(tactic| ktn_no "it1")
local macro_rules | `(tactic| walk_at "subscriptTail") => `(tactic| ((with_reducible show wpAny _ _ (subscriptTail _ _ (Value.ref _) (Value.int _ _)) _ _ _); k_dflt (refine' item_tupleL (by ktn_no "b_tup") (by omega) (by omega) (by first | assumption | exact rfl | (simp only [seqIndex?]; simp; done)) (by first | assumption | exact rfl) ?_)))
local macro_rules | `(tactic| walk_at "subscriptTail Name Name ref int") => `(tactic| ktn_no "it1")
local macro_rules | `(tactic| ktn_no "it2") => `(tactic| ((with_reducible show wpAny _ _ (subscriptTail _ _ (Value.ref _) (Value.int _ _)) _ _ _); k_dflt (refine' item_tupleL (by ktn_no "b_tup") (by decide) (by decide) (by first | assumption | exact rfl | (simp only [seqIndex?]; simp; done)) (by first | assumption | exact rfl) ?_)))
local macro_rules | `(tactic| walk_at "subscriptTail Name Constant ref int") => `(tactic| ktn_no "it2")
local macro_rules | `(tactic| k_lt $h:ident) => `(tactic| (replace $h := off_of $h; dsimp only [List.map] at $h:ident))
local macro_rules | `(tactic| k_ne) => `(tactic| (refine neN ?_; (try dsimp only); first
  | with_reducible assumption
  | (refine Ne.symm ?_; with_reducible assumption)
  | (refine' Off.ne (by with_reducible assumption) (by k_mem))
  | (refine' Off.en (by with_reducible assumption) (by k_mem))
  | ((repeat (with_reducible rename @Ne Nat _ _ => hq9; clear hq9)); omega)
  | omega))
local macro_rules | `(tactic| k_all) => `(tactic| first
  | exact List.forall_mem_nil _
  | assumption
  | (refine' Off.all (by ((try dsimp only [List.map]); with_reducible assumption)))
  | (refine' List.forall_mem_cons.mpr ⟨?a, ?b⟩; (case a => k_ne); (case b => k_all)))
local macro_rules | `(tactic| ktr_room) => `(tactic| first | exact room1 (by assumption) (by decide) | exact room2 (by assumption) (by decide) | exact room0 (by assumption))
local macro_rules | `(tactic| ktr_units) => `(tactic| first | exact room1 (by assumption) (by decide) | exact room2 (by assumption) (by decide))
local macro_rules | `(tactic| ktn_no "om") => `(tactic| ((repeat (with_reducible rename @Ne Nat _ _ => hq9; clear hq9)); omega))
local macro_rules | `(tactic| ktn_no "stop") => `(tactic| with_reducible show wpAny _ _ (pyIter _) _ _ _)
local macro_rules | `(tactic| ktn_no "stop") => `(tactic| with_reducible show wpAny _ _ (exec (Stmt.While _ _ _ _) _) _ _ _)
local macro_rules | `(tactic| ktn_no "stop") => `(tactic| with_reducible show wpAny _ _ (exec (Stmt.For _ _ _ _ _) _) _ _ _)
local macro_rules | `(tactic| k_steps) => `(tactic| repeat' ((fail_if_success (ktn_no "stop")); first | (k_unfold; (try dsimp only)) | walk1 | (dsimp only; walk1)))
/-! ## NK1 -/
section
theorem news_upd {h₀ h h' : Heap} {L d : Addr} {o o' : Obj} {news news' : List (Addr × Obj)} (N : News h₀ L h news) (U : Upd d o o' news news') (K : KeepB [(d, o)] h h') (ho : h'.get? d = some o') : News h₀ L h' news' := by
  refine hide fun G99 hG99 => ?_
  obtain ⟨pre, post, rfl, rfl, a, b⟩ := U.split
  refine hG99 ?_
  clear hG99 G99
  intro p hp
  have key : ∀ p : Addr × Obj, p ∈ pre ++ (d, o) :: post → p.1 ≠ d → h'.get? p.1 = some p.2 ∧ p.1 ≠ L ∧ h₀.get? p.1 = none := fun p hp n => ⟨K _ _ (N p hp).1 (by simpa using n), (N p hp).2⟩
  rcases List.mem_append.mp hp with hp | hp
  · exact key p (List.mem_append.mpr (.inl hp)) (a p hp)
  · rcases List.mem_cons.mp hp with rfl | hp
    · exact ⟨ho, (N (d, o) (List.mem_append.mpr (.inr (.head _)))).2⟩
    · exact key p (List.mem_append.mpr (.inr (.tail _ hp))) (b p hp)
end
local macro_rules | `(tactic| ktn_no "kind") => `(tactic| first | exact rfl | assumption)
local macro_rules | `(tactic| ktn_no "aft") => `(tactic| ((try k_sweep); (try dsimp only)))
section
/-- where a call of a def stands -/
structure Site (w : World) (mean : ExcName → Option Value) (mg mb : Str → Option Value) (dp un d : Nat) (cs : Scope) (outer : List Env) (A₀ : Around) (base h₀ : Heap) (L : Addr) (m : Str → Option Value) (s : Shared) (news : List (Addr × Obj)) : Prop where
  B : Below A₀ base outer h₀
  F : Fr h₀ L s.heap m
  X : (hd0.heap_1_39 w.params).In h₀
  N : News h₀ L s.heap news
  T : Top hd0.view_1_40 lo mean mg mb h₀
  hk : cs.kind = .function
  hd : dp + d < recursionLimit
  hu : un + 8 * d < cLine
end
local macro_rules | `(tactic| ktn_no "site") => `(tactic| exact Site.mk (by k_asm) (by k_asm) (by k_asm) (by k_asm) (by k_asm) (by ktn_no "kind") (by ktr_room) (by ktr_units))
section
section
variable {w : World} {mean : ExcName → Option Value} {mg mb : Str → Option Value} {f : Addr} {d : Nat} {vs : List Value} {pre : Heap → Prop} {R : Heap → Value → Heap → Prop} {dd : Addr} {o : Obj}
  {dp un : Nat} {gd : Option (List Code)} {cn : Str} {cs : Scope} {a : Addr} {ccd : Value} {cl : List (Str × Addr)} {outer : List Env} {A₀ : Around} {base h₀ : Heap} {L : Addr} {m : Str → Option Value} {news : List (Addr × Obj)} {s : Shared} {Q E : Value → Shared → Prop}
/-- the use of a contract that changes one thing of the ledger -/
theorem tell_useD (C : Tell w mean mg mb f d vs [(dd, o)] pre R) (B : Below A₀ base outer h₀) (F : Fr h₀ L s.heap m) (X : (hd0.heap_1_39 w.params).In h₀) (N : News h₀ L s.heap news) (T : Top hd0.view_1_40 lo mean mg mb h₀) (hk : cs.kind = .function)
    (hm : (dd, o) ∈ news) (hp : pre s.heap) (hd : dp + d < recursionLimit) (hu : un + 8 * d < cLine)
    (ret : ∀ r h' tk', News h₀ L s.heap news → Fr h₀ L h' m → KeepB [(dd, o)] s.heap h' → R s.heap r h' → Q r { s with heap := h', toks := tk' }) :
    wpAny (model PySem.Challenge.rw_nt0120_01.row.prog w) (ktrTop dp un gd cn cs L a ccd cl outer) (call (.ref f) vs) Q E s :=
  C dp un gd cn cs a ccd cl outer A₀ base h₀ L m s Q E B F X (fun p hp => by rcases List.mem_singleton.mp hp with rfl; exact N _ hm) T hk hp hd hu fun r h' tk' F' K' R' => ret r h' tk' N F' K' R'
/-- the use of a contract that changes nothing: for whatever follows from its answer -/
theorem useR (S : Site w mean mg mb dp un d cs outer A₀ base h₀ L m s news := by ktn_no "site") (hp : pre s.heap) (C : Tell w mean mg mb f d vs [] pre R)
    (ret : ∀ r h' tk', Fr h₀ L h' m → News h₀ L h' news → R s.heap r h' → Q r { s with heap := h', toks := tk' }) :
    wpAny (model PySem.Challenge.rw_nt0120_01.row.prog w) (ktrTop dp un gd cn cs L a ccd cl outer) (call (.ref f) vs) Q E s :=
  tell_use0 C S.B S.F S.X S.N S.T S.hk hp S.hd S.hu fun r h' tk' F' N' _ R' => ret r h' tk' F' N' R'
/-- .. whose answer is a value written but for its token -/
theorem useT {c : Tok → Value} (S : Site w mean mg mb dp un d cs outer A₀ base h₀ L m s news := by ktn_no "site") (hp : pre s.heap) (C : Tell w mean mg mb f d vs [] pre fun _ r _ => ∃ t, r = c t)
    (ret : ∀ t h' tk', Fr h₀ L h' m → News h₀ L h' news → Q (c t) { s with heap := h', toks := tk' }) :
    wpAny (model PySem.Challenge.rw_nt0120_01.row.prog w) (ktrTop dp un gd cn cs L a ccd cl outer) (call (.ref f) vs) Q E s :=
  tell_use0 C S.B S.F S.X S.N S.T S.hk hp S.hd S.hu fun _ h' tk' F' N' _ ⟨t, e⟩ => e ▸ ret t h' tk' F' N'
/-- .. whose answer is this value -/
theorem useE {v : Value} (S : Site w mean mg mb dp un d cs outer A₀ base h₀ L m s news := by ktn_no "site") (hp : pre s.heap) (C : Tell w mean mg mb f d vs [] pre fun _ r _ => r = v)
    (ret : ∀ h' tk', Fr h₀ L h' m → News h₀ L h' news → Q v { s with heap := h', toks := tk' }) :
    wpAny (model PySem.Challenge.rw_nt0120_01.row.prog w) (ktrTop dp un gd cn cs L a ccd cl outer) (call (.ref f) vs) Q E s :=
  tell_use0 C S.B S.F S.X S.N S.T S.hk hp S.hd S.hu fun _ h' tk' F' N' _ e => e ▸ ret h' tk' F' N'
/-- .. whose answer is a new list -/
theorem useL {ds : List Val} (S : Site w mean mg mb dp un d cs outer A₀ base h₀ L m s news := by ktn_no "site") (hp : pre s.heap)
    (C : Tell w mean mg mb f d vs [] pre fun h r h' => ∃ l ws n, r = .ref l ∧ h'.get? l = some (PySem.W.listOf (List.toArray ws) n) ∧ ValsAre ws ds ∧ h.get? l = none)
    (ret : ∀ l ws n h' tk', Fr h₀ L h' m → News h₀ L h' ((l, PySem.W.listOf (List.toArray ws) n) :: news) → Off l (news.map (·.1)) → ValsAre ws ds → ws.length = ds.length → Q (.ref l) { s with heap := h', toks := tk' }) :
    wpAny (model PySem.Challenge.rw_nt0120_01.row.prog w) (ktrTop dp un gd cn cs L a ccd cl outer) (call (.ref f) vs) Q E s :=
  tell_use0 C S.B S.F S.X S.N S.T S.hk hp S.hd S.hu fun _ h' tk' F' N' _ ⟨l, ws, n, e, o, v, f⟩ => e ▸ ret l ws n h' tk' F' (news_new S.F N' o f) (newOff S.N f) v (ValsAre.length v)
/-- .. whose answer is a bool of which something is known -/
theorem useB {P : Prop} (S : Site w mean mg mb dp un d cs outer A₀ base h₀ L m s news := by ktn_no "site") (hp : pre s.heap) (C : Tell w mean mg mb f d vs [] pre fun _ r _ => ∃ b, r = .bool b ∧ (b = true ↔ P))
    (yes : ∀ h' tk', Fr h₀ L h' m → News h₀ L h' news → P → Q (.bool true) { s with heap := h', toks := tk' })
    (no : ∀ h' tk', Fr h₀ L h' m → News h₀ L h' news → ¬ P → Q (.bool false) { s with heap := h', toks := tk' }) :
    wpAny (model PySem.Challenge.rw_nt0120_01.row.prog w) (ktrTop dp un gd cn cs L a ccd cl outer) (call (.ref f) vs) Q E s :=
  tell_use0 C S.B S.F S.X S.N S.T S.hk hp S.hd S.hu fun _ h' tk' F' N' _ ⟨b, e, p⟩ => e ▸ match b, p with
    | true, p => yes h' tk' F' N' (p.mp rfl)
    | false, p => no h' tk' F' N' fun q => Bool.false_ne_true (p.mpr q)
/-- .. which writes one thing anew, with a new token in it -/
theorem useU {v : Value} {o' : Tok → Obj} {news' : Tok → List (Addr × Obj)} (S : Site w mean mg mb dp un d cs outer A₀ base h₀ L m s news := by ktn_no "site") (hm : (dd, o) ∈ news := by k_mem) (hp : pre s.heap) (C : Tell w mean mg mb f d vs [(dd, o)] pre fun _ r h' => r = v ∧ ∃ t, h'.get? dd = some (o' t)) (U : ∀ t, Upd dd o (o' t) news (news' t))
    (ret : ∀ t h' tk', Fr h₀ L h' m → News h₀ L h' (news' t) → Q v { s with heap := h', toks := tk' }) :
    wpAny (model PySem.Challenge.rw_nt0120_01.row.prog w) (ktrTop dp un gd cn cs L a ccd cl outer) (call (.ref f) vs) Q E s :=
  tell_useD C S.B S.F S.X S.N S.T S.hk hm hp S.hd S.hu fun _ h' tk' N' F' K' ⟨e, t, g⟩ => e ▸ ret t h' tk' F' (news_upd N' (U t) K' g)
/-- .. which writes one thing anew -/
theorem useV {v : Value} {o' : Obj} {news' : List (Addr × Obj)} (S : Site w mean mg mb dp un d cs outer A₀ base h₀ L m s news := by ktn_no "site") (hm : (dd, o) ∈ news := by k_mem) (hp : pre s.heap) (C : Tell w mean mg mb f d vs [(dd, o)] pre fun _ r h' => r = v ∧ h'.get? dd = some o') (U : Upd dd o o' news news')
    (ret : ∀ h' tk', Fr h₀ L h' m → News h₀ L h' news' → Q v { s with heap := h', toks := tk' }) :
    wpAny (model PySem.Challenge.rw_nt0120_01.row.prog w) (ktrTop dp un gd cn cs L a ccd cl outer) (call (.ref f) vs) Q E s :=
  tell_useD C S.B S.F S.X S.N S.T S.hk hm hp S.hd S.hu fun _ h' tk' N' F' K' ⟨e, g⟩ => e ▸ ret h' tk' F' (news_upd N' U K' g)
end
end
/-! ## NCT4 -/
section
set_option maxHeartbeats 4000000 in
theorem ct_sign {w : World} {mean mg mb} {x y : Int} {tx ty : Tok} : Tell w mean mg mb 134 2 [.int x tx, .int y ty] [] (fun _ => True) (fun _ r _ => IsI r (if x < y then -1 else if y < x then 1 else 0)) := by
  unfold Tell
  k_fill
  intro dp un gd cn cs a ccd cl outer A₀ base h₀ L m s Q E B F X N T hk hpre hd hu hret
  ktr_enter
  (repeat' (first | (k_unfold; (try dsimp only)) | walk1 | (dsimp only; walk1)))
  all_goals exact back_intro (by assumption) fun f k => hret _ _ _ f k (isI (by simp [*]))
set_option maxHeartbeats 4000000 in
theorem ct_class {w : World} {mean mg mb} {v : Value} {d : Val} (hv : IsVal v d) : Tell w mean mg mb 120 2 [v] [] (fun _ => True) (fun _ r _ => IsS r (match d with | none => "null" | some _ => "integer")) := by
  unfold Tell
  k_fill
  intro dp un gd cn cs a ccd cl outer A₀ base h₀ L m s Q E B F X N T hk hpre hd hu hret
  cases d with
  | none =>
    cases hv
    ktr_enter
    (repeat' (first | (k_unfold; (try dsimp only)) | walk1 | (dsimp only; walk1)))
    all_goals exact back_intro (by assumption) fun f k => hret _ _ _ f k ⟨_, rfl⟩
  | some i =>
    obtain ⟨t, rfl⟩ := hv
    ktr_enter
    (repeat' (first | (k_unfold; (try dsimp only)) | walk1 | (dsimp only; walk1)))
    all_goals exact back_intro (by assumption) fun f k => hret _ _ _ f k ⟨_, rfl⟩
def kindOf : Val → Int
  | none => 0
  | some i => if i = 0 then 8 else if i = 1 then 9 else 1
def Small : Val → Prop
  | none => True
  | some i => 0 ≤ i ∧ i < 128
def IsB (v : Value) (ns : List Int) : Prop := ∃ t, v = .bytes (byteArr ns) t
set_option maxHeartbeats 4000000 in
theorem ct_ntype {w : World} {mean mg mb} {i : Int} {t : Tok} (hi0 : 0 ≤ i) (hi1 : i < 128) : Tell w mean mg mb 185 2 [.int i t] [] (fun _ => True) (fun _ r _ => IsI r (kindOf (some i))) := by
  unfold Tell
  k_fill
  intro dp un gd cn cs a ccd cl outer A₀ base h₀ L m s Q E B F X N T hk hpre hd hu hret
  ktr_enter
  (repeat' (first | ((with_reducible show wpAny _ _ (binaryOp Operator.Pow (Value.int _ _) (Value.int _ _)) _ _ _); refine' pow_lit (by decide) (by decide) (by decide) (by (simp only [Int.reduceToNat, Int.reducePow]; rfl)) ?_) | (k_unfold; (try dsimp only)) | walk1 | (dsimp only; walk1)))
  all_goals exact back_intro (by assumption) fun f k => hret _ _ _ f k (isI (by simp [kindOf, *]))
end
/-! ## NCT5 -/
section
set_option maxHeartbeats 4000000 in
theorem ct_stype {w : World} {mean mg mb} {v : Value} {d : Val} (hv : IsVal v d) (hs : Small d) : Tell w mean mg mb 192 4 [v] [] (fun _ => True) (fun _ r _ => IsI r (kindOf d)) := by
  unfold Tell
  k_fill
  intro dp un gd cn cs a ccd cl outer A₀ base h₀ L m s Q E B F X N T hk hpre hd hu hret
  cases d with
  | none =>
    cases hv
    ktr_enter
    (repeat' (first | ((with_reducible show wpAny _ _ (PySem.call (Value.ref 120) _) _ _ _); k_dflt (refine useT (hp := by trivial) (C := ct_class (by first | exact isValN | exact isValI | assumption)) (ret := ?_)); intros; ktn_no "aft") | (k_unfold; (try dsimp only)) | walk1 | (dsimp only; walk1)))
    all_goals first | exact back_intro (by assumption) fun f k => hret _ _ _ f k (isI rfl) | walk_report
  | some i =>
    obtain ⟨t, rfl⟩ := hv
    obtain ⟨hi0, hi1⟩ := hs
    ktr_enter
    (repeat' (first | ((with_reducible show wpAny _ _ (PySem.call (Value.ref 120) _) _ _ _); k_dflt (refine useT (hp := by trivial) (C := ct_class (by first | exact isValN | exact isValI | assumption)) (ret := ?_)); intros; ktn_no "aft") | ((with_reducible show wpAny _ _ (PySem.call (Value.ref 185) _) _ _ _); k_dflt (refine useT (hp := by trivial) (C := ct_ntype (by omega) (by omega)) (ret := ?_)); intros; ktn_no "aft") | (k_unfold; (try dsimp only)) | walk1 | (dsimp only; walk1)))
    all_goals first | exact back_intro (by assumption) fun f k => hret _ _ _ f k (isI rfl) | walk_report
end
/-! ## EP -/
section
/-- a thing that breaks P, if there is one -/
noncomputable def E1a {α : Type} (n1 : Nonempty α) (P : α → Prop) : α := @Classical.epsilon α n1 fun x => ¬ P x
theorem all1 {α : Type} [n1 : Nonempty α] {P : α → Prop} (h : P (E1a n1 P)) : ∀ x, P x := fun x => Classical.byContradiction fun n => Classical.epsilon_spec (p := fun x => ¬ P x) ⟨x, n⟩ h
theorem neW : Nonempty World := ⟨⟨fun _ _ => 0, { strHash := fun _ => 0, shareClass := fun _ => 0, mergeTok := id, idOf := fun _ => 0, idOfShared := fun _ _ => 0, followText := fun _ => false, idOfImm := fun _ => 0 }⟩⟩
theorem neS : Nonempty Shared := ⟨{}⟩
theorem neA : Nonempty Around := ⟨⟨default, default, default, default, default⟩⟩
end
local macro_rules | `(tactic| ktn_no "ne") => `(tactic| first | infer_instance | exact neW | exact neS | exact neA)
local macro_rules | `(tactic| ktn_no "g1") => `(tactic| generalize E1a _ _ = y0)
section
noncomputable def E2a {α1 α2 : Type} (n1 : Nonempty α1) (n2 : Nonempty α2) (P : α1 → α2 → Prop) : α1 := E1a n1 fun x1 => ∀ x2, P  x1 x2
noncomputable def E2b {α1 α2 : Type} (n1 : Nonempty α1) (n2 : Nonempty α2) (P : α1 → α2 → Prop) : α2 := E1a n2 fun x2 => P (E2a n1 n2 P) x2
theorem all2 {α1 α2 : Type} [n1 : Nonempty α1] [n2 : Nonempty α2] {P : α1 → α2 → Prop} (h : P (E2a n1 n2 P) (E2b n1 n2 P)) : ∀ x1 x2, P x1 x2 := all1 (P := fun x1 => ∀ x2, P  x1 x2) (all1 (P := fun x2 => P (E2a n1 n2 P) x2) (h))
end
local macro_rules | `(tactic| ktn_no "g2") => `(tactic| generalize E2a _ _ _ = y0, E2b _ _ _ = y1)
section
noncomputable def E3a {α1 α2 α3 : Type} (n1 : Nonempty α1) (n2 : Nonempty α2) (n3 : Nonempty α3) (P : α1 → α2 → α3 → Prop) : α1 := E1a n1 fun x1 => ∀ x2 x3, P  x1 x2 x3
noncomputable def E3b {α1 α2 α3 : Type} (n1 : Nonempty α1) (n2 : Nonempty α2) (n3 : Nonempty α3) (P : α1 → α2 → α3 → Prop) : α2 := E1a n2 fun x2 => ∀ x3, P (E3a n1 n2 n3 P) x2 x3
noncomputable def E3c {α1 α2 α3 : Type} (n1 : Nonempty α1) (n2 : Nonempty α2) (n3 : Nonempty α3) (P : α1 → α2 → α3 → Prop) : α3 := E1a n3 fun x3 => P (E3a n1 n2 n3 P) (E3b n1 n2 n3 P) x3
theorem all3 {α1 α2 α3 : Type} [n1 : Nonempty α1] [n2 : Nonempty α2] [n3 : Nonempty α3] {P : α1 → α2 → α3 → Prop} (h : P (E3a n1 n2 n3 P) (E3b n1 n2 n3 P) (E3c n1 n2 n3 P)) : ∀ x1 x2 x3, P x1 x2 x3 := all1 (P := fun x1 => ∀ x2 x3, P  x1 x2 x3) (all1 (P := fun x2 => ∀ x3, P (E3a n1 n2 n3 P) x2 x3) (all1 (P := fun x3 => P (E3a n1 n2 n3 P) (E3b n1 n2 n3 P) x3) (h)))
end
local macro_rules | `(tactic| ktn_no "g3") => `(tactic| generalize E3a _ _ _ _ = y0, E3b _ _ _ _ = y1, E3c _ _ _ _ = y2)
section
noncomputable def E4a {α1 α2 α3 α4 : Type} (n1 : Nonempty α1) (n2 : Nonempty α2) (n3 : Nonempty α3) (n4 : Nonempty α4) (P : α1 → α2 → α3 → α4 → Prop) : α1 := E1a n1 fun x1 => ∀ x2 x3 x4, P  x1 x2 x3 x4
noncomputable def E4b {α1 α2 α3 α4 : Type} (n1 : Nonempty α1) (n2 : Nonempty α2) (n3 : Nonempty α3) (n4 : Nonempty α4) (P : α1 → α2 → α3 → α4 → Prop) : α2 := E1a n2 fun x2 => ∀ x3 x4, P (E4a n1 n2 n3 n4 P) x2 x3 x4
noncomputable def E4c {α1 α2 α3 α4 : Type} (n1 : Nonempty α1) (n2 : Nonempty α2) (n3 : Nonempty α3) (n4 : Nonempty α4) (P : α1 → α2 → α3 → α4 → Prop) : α3 := E1a n3 fun x3 => ∀ x4, P (E4a n1 n2 n3 n4 P) (E4b n1 n2 n3 n4 P) x3 x4
noncomputable def E4d {α1 α2 α3 α4 : Type} (n1 : Nonempty α1) (n2 : Nonempty α2) (n3 : Nonempty α3) (n4 : Nonempty α4) (P : α1 → α2 → α3 → α4 → Prop) : α4 := E1a n4 fun x4 => P (E4a n1 n2 n3 n4 P) (E4b n1 n2 n3 n4 P) (E4c n1 n2 n3 n4 P) x4
theorem all4 {α1 α2 α3 α4 : Type} [n1 : Nonempty α1] [n2 : Nonempty α2] [n3 : Nonempty α3] [n4 : Nonempty α4] {P : α1 → α2 → α3 → α4 → Prop} (h : P (E4a n1 n2 n3 n4 P) (E4b n1 n2 n3 n4 P) (E4c n1 n2 n3 n4 P) (E4d n1 n2 n3 n4 P)) : ∀ x1 x2 x3 x4, P x1 x2 x3 x4 := all1 (P := fun x1 => ∀ x2 x3 x4, P  x1 x2 x3 x4) (all1 (P := fun x2 => ∀ x3 x4, P (E4a n1 n2 n3 n4 P) x2 x3 x4) (all1 (P := fun x3 => ∀ x4, P (E4a n1 n2 n3 n4 P) (E4b n1 n2 n3 n4 P) x3 x4) (all1 (P := fun x4 => P (E4a n1 n2 n3 n4 P) (E4b n1 n2 n3 n4 P) (E4c n1 n2 n3 n4 P) x4) (h))))
end
local macro_rules | `(tactic| ktn_no "g4") => `(tactic| generalize E4a _ _ _ _ _ = y0, E4b _ _ _ _ _ = y1, E4c _ _ _ _ _ = y2, E4d _ _ _ _ _ = y3)
section
noncomputable def E5a {α1 α2 α3 α4 α5 : Type} (n1 : Nonempty α1) (n2 : Nonempty α2) (n3 : Nonempty α3) (n4 : Nonempty α4) (n5 : Nonempty α5) (P : α1 → α2 → α3 → α4 → α5 → Prop) : α1 := E1a n1 fun x1 => ∀ x2 x3 x4 x5, P  x1 x2 x3 x4 x5
noncomputable def E5b {α1 α2 α3 α4 α5 : Type} (n1 : Nonempty α1) (n2 : Nonempty α2) (n3 : Nonempty α3) (n4 : Nonempty α4) (n5 : Nonempty α5) (P : α1 → α2 → α3 → α4 → α5 → Prop) : α2 := E1a n2 fun x2 => ∀ x3 x4 x5, P (E5a n1 n2 n3 n4 n5 P) x2 x3 x4 x5
noncomputable def E5c {α1 α2 α3 α4 α5 : Type} (n1 : Nonempty α1) (n2 : Nonempty α2) (n3 : Nonempty α3) (n4 : Nonempty α4) (n5 : Nonempty α5) (P : α1 → α2 → α3 → α4 → α5 → Prop) : α3 := E1a n3 fun x3 => ∀ x4 x5, P (E5a n1 n2 n3 n4 n5 P) (E5b n1 n2 n3 n4 n5 P) x3 x4 x5
noncomputable def E5d {α1 α2 α3 α4 α5 : Type} (n1 : Nonempty α1) (n2 : Nonempty α2) (n3 : Nonempty α3) (n4 : Nonempty α4) (n5 : Nonempty α5) (P : α1 → α2 → α3 → α4 → α5 → Prop) : α4 := E1a n4 fun x4 => ∀ x5, P (E5a n1 n2 n3 n4 n5 P) (E5b n1 n2 n3 n4 n5 P) (E5c n1 n2 n3 n4 n5 P) x4 x5
noncomputable def E5e {α1 α2 α3 α4 α5 : Type} (n1 : Nonempty α1) (n2 : Nonempty α2) (n3 : Nonempty α3) (n4 : Nonempty α4) (n5 : Nonempty α5) (P : α1 → α2 → α3 → α4 → α5 → Prop) : α5 := E1a n5 fun x5 => P (E5a n1 n2 n3 n4 n5 P) (E5b n1 n2 n3 n4 n5 P) (E5c n1 n2 n3 n4 n5 P) (E5d n1 n2 n3 n4 n5 P) x5
theorem all5 {α1 α2 α3 α4 α5 : Type} [n1 : Nonempty α1] [n2 : Nonempty α2] [n3 : Nonempty α3] [n4 : Nonempty α4] [n5 : Nonempty α5] {P : α1 → α2 → α3 → α4 → α5 → Prop} (h : P (E5a n1 n2 n3 n4 n5 P) (E5b n1 n2 n3 n4 n5 P) (E5c n1 n2 n3 n4 n5 P) (E5d n1 n2 n3 n4 n5 P) (E5e n1 n2 n3 n4 n5 P)) : ∀ x1 x2 x3 x4 x5, P x1 x2 x3 x4 x5 := all1 (P := fun x1 => ∀ x2 x3 x4 x5, P  x1 x2 x3 x4 x5) (all1 (P := fun x2 => ∀ x3 x4 x5, P (E5a n1 n2 n3 n4 n5 P) x2 x3 x4 x5) (all1 (P := fun x3 => ∀ x4 x5, P (E5a n1 n2 n3 n4 n5 P) (E5b n1 n2 n3 n4 n5 P) x3 x4 x5) (all1 (P := fun x4 => ∀ x5, P (E5a n1 n2 n3 n4 n5 P) (E5b n1 n2 n3 n4 n5 P) (E5c n1 n2 n3 n4 n5 P) x4 x5) (all1 (P := fun x5 => P (E5a n1 n2 n3 n4 n5 P) (E5b n1 n2 n3 n4 n5 P) (E5c n1 n2 n3 n4 n5 P) (E5d n1 n2 n3 n4 n5 P) x5) (h)))))
end
local macro_rules | `(tactic| ktn_no "g5") => `(tactic| generalize E5a _ _ _ _ _ _ = y0, E5b _ _ _ _ _ _ = y1, E5c _ _ _ _ _ _ = y2, E5d _ _ _ _ _ _ = y3, E5e _ _ _ _ _ _ = y4)
section
noncomputable def E6a {α1 α2 α3 α4 α5 α6 : Type} (n1 : Nonempty α1) (n2 : Nonempty α2) (n3 : Nonempty α3) (n4 : Nonempty α4) (n5 : Nonempty α5) (n6 : Nonempty α6) (P : α1 → α2 → α3 → α4 → α5 → α6 → Prop) : α1 := E1a n1 fun x1 => ∀ x2 x3 x4 x5 x6, P  x1 x2 x3 x4 x5 x6
noncomputable def E6b {α1 α2 α3 α4 α5 α6 : Type} (n1 : Nonempty α1) (n2 : Nonempty α2) (n3 : Nonempty α3) (n4 : Nonempty α4) (n5 : Nonempty α5) (n6 : Nonempty α6) (P : α1 → α2 → α3 → α4 → α5 → α6 → Prop) : α2 := E1a n2 fun x2 => ∀ x3 x4 x5 x6, P (E6a n1 n2 n3 n4 n5 n6 P) x2 x3 x4 x5 x6
noncomputable def E6c {α1 α2 α3 α4 α5 α6 : Type} (n1 : Nonempty α1) (n2 : Nonempty α2) (n3 : Nonempty α3) (n4 : Nonempty α4) (n5 : Nonempty α5) (n6 : Nonempty α6) (P : α1 → α2 → α3 → α4 → α5 → α6 → Prop) : α3 := E1a n3 fun x3 => ∀ x4 x5 x6, P (E6a n1 n2 n3 n4 n5 n6 P) (E6b n1 n2 n3 n4 n5 n6 P) x3 x4 x5 x6
noncomputable def E6d {α1 α2 α3 α4 α5 α6 : Type} (n1 : Nonempty α1) (n2 : Nonempty α2) (n3 : Nonempty α3) (n4 : Nonempty α4) (n5 : Nonempty α5) (n6 : Nonempty α6) (P : α1 → α2 → α3 → α4 → α5 → α6 → Prop) : α4 := E1a n4 fun x4 => ∀ x5 x6, P (E6a n1 n2 n3 n4 n5 n6 P) (E6b n1 n2 n3 n4 n5 n6 P) (E6c n1 n2 n3 n4 n5 n6 P) x4 x5 x6
noncomputable def E6e {α1 α2 α3 α4 α5 α6 : Type} (n1 : Nonempty α1) (n2 : Nonempty α2) (n3 : Nonempty α3) (n4 : Nonempty α4) (n5 : Nonempty α5) (n6 : Nonempty α6) (P : α1 → α2 → α3 → α4 → α5 → α6 → Prop) : α5 := E1a n5 fun x5 => ∀ x6, P (E6a n1 n2 n3 n4 n5 n6 P) (E6b n1 n2 n3 n4 n5 n6 P) (E6c n1 n2 n3 n4 n5 n6 P) (E6d n1 n2 n3 n4 n5 n6 P) x5 x6
noncomputable def E6f {α1 α2 α3 α4 α5 α6 : Type} (n1 : Nonempty α1) (n2 : Nonempty α2) (n3 : Nonempty α3) (n4 : Nonempty α4) (n5 : Nonempty α5) (n6 : Nonempty α6) (P : α1 → α2 → α3 → α4 → α5 → α6 → Prop) : α6 := E1a n6 fun x6 => P (E6a n1 n2 n3 n4 n5 n6 P) (E6b n1 n2 n3 n4 n5 n6 P) (E6c n1 n2 n3 n4 n5 n6 P) (E6d n1 n2 n3 n4 n5 n6 P) (E6e n1 n2 n3 n4 n5 n6 P) x6
theorem all6 {α1 α2 α3 α4 α5 α6 : Type} [n1 : Nonempty α1] [n2 : Nonempty α2] [n3 : Nonempty α3] [n4 : Nonempty α4] [n5 : Nonempty α5] [n6 : Nonempty α6] {P : α1 → α2 → α3 → α4 → α5 → α6 → Prop} (h : P (E6a n1 n2 n3 n4 n5 n6 P) (E6b n1 n2 n3 n4 n5 n6 P) (E6c n1 n2 n3 n4 n5 n6 P) (E6d n1 n2 n3 n4 n5 n6 P) (E6e n1 n2 n3 n4 n5 n6 P) (E6f n1 n2 n3 n4 n5 n6 P)) : ∀ x1 x2 x3 x4 x5 x6, P x1 x2 x3 x4 x5 x6 := all1 (P := fun x1 => ∀ x2 x3 x4 x5 x6, P  x1 x2 x3 x4 x5 x6) (all1 (P := fun x2 => ∀ x3 x4 x5 x6, P (E6a n1 n2 n3 n4 n5 n6 P) x2 x3 x4 x5 x6) (all1 (P := fun x3 => ∀ x4 x5 x6, P (E6a n1 n2 n3 n4 n5 n6 P) (E6b n1 n2 n3 n4 n5 n6 P) x3 x4 x5 x6) (all1 (P := fun x4 => ∀ x5 x6, P (E6a n1 n2 n3 n4 n5 n6 P) (E6b n1 n2 n3 n4 n5 n6 P) (E6c n1 n2 n3 n4 n5 n6 P) x4 x5 x6) (all1 (P := fun x5 => ∀ x6, P (E6a n1 n2 n3 n4 n5 n6 P) (E6b n1 n2 n3 n4 n5 n6 P) (E6c n1 n2 n3 n4 n5 n6 P) (E6d n1 n2 n3 n4 n5 n6 P) x5 x6) (all1 (P := fun x6 => P (E6a n1 n2 n3 n4 n5 n6 P) (E6b n1 n2 n3 n4 n5 n6 P) (E6c n1 n2 n3 n4 n5 n6 P) (E6d n1 n2 n3 n4 n5 n6 P) (E6e n1 n2 n3 n4 n5 n6 P) x6) (h))))))
end
section
noncomputable def E7a {α1 α2 α3 α4 α5 α6 α7 : Type} (n1 : Nonempty α1) (n2 : Nonempty α2) (n3 : Nonempty α3) (n4 : Nonempty α4) (n5 : Nonempty α5) (n6 : Nonempty α6) (n7 : Nonempty α7) (P : α1 → α2 → α3 → α4 → α5 → α6 → α7 → Prop) : α1 := E1a n1 fun x1 => ∀ x2 x3 x4 x5 x6 x7, P  x1 x2 x3 x4 x5 x6 x7
noncomputable def E7b {α1 α2 α3 α4 α5 α6 α7 : Type} (n1 : Nonempty α1) (n2 : Nonempty α2) (n3 : Nonempty α3) (n4 : Nonempty α4) (n5 : Nonempty α5) (n6 : Nonempty α6) (n7 : Nonempty α7) (P : α1 → α2 → α3 → α4 → α5 → α6 → α7 → Prop) : α2 := E1a n2 fun x2 => ∀ x3 x4 x5 x6 x7, P (E7a n1 n2 n3 n4 n5 n6 n7 P) x2 x3 x4 x5 x6 x7
noncomputable def E7c {α1 α2 α3 α4 α5 α6 α7 : Type} (n1 : Nonempty α1) (n2 : Nonempty α2) (n3 : Nonempty α3) (n4 : Nonempty α4) (n5 : Nonempty α5) (n6 : Nonempty α6) (n7 : Nonempty α7) (P : α1 → α2 → α3 → α4 → α5 → α6 → α7 → Prop) : α3 := E1a n3 fun x3 => ∀ x4 x5 x6 x7, P (E7a n1 n2 n3 n4 n5 n6 n7 P) (E7b n1 n2 n3 n4 n5 n6 n7 P) x3 x4 x5 x6 x7
noncomputable def E7d {α1 α2 α3 α4 α5 α6 α7 : Type} (n1 : Nonempty α1) (n2 : Nonempty α2) (n3 : Nonempty α3) (n4 : Nonempty α4) (n5 : Nonempty α5) (n6 : Nonempty α6) (n7 : Nonempty α7) (P : α1 → α2 → α3 → α4 → α5 → α6 → α7 → Prop) : α4 := E1a n4 fun x4 => ∀ x5 x6 x7, P (E7a n1 n2 n3 n4 n5 n6 n7 P) (E7b n1 n2 n3 n4 n5 n6 n7 P) (E7c n1 n2 n3 n4 n5 n6 n7 P) x4 x5 x6 x7
noncomputable def E7e {α1 α2 α3 α4 α5 α6 α7 : Type} (n1 : Nonempty α1) (n2 : Nonempty α2) (n3 : Nonempty α3) (n4 : Nonempty α4) (n5 : Nonempty α5) (n6 : Nonempty α6) (n7 : Nonempty α7) (P : α1 → α2 → α3 → α4 → α5 → α6 → α7 → Prop) : α5 := E1a n5 fun x5 => ∀ x6 x7, P (E7a n1 n2 n3 n4 n5 n6 n7 P) (E7b n1 n2 n3 n4 n5 n6 n7 P) (E7c n1 n2 n3 n4 n5 n6 n7 P) (E7d n1 n2 n3 n4 n5 n6 n7 P) x5 x6 x7
noncomputable def E7f {α1 α2 α3 α4 α5 α6 α7 : Type} (n1 : Nonempty α1) (n2 : Nonempty α2) (n3 : Nonempty α3) (n4 : Nonempty α4) (n5 : Nonempty α5) (n6 : Nonempty α6) (n7 : Nonempty α7) (P : α1 → α2 → α3 → α4 → α5 → α6 → α7 → Prop) : α6 := E1a n6 fun x6 => ∀ x7, P (E7a n1 n2 n3 n4 n5 n6 n7 P) (E7b n1 n2 n3 n4 n5 n6 n7 P) (E7c n1 n2 n3 n4 n5 n6 n7 P) (E7d n1 n2 n3 n4 n5 n6 n7 P) (E7e n1 n2 n3 n4 n5 n6 n7 P) x6 x7
noncomputable def E7g {α1 α2 α3 α4 α5 α6 α7 : Type} (n1 : Nonempty α1) (n2 : Nonempty α2) (n3 : Nonempty α3) (n4 : Nonempty α4) (n5 : Nonempty α5) (n6 : Nonempty α6) (n7 : Nonempty α7) (P : α1 → α2 → α3 → α4 → α5 → α6 → α7 → Prop) : α7 := E1a n7 fun x7 => P (E7a n1 n2 n3 n4 n5 n6 n7 P) (E7b n1 n2 n3 n4 n5 n6 n7 P) (E7c n1 n2 n3 n4 n5 n6 n7 P) (E7d n1 n2 n3 n4 n5 n6 n7 P) (E7e n1 n2 n3 n4 n5 n6 n7 P) (E7f n1 n2 n3 n4 n5 n6 n7 P) x7
theorem all7 {α1 α2 α3 α4 α5 α6 α7 : Type} [n1 : Nonempty α1] [n2 : Nonempty α2] [n3 : Nonempty α3] [n4 : Nonempty α4] [n5 : Nonempty α5] [n6 : Nonempty α6] [n7 : Nonempty α7] {P : α1 → α2 → α3 → α4 → α5 → α6 → α7 → Prop} (h : P (E7a n1 n2 n3 n4 n5 n6 n7 P) (E7b n1 n2 n3 n4 n5 n6 n7 P) (E7c n1 n2 n3 n4 n5 n6 n7 P) (E7d n1 n2 n3 n4 n5 n6 n7 P) (E7e n1 n2 n3 n4 n5 n6 n7 P) (E7f n1 n2 n3 n4 n5 n6 n7 P) (E7g n1 n2 n3 n4 n5 n6 n7 P)) : ∀ x1 x2 x3 x4 x5 x6 x7, P x1 x2 x3 x4 x5 x6 x7 := all1 (P := fun x1 => ∀ x2 x3 x4 x5 x6 x7, P  x1 x2 x3 x4 x5 x6 x7) (all1 (P := fun x2 => ∀ x3 x4 x5 x6 x7, P (E7a n1 n2 n3 n4 n5 n6 n7 P) x2 x3 x4 x5 x6 x7) (all1 (P := fun x3 => ∀ x4 x5 x6 x7, P (E7a n1 n2 n3 n4 n5 n6 n7 P) (E7b n1 n2 n3 n4 n5 n6 n7 P) x3 x4 x5 x6 x7) (all1 (P := fun x4 => ∀ x5 x6 x7, P (E7a n1 n2 n3 n4 n5 n6 n7 P) (E7b n1 n2 n3 n4 n5 n6 n7 P) (E7c n1 n2 n3 n4 n5 n6 n7 P) x4 x5 x6 x7) (all1 (P := fun x5 => ∀ x6 x7, P (E7a n1 n2 n3 n4 n5 n6 n7 P) (E7b n1 n2 n3 n4 n5 n6 n7 P) (E7c n1 n2 n3 n4 n5 n6 n7 P) (E7d n1 n2 n3 n4 n5 n6 n7 P) x5 x6 x7) (all1 (P := fun x6 => ∀ x7, P (E7a n1 n2 n3 n4 n5 n6 n7 P) (E7b n1 n2 n3 n4 n5 n6 n7 P) (E7c n1 n2 n3 n4 n5 n6 n7 P) (E7d n1 n2 n3 n4 n5 n6 n7 P) (E7e n1 n2 n3 n4 n5 n6 n7 P) x6 x7) (all1 (P := fun x7 => P (E7a n1 n2 n3 n4 n5 n6 n7 P) (E7b n1 n2 n3 n4 n5 n6 n7 P) (E7c n1 n2 n3 n4 n5 n6 n7 P) (E7d n1 n2 n3 n4 n5 n6 n7 P) (E7e n1 n2 n3 n4 n5 n6 n7 P) (E7f n1 n2 n3 n4 n5 n6 n7 P) x7) (h)))))))
end
local macro_rules | `(tactic| ktn_no "g7") => `(tactic| generalize E7a _ _ _ _ _ _ _ _ = y0, E7b _ _ _ _ _ _ _ _ = y1, E7c _ _ _ _ _ _ _ _ = y2, E7d _ _ _ _ _ _ _ _ = y3, E7e _ _ _ _ _ _ _ _ = y4, E7f _ _ _ _ _ _ _ _ = y5, E7g _ _ _ _ _ _ _ _ = y6)
section
noncomputable def E8a {α1 α2 α3 α4 α5 α6 α7 α8 : Type} (n1 : Nonempty α1) (n2 : Nonempty α2) (n3 : Nonempty α3) (n4 : Nonempty α4) (n5 : Nonempty α5) (n6 : Nonempty α6) (n7 : Nonempty α7) (n8 : Nonempty α8) (P : α1 → α2 → α3 → α4 → α5 → α6 → α7 → α8 → Prop) : α1 := E1a n1 fun x1 => ∀ x2 x3 x4 x5 x6 x7 x8, P  x1 x2 x3 x4 x5 x6 x7 x8
noncomputable def E8b {α1 α2 α3 α4 α5 α6 α7 α8 : Type} (n1 : Nonempty α1) (n2 : Nonempty α2) (n3 : Nonempty α3) (n4 : Nonempty α4) (n5 : Nonempty α5) (n6 : Nonempty α6) (n7 : Nonempty α7) (n8 : Nonempty α8) (P : α1 → α2 → α3 → α4 → α5 → α6 → α7 → α8 → Prop) : α2 := E1a n2 fun x2 => ∀ x3 x4 x5 x6 x7 x8, P (E8a n1 n2 n3 n4 n5 n6 n7 n8 P) x2 x3 x4 x5 x6 x7 x8
noncomputable def E8c {α1 α2 α3 α4 α5 α6 α7 α8 : Type} (n1 : Nonempty α1) (n2 : Nonempty α2) (n3 : Nonempty α3) (n4 : Nonempty α4) (n5 : Nonempty α5) (n6 : Nonempty α6) (n7 : Nonempty α7) (n8 : Nonempty α8) (P : α1 → α2 → α3 → α4 → α5 → α6 → α7 → α8 → Prop) : α3 := E1a n3 fun x3 => ∀ x4 x5 x6 x7 x8, P (E8a n1 n2 n3 n4 n5 n6 n7 n8 P) (E8b n1 n2 n3 n4 n5 n6 n7 n8 P) x3 x4 x5 x6 x7 x8
noncomputable def E8d {α1 α2 α3 α4 α5 α6 α7 α8 : Type} (n1 : Nonempty α1) (n2 : Nonempty α2) (n3 : Nonempty α3) (n4 : Nonempty α4) (n5 : Nonempty α5) (n6 : Nonempty α6) (n7 : Nonempty α7) (n8 : Nonempty α8) (P : α1 → α2 → α3 → α4 → α5 → α6 → α7 → α8 → Prop) : α4 := E1a n4 fun x4 => ∀ x5 x6 x7 x8, P (E8a n1 n2 n3 n4 n5 n6 n7 n8 P) (E8b n1 n2 n3 n4 n5 n6 n7 n8 P) (E8c n1 n2 n3 n4 n5 n6 n7 n8 P) x4 x5 x6 x7 x8
noncomputable def E8e {α1 α2 α3 α4 α5 α6 α7 α8 : Type} (n1 : Nonempty α1) (n2 : Nonempty α2) (n3 : Nonempty α3) (n4 : Nonempty α4) (n5 : Nonempty α5) (n6 : Nonempty α6) (n7 : Nonempty α7) (n8 : Nonempty α8) (P : α1 → α2 → α3 → α4 → α5 → α6 → α7 → α8 → Prop) : α5 := E1a n5 fun x5 => ∀ x6 x7 x8, P (E8a n1 n2 n3 n4 n5 n6 n7 n8 P) (E8b n1 n2 n3 n4 n5 n6 n7 n8 P) (E8c n1 n2 n3 n4 n5 n6 n7 n8 P) (E8d n1 n2 n3 n4 n5 n6 n7 n8 P) x5 x6 x7 x8
noncomputable def E8f {α1 α2 α3 α4 α5 α6 α7 α8 : Type} (n1 : Nonempty α1) (n2 : Nonempty α2) (n3 : Nonempty α3) (n4 : Nonempty α4) (n5 : Nonempty α5) (n6 : Nonempty α6) (n7 : Nonempty α7) (n8 : Nonempty α8) (P : α1 → α2 → α3 → α4 → α5 → α6 → α7 → α8 → Prop) : α6 := E1a n6 fun x6 => ∀ x7 x8, P (E8a n1 n2 n3 n4 n5 n6 n7 n8 P) (E8b n1 n2 n3 n4 n5 n6 n7 n8 P) (E8c n1 n2 n3 n4 n5 n6 n7 n8 P) (E8d n1 n2 n3 n4 n5 n6 n7 n8 P) (E8e n1 n2 n3 n4 n5 n6 n7 n8 P) x6 x7 x8
noncomputable def E8g {α1 α2 α3 α4 α5 α6 α7 α8 : Type} (n1 : Nonempty α1) (n2 : Nonempty α2) (n3 : Nonempty α3) (n4 : Nonempty α4) (n5 : Nonempty α5) (n6 : Nonempty α6) (n7 : Nonempty α7) (n8 : Nonempty α8) (P : α1 → α2 → α3 → α4 → α5 → α6 → α7 → α8 → Prop) : α7 := E1a n7 fun x7 => ∀ x8, P (E8a n1 n2 n3 n4 n5 n6 n7 n8 P) (E8b n1 n2 n3 n4 n5 n6 n7 n8 P) (E8c n1 n2 n3 n4 n5 n6 n7 n8 P) (E8d n1 n2 n3 n4 n5 n6 n7 n8 P) (E8e n1 n2 n3 n4 n5 n6 n7 n8 P) (E8f n1 n2 n3 n4 n5 n6 n7 n8 P) x7 x8
noncomputable def E8h {α1 α2 α3 α4 α5 α6 α7 α8 : Type} (n1 : Nonempty α1) (n2 : Nonempty α2) (n3 : Nonempty α3) (n4 : Nonempty α4) (n5 : Nonempty α5) (n6 : Nonempty α6) (n7 : Nonempty α7) (n8 : Nonempty α8) (P : α1 → α2 → α3 → α4 → α5 → α6 → α7 → α8 → Prop) : α8 := E1a n8 fun x8 => P (E8a n1 n2 n3 n4 n5 n6 n7 n8 P) (E8b n1 n2 n3 n4 n5 n6 n7 n8 P) (E8c n1 n2 n3 n4 n5 n6 n7 n8 P) (E8d n1 n2 n3 n4 n5 n6 n7 n8 P) (E8e n1 n2 n3 n4 n5 n6 n7 n8 P) (E8f n1 n2 n3 n4 n5 n6 n7 n8 P) (E8g n1 n2 n3 n4 n5 n6 n7 n8 P) x8
theorem all8 {α1 α2 α3 α4 α5 α6 α7 α8 : Type} [n1 : Nonempty α1] [n2 : Nonempty α2] [n3 : Nonempty α3] [n4 : Nonempty α4] [n5 : Nonempty α5] [n6 : Nonempty α6] [n7 : Nonempty α7] [n8 : Nonempty α8] {P : α1 → α2 → α3 → α4 → α5 → α6 → α7 → α8 → Prop} (h : P (E8a n1 n2 n3 n4 n5 n6 n7 n8 P) (E8b n1 n2 n3 n4 n5 n6 n7 n8 P) (E8c n1 n2 n3 n4 n5 n6 n7 n8 P) (E8d n1 n2 n3 n4 n5 n6 n7 n8 P) (E8e n1 n2 n3 n4 n5 n6 n7 n8 P) (E8f n1 n2 n3 n4 n5 n6 n7 n8 P) (E8g n1 n2 n3 n4 n5 n6 n7 n8 P) (E8h n1 n2 n3 n4 n5 n6 n7 n8 P)) : ∀ x1 x2 x3 x4 x5 x6 x7 x8, P x1 x2 x3 x4 x5 x6 x7 x8 := all1 (P := fun x1 => ∀ x2 x3 x4 x5 x6 x7 x8, P  x1 x2 x3 x4 x5 x6 x7 x8) (all1 (P := fun x2 => ∀ x3 x4 x5 x6 x7 x8, P (E8a n1 n2 n3 n4 n5 n6 n7 n8 P) x2 x3 x4 x5 x6 x7 x8) (all1 (P := fun x3 => ∀ x4 x5 x6 x7 x8, P (E8a n1 n2 n3 n4 n5 n6 n7 n8 P) (E8b n1 n2 n3 n4 n5 n6 n7 n8 P) x3 x4 x5 x6 x7 x8) (all1 (P := fun x4 => ∀ x5 x6 x7 x8, P (E8a n1 n2 n3 n4 n5 n6 n7 n8 P) (E8b n1 n2 n3 n4 n5 n6 n7 n8 P) (E8c n1 n2 n3 n4 n5 n6 n7 n8 P) x4 x5 x6 x7 x8) (all1 (P := fun x5 => ∀ x6 x7 x8, P (E8a n1 n2 n3 n4 n5 n6 n7 n8 P) (E8b n1 n2 n3 n4 n5 n6 n7 n8 P) (E8c n1 n2 n3 n4 n5 n6 n7 n8 P) (E8d n1 n2 n3 n4 n5 n6 n7 n8 P) x5 x6 x7 x8) (all1 (P := fun x6 => ∀ x7 x8, P (E8a n1 n2 n3 n4 n5 n6 n7 n8 P) (E8b n1 n2 n3 n4 n5 n6 n7 n8 P) (E8c n1 n2 n3 n4 n5 n6 n7 n8 P) (E8d n1 n2 n3 n4 n5 n6 n7 n8 P) (E8e n1 n2 n3 n4 n5 n6 n7 n8 P) x6 x7 x8) (all1 (P := fun x7 => ∀ x8, P (E8a n1 n2 n3 n4 n5 n6 n7 n8 P) (E8b n1 n2 n3 n4 n5 n6 n7 n8 P) (E8c n1 n2 n3 n4 n5 n6 n7 n8 P) (E8d n1 n2 n3 n4 n5 n6 n7 n8 P) (E8e n1 n2 n3 n4 n5 n6 n7 n8 P) (E8f n1 n2 n3 n4 n5 n6 n7 n8 P) x7 x8) (all1 (P := fun x8 => P (E8a n1 n2 n3 n4 n5 n6 n7 n8 P) (E8b n1 n2 n3 n4 n5 n6 n7 n8 P) (E8c n1 n2 n3 n4 n5 n6 n7 n8 P) (E8d n1 n2 n3 n4 n5 n6 n7 n8 P) (E8e n1 n2 n3 n4 n5 n6 n7 n8 P) (E8f n1 n2 n3 n4 n5 n6 n7 n8 P) (E8g n1 n2 n3 n4 n5 n6 n7 n8 P) x8) (h))))))))
end
local macro_rules | `(tactic| ktn_no "g8") => `(tactic| generalize E8a _ _ _ _ _ _ _ _ _ = y0, E8b _ _ _ _ _ _ _ _ _ = y1, E8c _ _ _ _ _ _ _ _ _ = y2, E8d _ _ _ _ _ _ _ _ _ = y3, E8e _ _ _ _ _ _ _ _ _ = y4, E8f _ _ _ _ _ _ _ _ _ = y5, E8g _ _ _ _ _ _ _ _ _ = y6, E8h _ _ _ _ _ _ _ _ _ = y7)
section
theorem cur2 {a0 a1 G : Prop} (h : a0 → a1 → G) (q : a0 ∧ a1) : G := h q.1 q.2
theorem cur3 {a0 a1 a2 G : Prop} (h : a0 → a1 → a2 → G) (q : a0 ∧ a1 ∧ a2) : G := h q.1 q.2.1 q.2.2
theorem cur4 {a0 a1 a2 a3 G : Prop} (h : a0 → a1 → a2 → a3 → G) (q : a0 ∧ a1 ∧ a2 ∧ a3) : G := h q.1 q.2.1 q.2.2.1 q.2.2.2
theorem cur5 {a0 a1 a2 a3 a4 G : Prop} (h : a0 → a1 → a2 → a3 → a4 → G) (q : a0 ∧ a1 ∧ a2 ∧ a3 ∧ a4) : G := h q.1 q.2.1 q.2.2.1 q.2.2.2.1 q.2.2.2.2
theorem cur6 {a0 a1 a2 a3 a4 a5 G : Prop} (h : a0 → a1 → a2 → a3 → a4 → a5 → G) (q : a0 ∧ a1 ∧ a2 ∧ a3 ∧ a4 ∧ a5) : G := h q.1 q.2.1 q.2.2.1 q.2.2.2.1 q.2.2.2.2.1 q.2.2.2.2.2
theorem cur7 {a0 a1 a2 a3 a4 a5 a6 G : Prop} (h : a0 → a1 → a2 → a3 → a4 → a5 → a6 → G) (q : a0 ∧ a1 ∧ a2 ∧ a3 ∧ a4 ∧ a5 ∧ a6) : G := h q.1 q.2.1 q.2.2.1 q.2.2.2.1 q.2.2.2.2.1 q.2.2.2.2.2.1 q.2.2.2.2.2.2
theorem cur8 {a0 a1 a2 a3 a4 a5 a6 a7 G : Prop} (h : a0 → a1 → a2 → a3 → a4 → a5 → a6 → a7 → G) (q : a0 ∧ a1 ∧ a2 ∧ a3 ∧ a4 ∧ a5 ∧ a6 ∧ a7) : G := h q.1 q.2.1 q.2.2.1 q.2.2.2.1 q.2.2.2.2.1 q.2.2.2.2.2.1 q.2.2.2.2.2.2.1 q.2.2.2.2.2.2.2
noncomputable def X1a {α1 : Type} (n1 : Nonempty α1) (P : α1 → Prop) : α1 := @Classical.epsilon _ n1 fun x1 => P  x1
theorem ex1 {α1 : Type} [n1 : Nonempty α1] {P : α1 → Prop} {G : Prop} (q : ∃ x1, P x1) (h : P (X1a n1 P) → G) : G := h (Classical.epsilon_spec (p := fun x1 => P  x1) (q))
noncomputable def X2a {α1 α2 : Type} (n1 : Nonempty α1) (n2 : Nonempty α2) (P : α1 → α2 → Prop) : α1 := @Classical.epsilon _ n1 fun x1 => ∃ x2, P  x1 x2
noncomputable def X2b {α1 α2 : Type} (n1 : Nonempty α1) (n2 : Nonempty α2) (P : α1 → α2 → Prop) : α2 := @Classical.epsilon _ n2 fun x2 => P (X2a n1 n2 P) x2
theorem ex2 {α1 α2 : Type} [n1 : Nonempty α1] [n2 : Nonempty α2] {P : α1 → α2 → Prop} {G : Prop} (q : ∃ x1 x2, P x1 x2) (h : P (X2a n1 n2 P) (X2b n1 n2 P) → G) : G := h (Classical.epsilon_spec (p := fun x2 => P (X2a n1 n2 P) x2) (Classical.epsilon_spec (p := fun x1 => ∃ x2, P  x1 x2) (q)))
noncomputable def X3a {α1 α2 α3 : Type} (n1 : Nonempty α1) (n2 : Nonempty α2) (n3 : Nonempty α3) (P : α1 → α2 → α3 → Prop) : α1 := @Classical.epsilon _ n1 fun x1 => ∃ x2 x3, P  x1 x2 x3
noncomputable def X3b {α1 α2 α3 : Type} (n1 : Nonempty α1) (n2 : Nonempty α2) (n3 : Nonempty α3) (P : α1 → α2 → α3 → Prop) : α2 := @Classical.epsilon _ n2 fun x2 => ∃ x3, P (X3a n1 n2 n3 P) x2 x3
noncomputable def X3c {α1 α2 α3 : Type} (n1 : Nonempty α1) (n2 : Nonempty α2) (n3 : Nonempty α3) (P : α1 → α2 → α3 → Prop) : α3 := @Classical.epsilon _ n3 fun x3 => P (X3a n1 n2 n3 P) (X3b n1 n2 n3 P) x3
theorem ex3 {α1 α2 α3 : Type} [n1 : Nonempty α1] [n2 : Nonempty α2] [n3 : Nonempty α3] {P : α1 → α2 → α3 → Prop} {G : Prop} (q : ∃ x1 x2 x3, P x1 x2 x3) (h : P (X3a n1 n2 n3 P) (X3b n1 n2 n3 P) (X3c n1 n2 n3 P) → G) : G := h (Classical.epsilon_spec (p := fun x3 => P (X3a n1 n2 n3 P) (X3b n1 n2 n3 P) x3) (Classical.epsilon_spec (p := fun x2 => ∃ x3, P (X3a n1 n2 n3 P) x2 x3) (Classical.epsilon_spec (p := fun x1 => ∃ x2 x3, P  x1 x2 x3) (q))))
noncomputable def X4a {α1 α2 α3 α4 : Type} (n1 : Nonempty α1) (n2 : Nonempty α2) (n3 : Nonempty α3) (n4 : Nonempty α4) (P : α1 → α2 → α3 → α4 → Prop) : α1 := @Classical.epsilon _ n1 fun x1 => ∃ x2 x3 x4, P  x1 x2 x3 x4
noncomputable def X4b {α1 α2 α3 α4 : Type} (n1 : Nonempty α1) (n2 : Nonempty α2) (n3 : Nonempty α3) (n4 : Nonempty α4) (P : α1 → α2 → α3 → α4 → Prop) : α2 := @Classical.epsilon _ n2 fun x2 => ∃ x3 x4, P (X4a n1 n2 n3 n4 P) x2 x3 x4
noncomputable def X4c {α1 α2 α3 α4 : Type} (n1 : Nonempty α1) (n2 : Nonempty α2) (n3 : Nonempty α3) (n4 : Nonempty α4) (P : α1 → α2 → α3 → α4 → Prop) : α3 := @Classical.epsilon _ n3 fun x3 => ∃ x4, P (X4a n1 n2 n3 n4 P) (X4b n1 n2 n3 n4 P) x3 x4
noncomputable def X4d {α1 α2 α3 α4 : Type} (n1 : Nonempty α1) (n2 : Nonempty α2) (n3 : Nonempty α3) (n4 : Nonempty α4) (P : α1 → α2 → α3 → α4 → Prop) : α4 := @Classical.epsilon _ n4 fun x4 => P (X4a n1 n2 n3 n4 P) (X4b n1 n2 n3 n4 P) (X4c n1 n2 n3 n4 P) x4
theorem ex4 {α1 α2 α3 α4 : Type} [n1 : Nonempty α1] [n2 : Nonempty α2] [n3 : Nonempty α3] [n4 : Nonempty α4] {P : α1 → α2 → α3 → α4 → Prop} {G : Prop} (q : ∃ x1 x2 x3 x4, P x1 x2 x3 x4) (h : P (X4a n1 n2 n3 n4 P) (X4b n1 n2 n3 n4 P) (X4c n1 n2 n3 n4 P) (X4d n1 n2 n3 n4 P) → G) : G := h (Classical.epsilon_spec (p := fun x4 => P (X4a n1 n2 n3 n4 P) (X4b n1 n2 n3 n4 P) (X4c n1 n2 n3 n4 P) x4) (Classical.epsilon_spec (p := fun x3 => ∃ x4, P (X4a n1 n2 n3 n4 P) (X4b n1 n2 n3 n4 P) x3 x4) (Classical.epsilon_spec (p := fun x2 => ∃ x3 x4, P (X4a n1 n2 n3 n4 P) x2 x3 x4) (Classical.epsilon_spec (p := fun x1 => ∃ x2 x3 x4, P  x1 x2 x3 x4) (q)))))
noncomputable def X5a {α1 α2 α3 α4 α5 : Type} (n1 : Nonempty α1) (n2 : Nonempty α2) (n3 : Nonempty α3) (n4 : Nonempty α4) (n5 : Nonempty α5) (P : α1 → α2 → α3 → α4 → α5 → Prop) : α1 := @Classical.epsilon _ n1 fun x1 => ∃ x2 x3 x4 x5, P  x1 x2 x3 x4 x5
noncomputable def X5b {α1 α2 α3 α4 α5 : Type} (n1 : Nonempty α1) (n2 : Nonempty α2) (n3 : Nonempty α3) (n4 : Nonempty α4) (n5 : Nonempty α5) (P : α1 → α2 → α3 → α4 → α5 → Prop) : α2 := @Classical.epsilon _ n2 fun x2 => ∃ x3 x4 x5, P (X5a n1 n2 n3 n4 n5 P) x2 x3 x4 x5
noncomputable def X5c {α1 α2 α3 α4 α5 : Type} (n1 : Nonempty α1) (n2 : Nonempty α2) (n3 : Nonempty α3) (n4 : Nonempty α4) (n5 : Nonempty α5) (P : α1 → α2 → α3 → α4 → α5 → Prop) : α3 := @Classical.epsilon _ n3 fun x3 => ∃ x4 x5, P (X5a n1 n2 n3 n4 n5 P) (X5b n1 n2 n3 n4 n5 P) x3 x4 x5
noncomputable def X5d {α1 α2 α3 α4 α5 : Type} (n1 : Nonempty α1) (n2 : Nonempty α2) (n3 : Nonempty α3) (n4 : Nonempty α4) (n5 : Nonempty α5) (P : α1 → α2 → α3 → α4 → α5 → Prop) : α4 := @Classical.epsilon _ n4 fun x4 => ∃ x5, P (X5a n1 n2 n3 n4 n5 P) (X5b n1 n2 n3 n4 n5 P) (X5c n1 n2 n3 n4 n5 P) x4 x5
noncomputable def X5e {α1 α2 α3 α4 α5 : Type} (n1 : Nonempty α1) (n2 : Nonempty α2) (n3 : Nonempty α3) (n4 : Nonempty α4) (n5 : Nonempty α5) (P : α1 → α2 → α3 → α4 → α5 → Prop) : α5 := @Classical.epsilon _ n5 fun x5 => P (X5a n1 n2 n3 n4 n5 P) (X5b n1 n2 n3 n4 n5 P) (X5c n1 n2 n3 n4 n5 P) (X5d n1 n2 n3 n4 n5 P) x5
theorem ex5 {α1 α2 α3 α4 α5 : Type} [n1 : Nonempty α1] [n2 : Nonempty α2] [n3 : Nonempty α3] [n4 : Nonempty α4] [n5 : Nonempty α5] {P : α1 → α2 → α3 → α4 → α5 → Prop} {G : Prop} (q : ∃ x1 x2 x3 x4 x5, P x1 x2 x3 x4 x5) (h : P (X5a n1 n2 n3 n4 n5 P) (X5b n1 n2 n3 n4 n5 P) (X5c n1 n2 n3 n4 n5 P) (X5d n1 n2 n3 n4 n5 P) (X5e n1 n2 n3 n4 n5 P) → G) : G := h (Classical.epsilon_spec (p := fun x5 => P (X5a n1 n2 n3 n4 n5 P) (X5b n1 n2 n3 n4 n5 P) (X5c n1 n2 n3 n4 n5 P) (X5d n1 n2 n3 n4 n5 P) x5) (Classical.epsilon_spec (p := fun x4 => ∃ x5, P (X5a n1 n2 n3 n4 n5 P) (X5b n1 n2 n3 n4 n5 P) (X5c n1 n2 n3 n4 n5 P) x4 x5) (Classical.epsilon_spec (p := fun x3 => ∃ x4 x5, P (X5a n1 n2 n3 n4 n5 P) (X5b n1 n2 n3 n4 n5 P) x3 x4 x5) (Classical.epsilon_spec (p := fun x2 => ∃ x3 x4 x5, P (X5a n1 n2 n3 n4 n5 P) x2 x3 x4 x5) (Classical.epsilon_spec (p := fun x1 => ∃ x2 x3 x4 x5, P  x1 x2 x3 x4 x5) (q))))))
set_option genSizeOf false
set_option genInjectivity false
structure TX where
  dp : Nat
  un : Nat
  gd : Option (List Code)
  cn : Str
  cs : Scope
  a : Addr
  ccd : Value
  cl : List (Str × Addr)
  outer : List Env
  A₀ : Around
  base : Heap
  h₀ : Heap
  L : Addr
  m : Str → Option Value
  s : Shared
  Q : Value → Shared → Prop
  E : Value → Shared → Prop
theorem neTX : Nonempty TX := ⟨⟨default, default, default, default, default, default, default, default, default, ⟨default, default, default, default, default⟩, default, default, default, fun _ => none, {}, fun _ _ => True, fun _ _ => True⟩⟩
def TellB (w : World) (mean : ExcName → Option Value) (mg mb : Str → Option Value) (f : Addr) (d : Nat) (vs : List Value) (xs : List (Addr × Obj)) (pre : Heap → Prop) (R : Heap → Value → Heap → Prop) (x : TX) : Prop :=
  Below x.A₀ x.base x.outer x.h₀ → Fr x.h₀ x.L x.s.heap x.m → (hd0.heap_1_39 w.params).In x.h₀ → News x.h₀ x.L x.s.heap xs → Top hd0.view_1_40 lo mean mg mb x.h₀ → x.cs.kind = .function → pre x.s.heap → x.dp + d < recursionLimit → x.un + 8 * d < cLine →
    (∀ r h' tk', Fr x.h₀ x.L h' x.m → KeepB xs x.s.heap h' → R x.s.heap r h' → x.Q r { x.s with heap := h', toks := tk' }) →
    wpAny (model PySem.Challenge.rw_nt0120_01.row.prog w) (ktrTop x.dp x.un x.gd x.cn x.cs x.L x.a x.ccd x.cl x.outer) (call (.ref f) vs) x.Q x.E x.s
noncomputable def tx (w : World) (mean : ExcName → Option Value) (mg mb : Str → Option Value) (f : Addr) (d : Nat) (vs : List Value) (xs : List (Addr × Obj)) (pre : Heap → Prop) (R : Heap → Value → Heap → Prop) : TX := E1a neTX (TellB w mean mg mb f d vs xs pre R)
theorem tell_in (w : World) (mean : ExcName → Option Value) (mg mb : Str → Option Value) (f : Addr) (d : Nat) (vs : List Value) (xs : List (Addr × Obj)) (pre : Heap → Prop) (R : Heap → Value → Heap → Prop) (h : (Below (tx w mean mg mb f d vs xs pre R).A₀ (tx w mean mg mb f d vs xs pre R).base (tx w mean mg mb f d vs xs pre R).outer (tx w mean mg mb f d vs xs pre R).h₀) → (Fr (tx w mean mg mb f d vs xs pre R).h₀ (tx w mean mg mb f d vs xs pre R).L (tx w mean mg mb f d vs xs pre R).s.heap (tx w mean mg mb f d vs xs pre R).m) → ((hd0.heap_1_39 w.params).In (tx w mean mg mb f d vs xs pre R).h₀) → (News (tx w mean mg mb f d vs xs pre R).h₀ (tx w mean mg mb f d vs xs pre R).L (tx w mean mg mb f d vs xs pre R).s.heap xs) → (Top hd0.view_1_40 lo mean mg mb (tx w mean mg mb f d vs xs pre R).h₀) → ((tx w mean mg mb f d vs xs pre R).cs.kind = .function) → (pre (tx w mean mg mb f d vs xs pre R).s.heap) → ((tx w mean mg mb f d vs xs pre R).dp + d < recursionLimit) → ((tx w mean mg mb f d vs xs pre R).un + 8 * d < cLine) → ((∀ r h' tk', Fr (tx w mean mg mb f d vs xs pre R).h₀ (tx w mean mg mb f d vs xs pre R).L h' (tx w mean mg mb f d vs xs pre R).m → KeepB xs (tx w mean mg mb f d vs xs pre R).s.heap h' → R (tx w mean mg mb f d vs xs pre R).s.heap r h' → (tx w mean mg mb f d vs xs pre R).Q r { (tx w mean mg mb f d vs xs pre R).s with heap := h', toks := tk' })) → wpAny (model PySem.Challenge.rw_nt0120_01.row.prog w) (ktrTop (tx w mean mg mb f d vs xs pre R).dp (tx w mean mg mb f d vs xs pre R).un (tx w mean mg mb f d vs xs pre R).gd (tx w mean mg mb f d vs xs pre R).cn (tx w mean mg mb f d vs xs pre R).cs (tx w mean mg mb f d vs xs pre R).L (tx w mean mg mb f d vs xs pre R).a (tx w mean mg mb f d vs xs pre R).ccd (tx w mean mg mb f d vs xs pre R).cl (tx w mean mg mb f d vs xs pre R).outer) (call (.ref f) vs) (tx w mean mg mb f d vs xs pre R).Q (tx w mean mg mb f d vs xs pre R).E (tx w mean mg mb f d vs xs pre R).s) : Tell w mean mg mb f d vs xs pre R := fun dp un gd cn cs a ccd cl outer A₀ base h₀ L m s Q E => all1 (n1 := neTX) (P := TellB w mean mg mb f d vs xs pre R) h ⟨dp, un, gd, cn, cs, a, ccd, cl, outer, A₀, base, h₀, L, m, s, Q, E⟩
end
local macro_rules | `(tactic| ktr_enter) => `(tactic| (ktn_no "ep?"; refine wpAny_call ?_; ktn_no "ent"; refine all3 ?_; ktn_no "g3"; intro f0 f1 f2 f3 f4 f5; (try dsimp only)))
section
theorem ex_pair {α β : Type} {P : α × β → Prop} (h : ∃ r, P r) : ∃ x y, P (x, y) := let ⟨(x, y), h⟩ := h; ⟨x, y, h⟩
end
local macro_rules | `(tactic| ktn_no "k12") => `(tactic| (refine all1 ?_; ktn_no "g1"; intro f0 f1))
local macro_rules | `(tactic| ktn_no "k23") => `(tactic| (refine all2 ?_; ktn_no "g2"; intro f0 f1 l1; (try k_lt l1)))
local macro_rules | `(tactic| walk_at "storeName") => `(tactic| (ktn_no "ep?"; k_here; (try dsimp only); k_dflt (refine' storeX_L (by k_asm) (by k_asm) ?_ (by rfl) (by rfl); k_whole); ktn_no "k12"; (try k_sweep)))
local macro_rules | `(tactic| walk_at "newList") => `(tactic| (ktn_no "ep?"; k_here; k_dflt (refine' newList_K (by k_asm) (by k_asm) ?_; k_whole); ktn_no "k23"; (try k_sweep)))
local macro_rules | `(tactic| walk_at "call builtin:list.append") => `(tactic| (ktn_no "ep?"; k_here; (with_reducible show wpAny _ _ (call (Value.builtin _) [Value.ref _, _]) _ _ _); k_dflt (refine' append_K (by k_asm) (by k_asm) (by k_upd) ?_ (by size_fits); k_whole); ktn_no "k12"; (try k_sweep)))
local macro_rules | `(tactic| walk_at "newTuple") => `(tactic| (ktn_no "ep?"; k_here; kup_bare; k_dflt (refine' kup_newTuple (by k_asm) (by k_asm) ?_ (by kmk_size)); ktn_no "k23"; (try k_sweep)))
local macro_rules | `(tactic| walk_at "call type:range") => `(tactic| (ktn_no "ep?"; (rename Fr _ _ _ _ => F'); (rename News _ _ _ _ => N'); first
  | (with_unfolding_all refine range1_rows F' N' ?_; refine all5 ?_; ktn_no "g5"; intro f0 f1 f2 f3)
  | (with_unfolding_all refine range2_rows F' N' ?_; refine all5 ?_; ktn_no "g5"; intro f0 f1 f2 f3)))
/-! ## NCT6 -/
section
local macro_rules | `(tactic| ktn_no "ep?") => `(tactic| skip)
set_option maxHeartbeats 4000000 in
theorem ct_putvar {w : World} {mean mg mb} {i : Int} {t : Tok} (hi0 : 0 ≤ i) (hi1 : i < 128) : Tell w mean mg mb 157 2 [.int i t] [] (fun _ => True) (fun _ r _ => IsB r [i]) := by
  revert w mean mg mb i t hi0 hi1
  ((refine @all6 _ _ _ _ _ _ (by ktn_no "ne") (by ktn_no "ne") (by ktn_no "ne") (by ktn_no "ne") (by ktn_no "ne") (by ktn_no "ne") _ ?_; generalize E6a _ _ _ _ _ _ _ = w, E6b _ _ _ _ _ _ _ = mean, E6c _ _ _ _ _ _ _ = mg, E6d _ _ _ _ _ _ _ = mb, E6e _ _ _ _ _ _ _ = i, E6f _ _ _ _ _ _ _ = t; intro hi0 hi1))
  (refine tell_in _ _ _ _ _ _ _ _ _ _ ?_; k_fill; generalize TX.dp (tx _ _ _ _ _ _ _ _ _ _) = dp, TX.un (tx _ _ _ _ _ _ _ _ _ _) = un, TX.gd (tx _ _ _ _ _ _ _ _ _ _) = gd, TX.cn (tx _ _ _ _ _ _ _ _ _ _) = cn, TX.cs (tx _ _ _ _ _ _ _ _ _ _) = cs, TX.a (tx _ _ _ _ _ _ _ _ _ _) = a, TX.ccd (tx _ _ _ _ _ _ _ _ _ _) = ccd, TX.cl (tx _ _ _ _ _ _ _ _ _ _) = cl, TX.outer (tx _ _ _ _ _ _ _ _ _ _) = outer, TX.A₀ (tx _ _ _ _ _ _ _ _ _ _) = A₀, TX.base (tx _ _ _ _ _ _ _ _ _ _) = base, TX.h₀ (tx _ _ _ _ _ _ _ _ _ _) = h₀, TX.L (tx _ _ _ _ _ _ _ _ _ _) = L, TX.m (tx _ _ _ _ _ _ _ _ _ _) = m, TX.s (tx _ _ _ _ _ _ _ _ _ _) = s, TX.Q (tx _ _ _ _ _ _ _ _ _ _) = Q, TX.E (tx _ _ _ _ _ _ _ _ _ _) = E; intro B F X N T hk hpre hd hu hret)
  ktr_enter
  (repeat' (first | ((with_reducible show wpAny _ _ (exec (Stmt.While _ _ _ _) _) _ _ _); k_dflt (refine whl_start 100 ?_)) | ((with_reducible show wpAny _ _ (call (Value.type "bytes") [Value.ref _]) _ _ _); k_dflt (refine' bytes_K (by k_asm) (by k_asm) (by is_list) (by first | l_ints | l_intsW) (by by_in) (by first | size_fits | (simp only [sizeLine_eq, List.length_cons, List.length_nil]; decide)) (by with_unfolding_all rfl) ?_; k_whole); refine all3 ?_; ktn_no "g3"; intro _ _ hB9; (repeat ((have hb9 := AllB.head hB9); (replace hB9 := AllB.tail hB9))); (try dsimp only [List.map]); (try k_sweep)) | ((with_reducible show wpAny _ _ (binaryOp Operator.BitAnd (Value.int _ _) (Value.int _ _)) _ _ _); with_reducible first | refine and127 (by omega) (by omega) ?_ | refine and255 (by omega) (by omega) ?_) | ((with_reducible show wpAny _ _ (inplaceOp Operator.RShift (Value.int _ _) (Value.int _ _)) _ _ _); with_reducible first | refine ishr7 (by omega) (by omega) ?_ | refine ishr8 (by omega) (by omega) ?_) | ((with_reducible show wpAny _ _ (binaryOp Operator.Mod (Value.int _ _) (Value.int _ _)) _ _ _); with_reducible refine mod_small (by omega) (by omega) ?_) | ((with_reducible show wpAny _ _ (binaryOp Operator.Pow (Value.int _ _) (Value.int _ _)) _ _ _); refine' pow_lit (by decide) (by decide) (by decide) (by (simp only [Int.reduceToNat, Int.reducePow]; rfl)) ?_) | (k_unfold; (try dsimp only)) | walk1 | (dsimp only; walk1)))
  all_goals first | exact back_intro (by assumption) fun f k => hret _ _ _ f k ⟨_, rfl⟩
end
/-! ## NCT8 -/
section
local macro_rules | `(tactic| ktn_no "ep?") => `(tactic| skip)
set_option maxHeartbeats 4000000 in
theorem ct_hsize {w : World} {mean mg mb} {i : Int} {t : Tok} (hi0 : 0 ≤ i) (hi1 : i < 100) : Tell w mean mg mb 220 4 [.int i t] [] (fun _ => True) (fun _ r _ => IsI r (i + 1)) := by
  revert w mean mg mb i t hi0 hi1
  ((refine @all6 _ _ _ _ _ _ (by ktn_no "ne") (by ktn_no "ne") (by ktn_no "ne") (by ktn_no "ne") (by ktn_no "ne") (by ktn_no "ne") _ ?_; generalize E6a _ _ _ _ _ _ _ = w, E6b _ _ _ _ _ _ _ = mean, E6c _ _ _ _ _ _ _ = mg, E6d _ _ _ _ _ _ _ = mb, E6e _ _ _ _ _ _ _ = i, E6f _ _ _ _ _ _ _ = t; intro hi0 hi1))
  (refine tell_in _ _ _ _ _ _ _ _ _ _ ?_; k_fill; generalize TX.dp (tx _ _ _ _ _ _ _ _ _ _) = dp, TX.un (tx _ _ _ _ _ _ _ _ _ _) = un, TX.gd (tx _ _ _ _ _ _ _ _ _ _) = gd, TX.cn (tx _ _ _ _ _ _ _ _ _ _) = cn, TX.cs (tx _ _ _ _ _ _ _ _ _ _) = cs, TX.a (tx _ _ _ _ _ _ _ _ _ _) = a, TX.ccd (tx _ _ _ _ _ _ _ _ _ _) = ccd, TX.cl (tx _ _ _ _ _ _ _ _ _ _) = cl, TX.outer (tx _ _ _ _ _ _ _ _ _ _) = outer, TX.A₀ (tx _ _ _ _ _ _ _ _ _ _) = A₀, TX.base (tx _ _ _ _ _ _ _ _ _ _) = base, TX.h₀ (tx _ _ _ _ _ _ _ _ _ _) = h₀, TX.L (tx _ _ _ _ _ _ _ _ _ _) = L, TX.m (tx _ _ _ _ _ _ _ _ _ _) = m, TX.s (tx _ _ _ _ _ _ _ _ _ _) = s, TX.Q (tx _ _ _ _ _ _ _ _ _ _) = Q, TX.E (tx _ _ _ _ _ _ _ _ _ _) = E; intro B F X N T hk hpre hd hu hret)
  ktr_enter
  (repeat' (first | ((with_reducible show wpAny _ _ (PySem.call (Value.ref 157) _) _ _ _); k_dflt (refine useT (hp := by trivial) (C := ct_putvar (by omega) (by omega)) (ret := ?_)); ((refine all3 ?_; ktn_no "g3"; intro _ _)); ktn_no "aft") | ((with_reducible show wpAny _ _ (exec (Stmt.While _ _ _ _) _) _ _ _); k_dflt (refine whl_start 100 ?_)) | (k_unfold; (try dsimp only)) | walk1 | (dsimp only; walk1)))
  all_goals first | exact back_intro (by assumption) fun f k => hret _ _ _ f k (isI rfl)
end
/-! ## NCT7 -/
section
local macro_rules | `(tactic| ktn_no "ep?") => `(tactic| skip)
set_option maxHeartbeats 4000000 in
theorem ct_putfix {w : World} {mean mg mb} {i : Int} {t u : Tok} (hi0 : 0 ≤ i) (hi1 : i < 128) : Tell w mean mg mb 171 2 [.int i t, .int 1 u] [] (fun _ => True) (fun _ r _ => IsB r [i]) := by
  revert w mean mg mb i t u hi0 hi1
  ((refine @all7 _ _ _ _ _ _ _ (by ktn_no "ne") (by ktn_no "ne") (by ktn_no "ne") (by ktn_no "ne") (by ktn_no "ne") (by ktn_no "ne") (by ktn_no "ne") _ ?_; generalize E7a _ _ _ _ _ _ _ _ = w, E7b _ _ _ _ _ _ _ _ = mean, E7c _ _ _ _ _ _ _ _ = mg, E7d _ _ _ _ _ _ _ _ = mb, E7e _ _ _ _ _ _ _ _ = i, E7f _ _ _ _ _ _ _ _ = t, E7g _ _ _ _ _ _ _ _ = u; intro hi0 hi1))
  (refine tell_in _ _ _ _ _ _ _ _ _ _ ?_; k_fill; generalize TX.dp (tx _ _ _ _ _ _ _ _ _ _) = dp, TX.un (tx _ _ _ _ _ _ _ _ _ _) = un, TX.gd (tx _ _ _ _ _ _ _ _ _ _) = gd, TX.cn (tx _ _ _ _ _ _ _ _ _ _) = cn, TX.cs (tx _ _ _ _ _ _ _ _ _ _) = cs, TX.a (tx _ _ _ _ _ _ _ _ _ _) = a, TX.ccd (tx _ _ _ _ _ _ _ _ _ _) = ccd, TX.cl (tx _ _ _ _ _ _ _ _ _ _) = cl, TX.outer (tx _ _ _ _ _ _ _ _ _ _) = outer, TX.A₀ (tx _ _ _ _ _ _ _ _ _ _) = A₀, TX.base (tx _ _ _ _ _ _ _ _ _ _) = base, TX.h₀ (tx _ _ _ _ _ _ _ _ _ _) = h₀, TX.L (tx _ _ _ _ _ _ _ _ _ _) = L, TX.m (tx _ _ _ _ _ _ _ _ _ _) = m, TX.s (tx _ _ _ _ _ _ _ _ _ _) = s, TX.Q (tx _ _ _ _ _ _ _ _ _ _) = Q, TX.E (tx _ _ _ _ _ _ _ _ _ _) = E; intro B F X N T hk hpre hd hu hret)
  ktr_enter
  (repeat' (first | ((with_reducible show wpAny _ _ (call (Value.type "bytes") [Value.ref _]) _ _ _); k_dflt (refine' bytes_K (by k_asm) (by k_asm) (by is_list) (by first | l_ints | l_intsW) (by by_in) (by first | size_fits | (simp only [sizeLine_eq, List.length_cons, List.length_nil]; decide)) (by with_unfolding_all rfl) ?_; k_whole); refine all3 ?_; ktn_no "g3"; intro _ _ hB9; (repeat ((have hb9 := AllB.head hB9); (replace hB9 := AllB.tail hB9))); (try dsimp only [List.map]); (try k_sweep)) | ((with_reducible show wpAny _ _ (binaryOp Operator.BitAnd (Value.int _ _) (Value.int _ _)) _ _ _); with_reducible first | refine and127 (by omega) (by omega) ?_ | refine and255 (by omega) (by omega) ?_) | ((with_reducible show wpAny _ _ (inplaceOp Operator.RShift (Value.int _ _) (Value.int _ _)) _ _ _); with_reducible first | refine ishr7 (by omega) (by omega) ?_ | refine ishr8 (by omega) (by omega) ?_) | ((with_reducible show wpAny _ _ (binaryOp Operator.Mod (Value.int _ _) (Value.int _ _)) _ _ _); with_reducible refine mod_small (by omega) (by omega) ?_) | ((with_reducible show wpAny _ _ (binaryOp Operator.Pow (Value.int _ _) (Value.int _ _)) _ _ _); refine' pow_lit (by decide) (by decide) (by decide) (by (simp only [Int.reduceToNat, Int.reducePow]; rfl)) ?_) | (k_unfold; (try dsimp only)) | walk1 | (dsimp only; walk1)))
  all_goals first | exact back_intro (by assumption) fun f k => hret _ _ _ f k ⟨_, rfl⟩
end
/-! ## NCT10 -/
section
def bodyOf : Val → List Int
  | none => []
  | some i => if i = 0 then [] else if i = 1 then [] else [i]
set_option maxHeartbeats 4000000 in
theorem ct_body {w : World} {mean mg mb} {v : Value} {d : Val} {k : Int} {tk0 : Tok} (hv : IsVal v d) (hs : Small d) (hk0 : k = kindOf d) : Tell w mean mg mb 206 4 [v, .int k tk0] [] (fun _ => True) (fun _ r _ => IsB r (bodyOf d)) := by
  unfold Tell
  k_fill
  intro dp un gd cn cs a ccd cl outer A₀ base h₀ L m s Q E B F X N T hk hpre hd hu hret
  cases d with
  | none =>
    cases hv
    have e : k = 0 := hk0
    subst e
    ktr_enter
    (repeat' (first | (k_unfold; (try dsimp only)) | walk1 | (dsimp only; walk1)))
    all_goals first | exact back_intro (by assumption) fun f k => hret _ _ _ f k ⟨_, rfl⟩
  | some i =>
    obtain ⟨t, rfl⟩ := hv
    obtain ⟨hi0, hi1⟩ := hs
    by_cases e0 : i = 0
    · subst e0
      have e : k = 8 := hk0
      subst e
      ktr_enter
      (repeat' (first | (k_unfold; (try dsimp only)) | walk1 | (dsimp only; walk1)))
      all_goals first | exact back_intro (by assumption) fun f k => hret _ _ _ f k ⟨_, rfl⟩
    · by_cases e1 : i = 1
      · subst e1
        have e : k = 9 := hk0
        subst e
        ktr_enter
        (repeat' (first | (k_unfold; (try dsimp only)) | walk1 | (dsimp only; walk1)))
        all_goals first | exact back_intro (by assumption) fun f k => hret _ _ _ f k ⟨_, rfl⟩
      · have e : k = 1 := by rw [hk0]; simp [kindOf, e0, e1]
        subst e
        ktr_enter
        (repeat' (first | ((with_reducible show wpAny _ _ (PySem.call (Value.ref 171) _) _ _ _); k_dflt (refine useT (hp := by trivial) (C := ct_putfix (by omega) (by omega)) (ret := ?_)); intros; ktn_no "aft") | (k_unfold; (try dsimp only)) | walk1 | (dsimp only; walk1)))
        all_goals first | exact back_intro (by assumption) fun f k => hret _ _ _ f k (by simp only [bodyOf, e0, e1, if_false]; exact ⟨_, rfl⟩)
end
/-! ## NCE1 -/
section
local macro_rules | `(tactic| walk_at "And") => `(tactic| ((with_reducible show True ∧ _); fail))
theorem isB {y x : List Int} {t : Tok} (e : y = x) : IsB (.bytes (byteArr y) t) x := ⟨t, by rw [e]⟩
def enc (ds : List Val) : List Int := [(ds.length : Int) + 1] ++ ds.map kindOf ++ ds.flatMap bodyOf
theorem bodies_len : ∀ (ds : List Val), (ds.flatMap bodyOf).length ≤ ds.length
  | [] => Nat.le_refl _
  | d :: ds => by
    rw [List.flatMap_cons, List.length_append, List.length_cons]
    have h1 := bodies_len ds
    have h2 : (bodyOf d).length ≤ 1 := by
      cases d with
      | none => exact Nat.zero_le _
      | some i => unfold bodyOf; (repeat' split) <;> first | exact Nat.zero_le _ | exact Nat.le_refl _
    omega
theorem body_len (d : Val) : (bodyOf d).length ≤ 1 := by
  cases d with
  | none => exact Nat.zero_le _
  | some i => unfold bodyOf; (repeat' split) <;> first | exact Nat.zero_le _ | exact Nat.le_refl _
theorem kind_lo : ∀ d, 0 ≤ kindOf d
  | none => by decide
  | some i => by unfold kindOf; split <;> (try split) <;> omega
theorem kind_hi : ∀ d, kindOf d < 128
  | none => by decide
  | some i => by unfold kindOf; split <;> (try split) <;> omega
set_option maxHeartbeats 4000000 in
theorem ct_encode {w : World} {mean mg mb} {l : Addr} {vs : List Value} {ds : List Val} (hds : ValsAre vs ds) (hsm : ∀ d ∈ ds, Small d) (hlen : ds.length ≤ 50) : TellC w mean mg mb 227 10 [.ref l] [] (fun h => h.IsList l vs.toArray) (fun _ r _ => IsB r (enc ds)) := by
  unfold TellC
  k_fill
  intro dp un cn cs a ccd cl outer A₀ base h₀ L m s Q E B F X N T hk hpre hd hu hret
  (refine wpC_call ?_; k_dflt (refine' enterC ?k1 ?k2 ?k3 ?k4 ?k5 ?kA ?kF ?kK ?k6 ?k7 ?k8 ?k9 ?kB ?_ ?c2 ?c3 ?c4 ?c5; (case k1 => assumption); (case k2 => assumption); (case k3 => assumption); (case k4 => assumption); (case k5 => assumption); (case kA => exact rfl); (case kF => exact rfl); (case kK => assumption); (case k6 => k_is); (case k7 => k_is); (case k8 => ktr_room); (case k9 => exact BindsTo.of_eq rfl); (case c5 => decide); (case kB => exact locs rfl); (case c2 => exact rfl); (case c3 => exact rfl); (case c4 => exact rfl); k_whole); intro g' L' h' kg' F' N' B' X' T'; (try dsimp only))
  have hl : g'.IsList l vs.toArray := by
    obtain ⟨o, ho, r⟩ := hpre
    exact ⟨o, kg' _ _ ho (by simp), r⟩
  refine execsC_cons (AssignC (CallNameC ?_))
  (repeat' (first | (k_unfold; (try dsimp only)) | walk1 | (dsimp only; walk1)))
  refine callWithC (P := fun _ => True) rfl (fun _ _ => ⟨.machine, .inr (.inl rfl), Looks.of_pure rfl⟩) (wpC_any (evalArgs_nil3 ⟨trivial, ?_⟩))
  refine callC_ba rfl fun a1 h1 hk1 hn1 _ ho1 => ?_
  rename Fr g' L' _ _ => F0
  have F1 := F0.keeps hk1
  have N1 : News g' L' h1 [(a1, baOf #[])] := news_new F0 News.nil ho1 hn1
  clear F0
  (repeat' (first | (k_unfold; (try dsimp only)) | walk1 | (dsimp only; walk1)))
  refine execsC_cons (AssignC (CallNameC ?_))
  (repeat' (first | (k_unfold; (try dsimp only)) | walk1 | (dsimp only; walk1)))
  refine callWithC (P := fun _ => True) rfl (fun _ _ => ⟨.machine, .inr (.inl rfl), Looks.of_pure rfl⟩) (wpC_any (evalArgs_nil3 ⟨trivial, ?_⟩))
  refine callC_ba rfl fun a2 h2 hk2 hn2 _ ho2 => ?_
  rename Fr g' L' _ _ => F2
  rename News g' L' _ _ => N2
  have h12 : a1 ≠ a2 := fun e => by
    have := (N2 _ (.head _)).1
    rw [show ((a1, baOf #[]).1 : Addr) = a2 from e, hn2] at this; cases this
  have F3 := F2.keeps hk2
  have N3 : News g' L' h2 [(a2, baOf #[]), (a1, baOf #[])] := news_new F2 (fun p hp => ⟨hk2 _ _ (N2 p hp).1, (N2 p hp).2⟩) ho2 hn2
  clear F2 N2
  (repeat' (first | (k_unfold; (try dsimp only)) | walk1 | (dsimp only; walk1)))
  refine execsC_cons (ForC ?_)
  (repeat' (first | (k_unfold; (try dsimp only)) | walk1 | (dsimp only; walk1)))
  dsimp only
  rename Fr g' L' _ _ => F4
  rename News g' L' _ _ => N4
  refine iterC (fun i m n => m (Str.ofString "types") = some (.ref a1) ∧ m (Str.ofString "bodies") = some (.ref a2) ∧ n = [(a2, baOf (byteArr ((ds.take i).flatMap bodyOf))), (a1, baOf (byteArr ((ds.take i).map kindOf)))])
    rfl (stays_list F4.keep hl) (.inl (let ⟨o, ho, _⟩ := hl; ⟨o, ho⟩)) F4 N4 ⟨rfl, rfl, rfl⟩ ?_ ?_
  · rintro i v m₁ n₁ h tk I o hv ⟨e1, e2, rfl⟩ F5 N5 hne
    obtain ⟨d, hd9, hvd⟩ := hds.at hv
    have hsd := hsm d (List.mem_of_getElem? hd9)
    have hb1 := bodies_len (ds.take i)
    have hb2 := body_len d
    have hb3 : (ds.take i).length ≤ i := List.length_take_le ..
    have k0 := kind_lo d
    have k1 := kind_hi d
    have hi9 : i < ds.length := (List.getElem?_eq_some_iff.mp hd9).1
    have n1 : a2 ≠ I := hne _ (.head _)
    have n2 : a1 ≠ I := hne _ (.tail _ (.head _))
    have F6 := fr_over F5 [(Str.ofString "types", .ref a1), (Str.ofString "bodies", .ref a2)] (by simp [e1, e2])
    clear F5 F4 N4
    refine wpAny_assign_Name ?_
    (repeat' (first | (k_unfold; (try dsimp only)) | walk1 | (dsimp only; walk1)))
    refine execsC_A ?_
    (repeat' (first | ((with_reducible show wpAny _ _ (PySem.call (Value.ref 192) _) _ _ _); k_dflt (refine useT (hp := by trivial) (C := ct_stype (by assumption) (by assumption)) (ret := ?_)); intros; ktn_no "aft") | (k_unfold; (try dsimp only)) | walk1 | (dsimp only; walk1)))
    refine execsC_cons (ExprC (CallAttrC ?_))
    (repeat' (first | ((refine' method_extend (News.get ?N ?m) ?_; (case N => k_asm); (case m => k_mem))) | (k_unfold; (try dsimp only)) | walk1 | (dsimp only; walk1)))
    refine callWithC (P := fun _ => True) rfl (fun _ _ => ⟨.machine, .inr (.inl rfl), Looks.of_pure rfl⟩) (evalArgsC1 (wpC_any ?_))
    refine (show wpAny _ _ (eval (.Call _ _ _ _) _) _ _ _ from ?_)
    (repeat' (first | ((with_reducible show wpAny _ _ (PySem.call (Value.ref 157) _) _ _ _); k_dflt (refine useT (hp := by trivial) (C := ct_putvar (by omega) (by omega)) (ret := ?_)); intros; ktn_no "aft") | (k_unfold; (try dsimp only)) | walk1 | (dsimp only; walk1)))
    any_goals exact trivial
    rename Fr g' L' _ _ => F7
    rename News g' L' _ _ => N7
    refine wpC_call (codeC_ba_extend rfl (N7.get (by k_mem)) (by simp only [byteArr_size, List.length_map, List.length_take, List.length_cons, List.length_nil, sizeLine_eq]; omega) fun hX hsX hoX => ?_)
    rw [byteArr_append] at hoX
    have F8 := fr_put F7 N7 (by k_mem) hsX
    have N8 := news_put N7 (Upd.tail (Ne.symm n2) (Upd.tail (Ne.symm h12) (Upd.head (fun _ h => nomatch h)))) hsX hoX
    clear F7 N7 hsX hoX
    dsimp only
    refine execsC_cons (ExprC (CallAttrC ?_))
    (repeat' (first | ((refine' method_extend (News.get ?N ?m) ?_; (case N => k_asm); (case m => k_mem))) | (k_unfold; (try dsimp only)) | walk1 | (dsimp only; walk1)))
    refine callWithC (P := fun _ => True) rfl (fun _ _ => ⟨.machine, .inr (.inl rfl), Looks.of_pure rfl⟩) (evalArgsC1 (wpC_any ?_))
    refine (show wpAny _ _ (eval (.Call _ _ _ _) _) _ _ _ from ?_)
    (repeat' (first | ((with_reducible show wpAny _ _ (PySem.call (Value.ref 206) _) _ _ _); k_dflt (refine useT (hp := by trivial) (C := ct_body (by assumption) (by assumption) (by exact rfl)) (ret := ?_)); intros; ktn_no "aft") | (k_unfold; (try dsimp only)) | walk1 | (dsimp only; walk1)))
    any_goals exact trivial
    rename Fr g' L' _ _ => F7
    rename News g' L' _ _ => N7
    refine wpC_call (codeC_ba_extend rfl (N7.get (by k_mem)) (by simp only [byteArr_size,  List.length_cons, List.length_nil, sizeLine_eq]; omega) fun hX hsX hoX => ?_)
    rw [byteArr_append] at hoX
    have F8 := fr_put F7 N7 (by k_mem) hsX
    have N8 := news_put N7 (Upd.tail (Ne.symm n1) (Upd.head (fun p hp => by rcases List.mem_singleton.mp hp with rfl; exact h12))) hsX hoX
    clear F7 N7 hsX hoX
    dsimp only
    refine wpC_any (wpAny_execs_nil ?_)
    rename Fr g' L' _ _ => F9
    rename News g' L' _ _ => N9
    have et : ds.take (i + 1) = ds.take i ++ [d] := by rw [List.take_add_one, hd9]; rfl
    refine Turned.next [(a2, baOf (byteArr (List.flatMap bodyOf (List.take i ds) ++ bodyOf d))), (a1, baOf (byteArr (List.map kindOf (List.take i ds) ++ [kindOf d])))] F9 N9 (by k_mem) (fun p hp => .tail _ hp) (fun p hp => ?_) ⟨rfl, rfl, ?_⟩
    · rcases List.mem_cons.mp hp with rfl | hp
      · exact n1
      · rcases List.mem_cons.mp hp with rfl | hp
        · exact n2
        · cases hp
    · rw [et, List.map_append, List.flatMap_append, List.flatMap_singleton, List.map_singleton]
  · rintro m₁ n₁ h tk ⟨e1, e2, rfl⟩ F5 N5
    rw [ValsAre.length hds, List.take_length] at N5
    have F6 := fr_over F5 [(Str.ofString "types", .ref a1), (Str.ofString "bodies", .ref a2)] (by simp [e1, e2])
    clear F5 F4 N4
    dsimp only
    have hl1 : (List.map kindOf ds).length = ds.length := List.length_map ..
    have hl2 := bodies_len ds
    refine execsC_A ?_
    (repeat' (first | ((with_reducible show wpAny _ _ (call (Value.type "bytes") [Value.ref _]) _ _ _); k_dflt (refine' bytes_barI (News.get ?N ?m) ?z ?_; (case N => k_asm); (case m => k_mem); (case z => omega)); intro _ _) | ((with_reducible show wpAny _ _ (call (Value.builtin "len") [Value.ref _]) _ _ _); k_dflt (refine' len_barI (News.get ?N ?m) ?z ?_; (case N => k_asm); (case m => k_mem); (case z => omega))) | ((with_reducible show wpAny _ _ (PySem.call (Value.ref 220) _) _ _ _); k_dflt (refine useT (hp := by trivial) (C := ct_hsize (by omega) (by omega)) (ret := ?_)); intros; ktn_no "aft") | ((with_reducible show wpAny _ _ (PySem.call (Value.ref 157) _) _ _ _); k_dflt (refine useT (hp := by trivial) (C := ct_putvar (by omega) (by omega)) (ret := ?_)); intros; ktn_no "aft") | ((with_reducible show wpAny _ _ (binaryOp Operator.Add (Value.bytes (byteArr _) _) (Value.bytes (byteArr _) _)) _ _ _); refine add_ba (by first | assumption | omega | (simp only [List.length_append, List.length_cons, List.length_nil]; omega) | (simp; omega)) ?_; intro _ _) | (k_unfold; (try dsimp only)) | walk1 | (dsimp only; walk1)))
    all_goals first | exact back_intro (by assumption) fun f k => hret _ _ _ f k (isB (by simp [enc]))
end
/-! ## WL -/
section
open PySem.Sem (wp)
/-- how a turn of a while ends -/
def TurnedW {σ : Type} (μ : σ → Nat) (h₀ : Heap) (L : Addr) (x : σ) (J : σ → (Str → Option Value) → List (Addr × Obj) → Prop) (s : Shared) (Q : Flow → Shared → Prop) (f : Flow) (s' : Shared) : Prop :=
  match f with
  | .ret v => Q (.ret v) s'
  | .brk => Q .next s'
  | _ => ∃ y h' tk' m' news', μ y < μ x ∧ s' = { s with heap := h', toks := tk' } ∧ Fr h₀ L h' m' ∧ News h₀ L h' news' ∧ J y m' news'
theorem TurnedW.next {σ : Type} {μ : σ → Nat} {h₀ : Heap} {L : Addr} {x : σ} {J : σ → (Str → Option Value) → List (Addr × Obj) → Prop} {s : Shared} {Q : Flow → Shared → Prop} {h' : Heap} {tk' : Nat} {m' : Str → Option Value} {all : List (Addr × Obj)} (y : σ) (news' : List (Addr × Obj))
    (F : Fr h₀ L h' m') (N : News h₀ L h' all) (hs : ∀ p ∈ news', p ∈ all) (hm : μ y < μ x) (hj : J y m' news') : TurnedW μ h₀ L x J s Q .next { s with heap := h', toks := tk' } :=
  ⟨y, h', tk', m', news', hm, rfl, F, fun p hp => N p (hs p hp), hj⟩
theorem whileA {prog : Program} {w : World} {A : Around} {E : Value → Shared → Prop} {s : Shared} {env : Env} {σ : Type} (μ : σ → Nat) {test : PySem.Expr} {body : List Stmt} {pos : Pos} {Q : Flow → Shared → Prop} {h₀ : Heap} {L : Addr} {m₀ : Str → Option Value} {news : List (Addr × Obj)}
    (J : σ → (Str → Option Value) → List (Addr × Obj) → Prop) (x₀ : σ) (F : Fr h₀ L s.heap m₀) (N : News h₀ L s.heap news) (hj : J x₀ m₀ news)
    (turn : ∀ E' x m₁ n₁ h tk, J x m₁ n₁ → Fr h₀ L h m₁ → News h₀ L h n₁ →
      wpAny (model prog w) A (isTrue test env (eval test env)) (fun b s₂ => WhlIf b (wpAny (model prog w) A (execs body env) (TurnedW μ h₀ L x J s Q) E' s₂) (Q .next s₂)) E' { s with heap := h, toks := tk }) :
    wpAny (model prog w) A (exec (.While test body [] pos) env) Q E s := by
  refine wpAny_While (codeAny_whileLoop (fun k s' => ∃ x m₁ n₁ h tk, k = μ x ∧ s' = { s with heap := h, toks := tk } ∧ J x m₁ n₁ ∧ Fr h₀ L h m₁ ∧ News h₀ L h n₁) ?_ (μ x₀) ⟨x₀, m₀, news, s.heap, s.toks, rfl, rfl, hj, F, N⟩)
  intro k s' hJ99
  refine hide fun G99 hG99 => ?_
  obtain ⟨x, m₁, n₁, h, tk, rfl, rfl, hJ, F₁, N₁⟩ := hJ99
  refine hG99 ?_
  clear hG99 G99
  refine wpAny_mono (turn _ x m₁ n₁ h tk hJ F₁ N₁) (fun b s₂ q => ?_) fun _ _ e => e
  cases b with
  | false =>
    unfold WhlIf at q
    rw [if_neg Bool.false_ne_true] at q
    simp only [Bool.false_eq_true, if_false]
    exact wpAny_execs_nil q
  | true =>
    unfold WhlIf at q
    rw [if_pos rfl] at q
    simp only [if_true]
    refine wpAny_mono q (fun f s₃ t => ?_) fun _ _ e => e
    cases f with
    | ret r => exact t
    | brk => exact t
    | next | cont =>
      refine hide fun G99 hG99 => ?_
      obtain ⟨y, h', tk', m', n', hm, rfl, F', N', hJ'⟩ := t
      refine hG99 ?_
      clear hG99 G99
      exact ⟨μ y, hm, y, m', n', h', tk', rfl, rfl, hJ', F', N'⟩
/-- a for over a list, by what holds between the turns -/
theorem forA {prog : Program} {w : World} {A : Around} {E : Value → Shared → Prop} {s : Shared} {env : Env} {target iter : PySem.Expr} {body : List Stmt} {pos : Pos} {Q : Flow → Shared → Prop}
    (h : wpAny (model prog w) A (eval iter env) (fun x s₁ => wpAny (model prog w) A (pyIter x) (fun it s₂ => codeAny (model prog w) A (.forLoop target it body [] env) (fun r s' => match r with | .ok f => Q f s' | .error e => cameBackBy (model prog w) A env E e s') s₂) E s₁) E s)
    (hs : ∀ x, foldedSetIterable iter env x = pure x := by intro _; rfl) : wpAny (model prog w) A (exec (.For target iter body [] pos) env) Q E s := wpAny_For h hs
end
/-! ## RL -/
section
open PySem.Sem (wp)
theorem range_srcL {prog : Program} {w : World} {A : Around} {s : Shared} {target : PySem.Expr} {I : Addr} {a₀ : Int} {n : Nat} {h₀ : Heap} {L : Addr} {J : Nat → (Str → Option Value) → List (Addr × Obj) → Prop} (hh : A.handled = none) (hlet : ∀ it v, letOwnedTupleGo target it v = pure ()) :
    SrcL prog w A h₀ L target s I n (fun i v => ∃ t, v = .int (a₀ + (i : Int)) t) (fun i h => IsRangeIter h I (a₀ + (i : Int) * 1) ((n : Int) - (i : Nat)) 1) J :=
  ⟨fun i h m₁ tk Q E1 hi F hlt k => by
    refine (Walks.range (prog := prog) (w := w) hh I a₀ 1 n).item i _ _ _ hlt hi fun v h₂ tk₂ hP hit₂ hk => ?_
    exact k v h₂ tk₂ _ (let ⟨t, e⟩ := hP; ⟨t, by rw [e, Int.mul_one]⟩) hit₂ (fun b o hb e => hk b o (fun q => hb (List.mem_singleton.mp q)) e) (fun Q E1 q => by rw [hlet]; exact wpAny_pure q) fun h₅ m₅ n₅ _ _ _ e₅ => e₅,
  fun h tk Q E1 hi k => (Walks.range (prog := prog) (w := w) hh I a₀ 1 n).done _ _ _ hi fun h₂ tk₂ hk => k h₂ tk₂ fun b o hb e => hk b o (fun q => hb (List.mem_singleton.mp q)) e⟩
theorem iterR {prog : Program} {w : World} {A : Around} {E : Value → Shared → Prop} {s : Shared} {env : Env} {target : PySem.Expr} {body : List Stmt} {Q : Flow → Shared → Prop} {E' : Value → Shared → Prop} {h₀ : Heap} {L r : Addr} {a₀ b₀ : Int} {t₀ u₀ v₀ : Tok} {n : Nat}
    {m₀ : Str → Option Value} {news : List (Addr × Obj)} (J : Nat → (Str → Option Value) → List (Addr × Obj) → Prop)
    (hh : A.handled = none) (hr : IsRange s.heap r a₀ b₀ 1 t₀ u₀ v₀) (hsmall : Builtin.Range.small a₀ b₀ 1 = true) (hn : Builtin.Range.rangeSize a₀ b₀ 1 = (n : Int))
    (F : Fr h₀ L s.heap m₀) (N : News h₀ L s.heap news) (hj : J 0 m₀ news)
    (turn : ∀ i t m₁ news₁ h tk I o, i < n → J i m₁ news₁ → Fr h₀ L h m₁ → News h₀ L h ((I, o) :: news₁) → (∀ p ∈ news₁, p.1 ≠ I) →
      wpAny (model prog w) A (assign target env (.int (a₀ + (i : Int)) t)) (fun _ s₂ => wpAny (model prog w) A (execs body env) (Turned h₀ L I o (J (i + 1)) s Q) (notedBy (model prog w) A env E') s₂) (notedBy (model prog w) A env E') { s with heap := h, toks := tk })
    (done : ∀ m₁ news₁ h tk, J n m₁ news₁ → Fr h₀ L h m₁ → News h₀ L h news₁ → Q .next { s with heap := h, toks := tk })
    (ht : ∀ it v, letOwnedTupleGo target it v = pure () := by intro _ _; rfl) :
    wpAny (model prog w) A (pyIter (.ref r)) (fun it s₂ => codeAny (model prog w) A (.forLoop target it body [] env) (fun r s' => match r with | .ok f => Q f s' | .error e => E' e s') s₂) E s := by
  have hst0 : IsRangeIter (s.heap.push { cls := .type "range_iterator", data := .fields #[rawInt a₀, rawInt (Builtin.Range.rangeSize a₀ b₀ 1), rawInt 1] }) s.heap.objs.size (a₀ + ((0 : Nat) : Int) * 1) ((n : Int) - ((0 : Nat) : Int)) 1 := by
    show IsRangeIter _ _ _ _ _; rw [hn]; simpa using Heap.get?_push_size _ rfl
  refine wpAny_pyIter_range hr hsmall (codeAny_forLoop_any (LoopSt h₀ L s s.heap.objs.size n (fun i h => IsRangeIter h s.heap.objs.size (a₀ + (i : Int) * 1) ((n : Int) - (i : Nat)) 1) J) (fun k s' hS => ?_) n (loop_start _ F N hst0 hj))
  exact for_step (Q := Q) (range_srcL hh ht) (Nat.ne_of_lt F.ns.lt) (next_is_new F) hS (fun m₁ n₁ h tk hJ F N => wpAny_execs_nil (done m₁ n₁ h tk hJ F N)) fun i v m₁ n₁ h tk o hV hJ F N off hi lt cont => lt _ _
    (hV.elim fun t e => e ▸ wpAny_mono (turn i t m₁ n₁ h tk _ o hi hJ F N off) (fun _ s₂ q => wpAny_mono q (fun f s₃ t => by have z := cont f s₃ t; cases f <;> exact z) fun _ _ x => x) fun _ _ x => x)
end
/-! ## FP -/
/-! ## NLS -/
local macro_rules | `(tactic| ktn_no "subs") => `(tactic| first | exact List.forall_mem_nil _ | (refine' List.forall_mem_cons.mpr ⟨?a, ?b⟩; (case a => k_mem); (case b => ktn_no "subs")) | (intro p hp; repeat (first | exact hp | refine List.Mem.tail _ ?_)))
section
/-- these names stand so -/
def OverH (m : Str → Option Value) : List (Str × Value) → Prop
  | [] => True
  | p :: r => m p.1 = some p.2 ∧ OverH m r
theorem fr_over' {es : List (Str × Value)} {h₀ h : Heap} {L : Addr} {m : Str → Option Value} (F : Fr h₀ L h m) (e : OverH m es) : Fr h₀ L h (over es m) :=
  fr_over F es (by
    induction es with
    | nil => exact fun _ h => nomatch h
    | cons p r ih => intro q hq; rcases List.mem_cons.mp hq with rfl | hq; exact e.1; exact ih e.2 _ hq)
/-- what holds between the turns, in passing style -/
def Un (S : ((Str → Option Value) → List (Addr × Obj) → Prop) → Prop) : (Str → Option Value) → List (Addr × Obj) → Prop := fun m n => ∀ k : (Str → Option Value) → List (Addr × Obj) → Prop, S k → k m n
section
variable {prog : Program} {w : World} {A : Around} {E : Value → Shared → Prop} {s : Shared} {env : Env}
theorem iterAS {target : PySem.Expr} {body : List Stmt} {Q : Flow → Shared → Prop} {E' : Value → Shared → Prop} {h₀ : Heap} {L l : Addr} {vs : List Value} {m₀ : Str → Option Value} {news : List (Addr × Obj)} (J : Nat → (((Str → Option Value) → List (Addr × Obj) → Prop) → Prop))
    (hh : A.handled = none) (hl : s.heap.IsList l vs.toArray) (hkeep : (∃ o, h₀.get? l = some o) ∨ (∀ i, J i fun _ n₁ => ∃ o, (l, o) ∈ n₁ ∧ o.cls = .type "list" ∧ ∃ k, o.data = .seq vs.toArray k))
    (F : Fr h₀ L s.heap m₀) (N : News h₀ L s.heap news) (hj : ∀ k : ((Str → Option Value) → List (Addr × Obj) → Prop), J 0 k → k m₀ news)
    (turn : ∀ i v, vs[i]? = some v → J i fun m₁ news₁ => ∀ h tk I o, Fr h₀ L h m₁ → News h₀ L h ((I, o) :: news₁) → (∀ p ∈ news₁, p.1 ≠ I) →
      wpAny (model prog w) A (assign target env v) (fun _ s₂ => wpAny (model prog w) A (execs body env) (Turned h₀ L I o (Un (J (i + 1))) s Q) (notedBy (model prog w) A env E') s₂) (notedBy (model prog w) A env E') { s with heap := h, toks := tk })
    (done : J vs.length fun m₁ news₁ => ∀ h tk, Fr h₀ L h m₁ → News h₀ L h news₁ → Q .next { s with heap := h, toks := tk })
    (ht : ∀ it v, letOwnedTupleGo target it v = pure () := by intro _ _; rfl) :
    wpAny (model prog w) A (pyIter (.ref l)) (fun it s₂ => codeAny (model prog w) A (.forLoop target it body [] env) (fun r s' => match r with | .ok f => Q f s' | .error e => E' e s') s₂) E s :=
  iterA (fun i => Un (J i)) hh hl (hkeep.imp id fun x i _ _ hJ => hJ _ (x i)) F N hj (fun i v m₁ n₁ h tk I o hv hJ => hJ (fun m₁ n₁ => ∀ h tk I o, Fr h₀ L h m₁ → News h₀ L h ((I, o) :: n₁) → _ → _) (turn i v hv) h tk I o) (fun m₁ n₁ h tk hJ => hJ (fun m₁ n₁ => ∀ h tk, Fr h₀ L h m₁ → _ → _) done h tk) ht
theorem iterCS {target : PySem.Expr} {body : List Stmt} {Q : Flow → Shared → Prop} {h₀ : Heap} {L l : Addr} {vs : List Value} {m₀ : Str → Option Value} {news : List (Addr × Obj)} (J : Nat → (((Str → Option Value) → List (Addr × Obj) → Prop) → Prop))
    (hh : A.handled = none) (hl : s.heap.IsList l vs.toArray) (hkeep : (∃ o, h₀.get? l = some o) ∨ (∀ i, J i fun _ n₁ => ∃ o, (l, o) ∈ n₁ ∧ o.cls = .type "list" ∧ ∃ k, o.data = .seq vs.toArray k))
    (F : Fr h₀ L s.heap m₀) (N : News h₀ L s.heap news) (hj : ∀ k : ((Str → Option Value) → List (Addr × Obj) → Prop), J 0 k → k m₀ news)
    (turn : ∀ i v, vs[i]? = some v → J i fun m₁ news₁ => ∀ h tk I o, Fr h₀ L h m₁ → News h₀ L h ((I, o) :: news₁) → (∀ p ∈ news₁, p.1 ≠ I) →
      wpAny (model prog w) A (assign target env v) (fun _ s₂ => wpC (model prog w) A (execs body env) (Turned h₀ L I o (Un (J (i + 1))) s Q) (fun _ _ => False) s₂) (fun _ _ => False) { s with heap := h, toks := tk })
    (done : J vs.length fun m₁ news₁ => ∀ h tk, Fr h₀ L h m₁ → News h₀ L h news₁ → Q .next { s with heap := h, toks := tk })
    (ht : ∀ it v, letOwnedTupleGo target it v = pure () := by intro _ _; rfl) :
    wpAny (model prog w) A (pyIter (.ref l)) (fun it s₂ => codeC (model prog w) A (.forLoop target it body [] env) (fun r s' => match r with | .ok f => Q f s' | .error _ => False) s₂) E s :=
  iterC (fun i => Un (J i)) hh hl (hkeep.imp id fun x i _ _ hJ => hJ _ (x i)) F N hj (fun i v m₁ n₁ h tk I o hv hJ => hJ (fun m₁ n₁ => ∀ h tk I o, Fr h₀ L h m₁ → News h₀ L h ((I, o) :: n₁) → _ → _) (turn i v hv) h tk I o) (fun m₁ n₁ h tk hJ => hJ (fun m₁ n₁ => ∀ h tk, Fr h₀ L h m₁ → _ → _) done h tk) ht
end
theorem iterRS {prog : Program} {w : World} {A : Around} {E : Value → Shared → Prop} {s : Shared} {env : Env} {target : PySem.Expr} {body : List Stmt} {Q : Flow → Shared → Prop} {E' : Value → Shared → Prop} {h₀ : Heap} {L r : Addr} {a₀ b₀ : Int} {t₀ u₀ v₀ : Tok} {n : Nat}
    {m₀ : Str → Option Value} {news : List (Addr × Obj)} (J : Nat → (((Str → Option Value) → List (Addr × Obj) → Prop) → Prop))
    (hh : A.handled = none) (hr : IsRange s.heap r a₀ b₀ 1 t₀ u₀ v₀) (hsmall : Builtin.Range.small a₀ b₀ 1 = true) (hn : Builtin.Range.rangeSize a₀ b₀ 1 = (n : Int))
    (F : Fr h₀ L s.heap m₀) (N : News h₀ L s.heap news) (hj : ∀ k : ((Str → Option Value) → List (Addr × Obj) → Prop), J 0 k → k m₀ news)
    (turn : ∀ i t, i < n → J i fun m₁ news₁ => ∀ h tk I o, Fr h₀ L h m₁ → News h₀ L h ((I, o) :: news₁) → (∀ p ∈ news₁, p.1 ≠ I) →
      wpAny (model prog w) A (assign target env (.int (a₀ + (i : Int)) t)) (fun _ s₂ => wpAny (model prog w) A (execs body env) (Turned h₀ L I o (Un (J (i + 1))) s Q) (notedBy (model prog w) A env E') s₂) (notedBy (model prog w) A env E') { s with heap := h, toks := tk })
    (done : J n fun m₁ news₁ => ∀ h tk, Fr h₀ L h m₁ → News h₀ L h news₁ → Q .next { s with heap := h, toks := tk })
    (ht : ∀ it v, letOwnedTupleGo target it v = pure () := by intro _ _; rfl) :
    wpAny (model prog w) A (pyIter (.ref r)) (fun it s₂ => codeAny (model prog w) A (.forLoop target it body [] env) (fun r s' => match r with | .ok f => Q f s' | .error e => E' e s') s₂) E s :=
  iterR (fun i => Un (J i)) hh hr hsmall hn F N hj (fun i t m₁ n₁ h tk I o hv hJ => hJ (fun m₁ n₁ => ∀ h tk I o, Fr h₀ L h m₁ → News h₀ L h ((I, o) :: n₁) → _ → _) (turn i t hv) h tk I o) (fun m₁ n₁ h tk hJ => hJ (fun m₁ n₁ => ∀ h tk, Fr h₀ L h m₁ → _ → _) done h tk) ht
section
variable {prog : Program} {w : World} {A : Around} {E : Value → Shared → Prop} {s : Shared} {env : Env}
theorem iterPS {target : PySem.Expr} {body : List Stmt} {Q : Flow → Shared → Prop} {E' : Value → Shared → Prop} {h₀ : Heap} {L l : Addr} {vs : List Value} {m₀ : Str → Option Value} {news : List (Addr × Obj)} (J : Nat → (((Str → Option Value) → List (Addr × Obj) → Prop) → Prop))
    (hh : A.handled = none) (hl : s.heap.IsList l vs.toArray) (hkeep : (∃ o, h₀.get? l = some o) ∨ (∀ i, J i fun _ n₁ => ∃ o, (l, o) ∈ n₁ ∧ o.cls = .type "list" ∧ ∃ k, o.data = .seq vs.toArray k))
    (F : Fr h₀ L s.heap m₀) (N : News h₀ L s.heap news) (hj : ∀ k : ((Str → Option Value) → List (Addr × Obj) → Prop), J 0 k → k m₀ news)
    (turn : ∀ i v, vs[i]? = some v → J i fun m₁ news₁ => ∀ h tk I o, Fr h₀ L h m₁ → News h₀ L h ((I, o) :: news₁) → (∀ p ∈ news₁, p.1 ≠ I) →
      wpAny (model prog w) A (assign target env v) (fun _ s₂ => wpAny (model prog w) A (execs body env) (Turned h₀ L I o (Un (J (i + 1))) s Q) (notedBy (model prog w) A env E') s₂) (notedBy (model prog w) A env E') { s with heap := h, toks := tk })
    (done : J vs.length fun m₁ news₁ => ∀ h tk, Fr h₀ L h m₁ → News h₀ L h news₁ → Q .next { s with heap := h, toks := tk })
    (hlet : ∀ (I : Addr) (j : Nat) (h : Heap) (v : Value) (tk : Nat) (Q : Unit → Shared → Prop) (E1 : Value → Shared → Prop), h.IsListIter I l j → v ∈ vs → Q () { s with heap := h, toks := tk } → wpAny (model prog w) A (letOwnedTupleGo target (.ref I) v) Q E1 { s with heap := h, toks := tk }) :
    wpAny (model prog w) A (pyIter (.ref l)) (fun it s₂ => codeAny (model prog w) A (.forLoop target it body [] env) (fun r s' => match r with | .ok f => Q f s' | .error e => E' e s') s₂) E s :=
  iterP (fun i => Un (J i)) hh hl (hkeep.imp id fun x i _ _ hJ => hJ _ (x i)) F N hj (fun i v m₁ n₁ h tk I o hv hJ => hJ (fun m₁ n₁ => ∀ h tk I o, Fr h₀ L h m₁ → News h₀ L h ((I, o) :: n₁) → _ → _) (turn i v hv) h tk I o) (fun m₁ n₁ h tk hJ => hJ (fun m₁ n₁ => ∀ h tk, Fr h₀ L h m₁ → _ → _) done h tk) hlet
end
theorem whileAS {prog : Program} {w : World} {A : Around} {E : Value → Shared → Prop} {s : Shared} {env : Env} {σ : Type} (μ : σ → Nat) {test : PySem.Expr} {body : List Stmt} {pos : Pos} {Q : Flow → Shared → Prop} {h₀ : Heap} {L : Addr} {m₀ : Str → Option Value} {news : List (Addr × Obj)}
    (J : σ → (((Str → Option Value) → List (Addr × Obj) → Prop) → Prop)) (x₀ : σ) (F : Fr h₀ L s.heap m₀) (N : News h₀ L s.heap news) (hj : ∀ k : ((Str → Option Value) → List (Addr × Obj) → Prop), J x₀ k → k m₀ news)
    (turn : ∀ E' x, J x fun m₁ n₁ => ∀ h tk, Fr h₀ L h m₁ → News h₀ L h n₁ →
      wpAny (model prog w) A (isTrue test env (eval test env)) (fun b s₂ => WhlIf b (wpAny (model prog w) A (execs body env) (TurnedW μ h₀ L x (fun x => Un (J x)) s Q) E' s₂) (Q .next s₂)) E' { s with heap := h, toks := tk }) :
    wpAny (model prog w) A (exec (.While test body [] pos) env) Q E s :=
  whileA μ (fun x => Un (J x)) x₀ F N hj (fun E' x m₁ n₁ h tk hJ => hJ (fun m₁ n₁ => ∀ h tk, Fr h₀ L h m₁ → _ → _) (turn E' x) h tk)
/-- a fork that meets again: walked to its end for whatever follows -/
theorem cutJ {M : Model} {A : Around} {E : Value → Shared → Prop} {s : Shared} {tr : Sem Flow} {Q : Flow → Shared → Prop} {h₀ : Heap} {L : Addr} {m₀ : Str → Option Value} (_F : Fr h₀ L s.heap m₀) (J : ((Str → Option Value) → List (Addr × Obj) → Prop) → Prop)
    (h : ∀ G : Flow → Shared → Prop, (J fun m n => ∀ h' tk', Fr h₀ L h' m → News h₀ L h' n → G .next { s with heap := h', toks := tk' }) → wpAny M A tr G E s)
    (r : J fun m n => ∀ h' tk', Fr h₀ L h' m → News h₀ L h' n → Q .next { s with heap := h', toks := tk' }) : wpAny M A tr Q E s := h Q r
end
/-! ## NCV1 -/
section
def cmpV : Val → Val → Int
  | none, none => 0
  | none, some _ => -1
  | some _, none => 1
  | some x, some y => if x < y then -1 else if y < x then 1 else 0
set_option maxHeartbeats 4000000 in
theorem ct_cmpv {w : World} {mean mg mb} {v u : Value} {d e : Val} {t : Tok} (hv : IsVal v d) (hu : IsVal u e) : Tell w mean mg mb 142 5 [v, u, .str (Str.ofString "binary") t] [] (fun _ => True) (fun _ r _ => IsI r (cmpV d e)) := by
  unfold Tell
  k_fill
  intro dp un gd cn cs a ccd cl outer A₀ base h₀ L m s Q E B F X N T hk hpre hd hu hret
  cases d with
  | none =>
    cases hv
    cases e with
    | none =>
      cases hu
      ktr_enter
      (repeat' ((fail_if_success (ktn_no "stop")); first | ((with_reducible show wpAny _ _ (PySem.call (Value.ref 120) _) _ _ _); k_dflt (refine useT (hp := by trivial) (C := ct_class (by first | exact isValN | exact isValI | assumption)) (ret := ?_)); intros; ktn_no "aft") | (k_unfold; (try dsimp only)) | walk1 | (dsimp only; walk1)))
      all_goals first | exact back_intro (by assumption) fun f k => hret _ _ _ f k (isI rfl) | walk_report
    | some j =>
      obtain ⟨u, rfl⟩ := hu
      ktr_enter
      (repeat' ((fail_if_success (ktn_no "stop")); first | ((with_reducible show wpAny _ _ (PySem.call (Value.ref 134) _) _ _ _); k_dflt (refine useT (hp := by trivial) (C := ct_sign) (ret := ?_)); intros; ktn_no "aft") | ((with_reducible show wpAny _ _ (PySem.call (Value.ref 120) _) _ _ _); k_dflt (refine useT (hp := by trivial) (C := ct_class (by first | exact isValN | exact isValI | assumption)) (ret := ?_)); intros; ktn_no "aft") | (k_unfold; (try dsimp only)) | walk1 | (dsimp only; walk1)))
      all_goals first | exact back_intro (by assumption) fun f k => hret _ _ _ f k (isI rfl) | walk_report
  | some i =>
    obtain ⟨t, rfl⟩ := hv
    cases e with
    | none =>
      cases hu
      ktr_enter
      (repeat' ((fail_if_success (ktn_no "stop")); first | ((with_reducible show wpAny _ _ (PySem.call (Value.ref 134) _) _ _ _); k_dflt (refine useT (hp := by trivial) (C := ct_sign) (ret := ?_)); intros; ktn_no "aft") | ((with_reducible show wpAny _ _ (PySem.call (Value.ref 120) _) _ _ _); k_dflt (refine useT (hp := by trivial) (C := ct_class (by first | exact isValN | exact isValI | assumption)) (ret := ?_)); intros; ktn_no "aft") | (k_unfold; (try dsimp only)) | walk1 | (dsimp only; walk1)))
      all_goals first | exact back_intro (by assumption) fun f k => hret _ _ _ f k (isI rfl) | walk_report
    | some j =>
      obtain ⟨u, rfl⟩ := hu
      ktr_enter
      (repeat' ((fail_if_success (ktn_no "stop")); first | ((with_reducible show wpAny _ _ (PySem.call (Value.ref 134) _) _ _ _); k_dflt (refine useT (hp := by trivial) (C := ct_sign) (ret := ?_)); intros; ktn_no "aft") | ((with_reducible show wpAny _ _ (PySem.call (Value.ref 120) _) _ _ _); k_dflt (refine useT (hp := by trivial) (C := ct_class (by first | exact isValN | exact isValI | assumption)) (ret := ?_)); intros; ktn_no "aft") | (k_unfold; (try dsimp only)) | walk1 | (dsimp only; walk1)))
      all_goals first | exact back_intro (by assumption) fun f k => hret _ _ _ f k (isI rfl) | walk_report
end
/-! ## NCV2 -/
section
local macro_rules | `(tactic| ktn_no "ep?") => `(tactic| skip)
def AllBin (cs : List Value) : Prop := ∀ (i : Nat) (v : Value), cs[i]? = some v → ∃ t, v = .str (Str.ofString "binary") t
def IsInfo (w : World) (h : Heap) (a : Addr) (bs : List Bool) : Prop := ∃ dx lc ld t1 t2 cs, h.get? a = some (instObj 286 dx) ∧ h.get? dx = some (dictOf [entW w "collations" t1 (.ref lc), entW w "descending" t2 (.ref ld)] 2) ∧
  IsTup h lc (List.toArray cs) ∧ AllBin cs ∧ cs.length = bs.length ∧ IsTup h ld (List.toArray (bs.map Value.bool))
theorem info_out {G : Prop} {w : World} {h : Heap} {a : Addr} {bs : List Bool} (I : IsInfo w h a bs) (k : ∀ dx lc ld t1 t2 cs, h.get? a = some (instObj 286 dx) → h.get? dx = some (dictOf [entW w "collations" t1 (.ref lc), entW w "descending" t2 (.ref ld)] 2) →
    IsTup h lc (List.toArray cs) → AllBin cs → cs.length = bs.length → IsTup h ld (List.toArray (bs.map Value.bool)) → G) : G :=
  let ⟨dx, lc, ld, t1, t2, cs, a, b, c, d, e, f⟩ := I; k dx lc ld t1 t2 cs a b c d e f
theorem isInfo_keep {w : World} {h h' : Heap} {a : Addr} {bs : List Bool} (I : IsInfo w h a bs) (hk : ∀ b o, h.get? b = some o → h'.get? b = some o) : IsInfo w h' a bs := by
  refine hide fun G99 hG99 => ?_
  obtain ⟨dx, lc, ld, t1, t2, cs, i1, i2, i3, i4, i5, i6⟩ := I
  refine hG99 ?_
  clear hG99 G99
  exact ⟨dx, lc, ld, t1, t2, cs, hk _ _ i1, hk _ _ i2, i3.keeps hk, i4, i5, i6.keeps hk⟩
set_option maxHeartbeats 4000000 in
theorem ct_count {w : World} {mean mg mb} {x : Addr} {bs : List Bool} (hb : bs.length ≤ 100) : Tell w mean mg mb 269 2 [.ref x] [] (fun h => IsInfo w h x bs) (fun _ r _ => IsI r bs.length) := by
  revert w mean mg mb x bs hb
  ((refine @all6 _ _ _ _ _ _ (by ktn_no "ne") (by ktn_no "ne") (by ktn_no "ne") (by ktn_no "ne") (by ktn_no "ne") (by ktn_no "ne") _ ?_; generalize E6a _ _ _ _ _ _ _ = w, E6b _ _ _ _ _ _ _ = mean, E6c _ _ _ _ _ _ _ = mg, E6d _ _ _ _ _ _ _ = mb, E6e _ _ _ _ _ _ _ = x, E6f _ _ _ _ _ _ _ = bs; intro hb))
  (refine tell_in _ _ _ _ _ _ _ _ _ _ ?_; k_fill; generalize TX.dp (tx _ _ _ _ _ _ _ _ _ _) = dp, TX.un (tx _ _ _ _ _ _ _ _ _ _) = un, TX.gd (tx _ _ _ _ _ _ _ _ _ _) = gd, TX.cn (tx _ _ _ _ _ _ _ _ _ _) = cn, TX.cs (tx _ _ _ _ _ _ _ _ _ _) = cs, TX.a (tx _ _ _ _ _ _ _ _ _ _) = a, TX.ccd (tx _ _ _ _ _ _ _ _ _ _) = ccd, TX.cl (tx _ _ _ _ _ _ _ _ _ _) = cl, TX.outer (tx _ _ _ _ _ _ _ _ _ _) = outer, TX.A₀ (tx _ _ _ _ _ _ _ _ _ _) = A₀, TX.base (tx _ _ _ _ _ _ _ _ _ _) = base, TX.h₀ (tx _ _ _ _ _ _ _ _ _ _) = h₀, TX.L (tx _ _ _ _ _ _ _ _ _ _) = L, TX.m (tx _ _ _ _ _ _ _ _ _ _) = m, TX.s (tx _ _ _ _ _ _ _ _ _ _) = s, TX.Q (tx _ _ _ _ _ _ _ _ _ _) = Q, TX.E (tx _ _ _ _ _ _ _ _ _ _) = E; intro B F X N T hk hpre hd hu hret)
  refine info_out hpre ?_
  ((refine all6 ?_; generalize E6a _ _ _ _ _ _ _ = dx, E6b _ _ _ _ _ _ _ = lc, E6c _ _ _ _ _ _ _ = ld, E6d _ _ _ _ _ _ _ = t1, E6e _ _ _ _ _ _ _ = t2, E6f _ _ _ _ _ _ _ = cs; intro i1 i2 i3 i4 i5 i6))
  ktr_enter
  rename KeepB _ _ _ => kg0
  have I0 := inst_base kg0 (inst_of i1 i2)
  have I3 := isTup_base kg0 i3
  have I6 := isTup_base kg0 i6
  (repeat' ((fail_if_success (ktn_no "stop")); first | (k_unfold; (try dsimp only)) | walk1 | (dsimp only; walk1)))
  all_goals exact back_intro (by assumption) fun f k => hret _ _ _ f k (isI (by rw [i5]))
set_option maxHeartbeats 4000000 in
theorem ct_coll {w : World} {mean mg mb} {x : Addr} {bs : List Bool} {p : Nat} {t : Tok} (hp : p < 100) (hb : bs.length ≤ 100) : Tell w mean mg mb 276 2 [.ref x, .int p t] [] (fun h => IsInfo w h x bs) (fun _ r _ => ∃ t, r = .str (Str.ofString "binary") t) := by
  revert w mean mg mb x bs p t hp hb
  ((refine @all8 _ _ _ _ _ _ _ _ (by ktn_no "ne") (by ktn_no "ne") (by ktn_no "ne") (by ktn_no "ne") (by ktn_no "ne") (by ktn_no "ne") (by ktn_no "ne") (by ktn_no "ne") _ ?_; generalize E8a _ _ _ _ _ _ _ _ _ = w, E8b _ _ _ _ _ _ _ _ _ = mean, E8c _ _ _ _ _ _ _ _ _ = mg, E8d _ _ _ _ _ _ _ _ _ = mb, E8e _ _ _ _ _ _ _ _ _ = x, E8f _ _ _ _ _ _ _ _ _ = bs, E8g _ _ _ _ _ _ _ _ _ = p, E8h _ _ _ _ _ _ _ _ _ = t; intro hp hb))
  (refine tell_in _ _ _ _ _ _ _ _ _ _ ?_; k_fill; generalize TX.dp (tx _ _ _ _ _ _ _ _ _ _) = dp, TX.un (tx _ _ _ _ _ _ _ _ _ _) = un, TX.gd (tx _ _ _ _ _ _ _ _ _ _) = gd, TX.cn (tx _ _ _ _ _ _ _ _ _ _) = cn, TX.cs (tx _ _ _ _ _ _ _ _ _ _) = cs, TX.a (tx _ _ _ _ _ _ _ _ _ _) = a, TX.ccd (tx _ _ _ _ _ _ _ _ _ _) = ccd, TX.cl (tx _ _ _ _ _ _ _ _ _ _) = cl, TX.outer (tx _ _ _ _ _ _ _ _ _ _) = outer, TX.A₀ (tx _ _ _ _ _ _ _ _ _ _) = A₀, TX.base (tx _ _ _ _ _ _ _ _ _ _) = base, TX.h₀ (tx _ _ _ _ _ _ _ _ _ _) = h₀, TX.L (tx _ _ _ _ _ _ _ _ _ _) = L, TX.m (tx _ _ _ _ _ _ _ _ _ _) = m, TX.s (tx _ _ _ _ _ _ _ _ _ _) = s, TX.Q (tx _ _ _ _ _ _ _ _ _ _) = Q, TX.E (tx _ _ _ _ _ _ _ _ _ _) = E; intro B F X N T hk hpre hd hu hret)
  refine info_out hpre ?_
  ((refine all6 ?_; generalize E6a _ _ _ _ _ _ _ = dx, E6b _ _ _ _ _ _ _ = lc, E6c _ _ _ _ _ _ _ = ld, E6d _ _ _ _ _ _ _ = t1, E6e _ _ _ _ _ _ _ = t2, E6f _ _ _ _ _ _ _ = cs; intro i1 i2 i3 i4 i5 i6))
  ktr_enter
  rename KeepB _ _ _ => kg0
  have I0 := inst_base kg0 (inst_of i1 i2)
  have I3 := isTup_base kg0 i3
  have I6 := isTup_base kg0 i6
  by_cases hlt : p < cs.length
  · (refine ex1 ((⟨cs[p], List.getElem?_eq_getElem hlt⟩ : ∃ v, cs[p]? = some v)) ?_; generalize X1a _ _ = v; intro hv)
    (refine ex1 (i4 p v hv) ?_; generalize X1a _ _ = tv; intro q90; subst q90)
    have hj : seqIndex? (p : Int) cs.length = some p := by unfold seqIndex?; simp; omega
    (repeat' ((fail_if_success (ktn_no "stop")); first | (k_unfold; (try dsimp only)) | walk1 | (dsimp only; walk1)))
    all_goals exact back_intro (by assumption) fun f k => hret _ _ _ f k ⟨_, rfl⟩
  · (repeat' ((fail_if_success (ktn_no "stop")); first | (k_unfold; (try dsimp only)) | walk1 | (dsimp only; walk1)))
    all_goals exact back_intro (by assumption) fun f k => hret _ _ _ f k ⟨_, rfl⟩
set_option maxHeartbeats 4000000 in
theorem ct_desc {w : World} {mean mg mb} {x : Addr} {bs : List Bool} {p : Nat} {t : Tok} (hp : p < 100) (hb : bs.length ≤ 100) : Tell w mean mg mb 283 2 [.ref x, .int p t] [] (fun h => IsInfo w h x bs) (fun _ r _ => r = .bool (bs.getD p false)) := by
  revert w mean mg mb x bs p t hp hb
  ((refine @all8 _ _ _ _ _ _ _ _ (by ktn_no "ne") (by ktn_no "ne") (by ktn_no "ne") (by ktn_no "ne") (by ktn_no "ne") (by ktn_no "ne") (by ktn_no "ne") (by ktn_no "ne") _ ?_; generalize E8a _ _ _ _ _ _ _ _ _ = w, E8b _ _ _ _ _ _ _ _ _ = mean, E8c _ _ _ _ _ _ _ _ _ = mg, E8d _ _ _ _ _ _ _ _ _ = mb, E8e _ _ _ _ _ _ _ _ _ = x, E8f _ _ _ _ _ _ _ _ _ = bs, E8g _ _ _ _ _ _ _ _ _ = p, E8h _ _ _ _ _ _ _ _ _ = t; intro hp hb))
  (refine tell_in _ _ _ _ _ _ _ _ _ _ ?_; k_fill; generalize TX.dp (tx _ _ _ _ _ _ _ _ _ _) = dp, TX.un (tx _ _ _ _ _ _ _ _ _ _) = un, TX.gd (tx _ _ _ _ _ _ _ _ _ _) = gd, TX.cn (tx _ _ _ _ _ _ _ _ _ _) = cn, TX.cs (tx _ _ _ _ _ _ _ _ _ _) = cs, TX.a (tx _ _ _ _ _ _ _ _ _ _) = a, TX.ccd (tx _ _ _ _ _ _ _ _ _ _) = ccd, TX.cl (tx _ _ _ _ _ _ _ _ _ _) = cl, TX.outer (tx _ _ _ _ _ _ _ _ _ _) = outer, TX.A₀ (tx _ _ _ _ _ _ _ _ _ _) = A₀, TX.base (tx _ _ _ _ _ _ _ _ _ _) = base, TX.h₀ (tx _ _ _ _ _ _ _ _ _ _) = h₀, TX.L (tx _ _ _ _ _ _ _ _ _ _) = L, TX.m (tx _ _ _ _ _ _ _ _ _ _) = m, TX.s (tx _ _ _ _ _ _ _ _ _ _) = s, TX.Q (tx _ _ _ _ _ _ _ _ _ _) = Q, TX.E (tx _ _ _ _ _ _ _ _ _ _) = E; intro B F X N T hk hpre hd hu hret)
  refine info_out hpre ?_
  ((refine all6 ?_; generalize E6a _ _ _ _ _ _ _ = dx, E6b _ _ _ _ _ _ _ = lc, E6c _ _ _ _ _ _ _ = ld, E6d _ _ _ _ _ _ _ = t1, E6e _ _ _ _ _ _ _ = t2, E6f _ _ _ _ _ _ _ = cs; intro i1 i2 i3 i4 i5 i6))
  ktr_enter
  rename KeepB _ _ _ => kg0
  have I0 := inst_base kg0 (inst_of i1 i2)
  have I3 := isTup_base kg0 i3
  have I6 := isTup_base kg0 i6
  by_cases hlt : p < bs.length
  · have hv : (bs.map Value.bool)[p]? = some (.bool (bs.getD p false)) := by simp [hlt]
    have hj : seqIndex? (p : Int) (bs.map Value.bool).length = some p := by unfold seqIndex?; simp; omega
    have hd9 : decide ((p : Int) < ((bs.map Value.bool).length : Int)) = true := by simp only [List.length_map, decide_eq_true_eq]; omega
    (repeat' ((fail_if_success (ktn_no "stop")); first | (k_unfold; (try dsimp only)) | walk1 | (dsimp only; walk1)))
    all_goals (try simp only [hd9])
    all_goals (repeat' ((fail_if_success (ktn_no "stop")); first | (k_unfold; (try dsimp only)) | walk1 | (dsimp only; walk1)))
    all_goals first | exact back_intro (by assumption) fun f k => hret _ _ _ f k rfl | skip
  · have hv : bs.getD p false = false := by rw [List.getD_eq_getElem?_getD, List.getElem?_eq_none (by omega)]; rfl
    have hd9 : decide ((p : Int) < ((bs.map Value.bool).length : Int)) = false := by simp only [List.length_map, decide_eq_false_iff_not]; omega
    (repeat' ((fail_if_success (ktn_no "stop")); first | (k_unfold; (try dsimp only)) | walk1 | (dsimp only; walk1)))
    all_goals (try simp only [hd9])
    all_goals (repeat' ((fail_if_success (ktn_no "stop")); first | (k_unfold; (try dsimp only)) | walk1 | (dsimp only; walk1)))
    all_goals first | exact back_intro (by assumption) fun f k => hret _ _ _ f k (by rw [hv]) | skip
end
/-! ## NCV3 -/
section
local macro_rules | `(tactic| ktn_no "ep?") => `(tactic| skip)
def cmpK : List Bool → List Val → List Val → Int
  | bs, d :: ds, e :: es => if cmpV d e ≠ 0 then (if bs.headD false then - cmpV d e else cmpV d e) else cmpK bs.tail ds es
  | _, _, _ => 0
set_option maxHeartbeats 4000000 in
theorem ct_cmpk {w : World} {mean mg mb} {lv lo x : Addr} {vs us : List Value} {ds es : List Val} {bs : List Bool} {n : Int} {t : Tok} (hv1 : ValsAre vs ds) (hu1 : ValsAre us es) (hd1 : ds.length ≤ 90) (he1 : es.length ≤ 90) (hb : bs.length ≤ 90) (hn : n = es.length) : Tell w mean mg mb 298 7 [.ref lv, .ref lo, .ref x, .int n t] [] (fun h => h.IsList lv (List.toArray vs) ∧ h.IsList lo (List.toArray us) ∧ IsInfo w h x bs) (fun _ r _ => IsI r (cmpK bs ds es)) := by
  revert w mean mg mb lv lo x vs us ds es bs n t hv1 hu1 hd1 he1 hb hn
  ((refine @all8 _ _ _ _ _ _ _ _ (by ktn_no "ne") (by ktn_no "ne") (by ktn_no "ne") (by ktn_no "ne") (by ktn_no "ne") (by ktn_no "ne") (by ktn_no "ne") (by ktn_no "ne") _ ?_; generalize E8a _ _ _ _ _ _ _ _ _ = w, E8b _ _ _ _ _ _ _ _ _ = mean, E8c _ _ _ _ _ _ _ _ _ = mg, E8d _ _ _ _ _ _ _ _ _ = mb, E8e _ _ _ _ _ _ _ _ _ = lv, E8f _ _ _ _ _ _ _ _ _ = lo, E8g _ _ _ _ _ _ _ _ _ = x, E8h _ _ _ _ _ _ _ _ _ = vs); (refine @all6 _ _ _ _ _ _ (by ktn_no "ne") (by ktn_no "ne") (by ktn_no "ne") (by ktn_no "ne") (by ktn_no "ne") (by ktn_no "ne") _ ?_; generalize E6a _ _ _ _ _ _ _ = us, E6b _ _ _ _ _ _ _ = ds, E6c _ _ _ _ _ _ _ = es, E6d _ _ _ _ _ _ _ = bs, E6e _ _ _ _ _ _ _ = n, E6f _ _ _ _ _ _ _ = t; intro hv1 hu1 hd1 he1 hb hn))
  (refine tell_in _ _ _ _ _ _ _ _ _ _ ?_; k_fill; generalize TX.dp (tx _ _ _ _ _ _ _ _ _ _) = dp, TX.un (tx _ _ _ _ _ _ _ _ _ _) = un, TX.gd (tx _ _ _ _ _ _ _ _ _ _) = gd, TX.cn (tx _ _ _ _ _ _ _ _ _ _) = cn, TX.cs (tx _ _ _ _ _ _ _ _ _ _) = cs, TX.a (tx _ _ _ _ _ _ _ _ _ _) = a, TX.ccd (tx _ _ _ _ _ _ _ _ _ _) = ccd, TX.cl (tx _ _ _ _ _ _ _ _ _ _) = cl, TX.outer (tx _ _ _ _ _ _ _ _ _ _) = outer, TX.A₀ (tx _ _ _ _ _ _ _ _ _ _) = A₀, TX.base (tx _ _ _ _ _ _ _ _ _ _) = base, TX.h₀ (tx _ _ _ _ _ _ _ _ _ _) = h₀, TX.L (tx _ _ _ _ _ _ _ _ _ _) = L, TX.m (tx _ _ _ _ _ _ _ _ _ _) = m, TX.s (tx _ _ _ _ _ _ _ _ _ _) = s, TX.Q (tx _ _ _ _ _ _ _ _ _ _) = Q, TX.E (tx _ _ _ _ _ _ _ _ _ _) = E; intro B F X N T hk hpre hd hu hret)
  (refine cur3 ?_ (hpre); intro p1 p2 p3)
  have hvl := ValsAre.length hv1
  have hul := ValsAre.length hu1
  ktr_enter
  rename KeepB _ _ _ => kg0
  have I0 := isInfo_keep p3 fun b o e => kg0 b o e (by simp)
  refine info_out I0 ?_
  ((refine all6 ?_; generalize E6a _ _ _ _ _ _ _ = dx, E6b _ _ _ _ _ _ _ = lc, E6c _ _ _ _ _ _ _ = ld, E6d _ _ _ _ _ _ _ = ti1, E6e _ _ _ _ _ _ _ = ti2, E6f _ _ _ _ _ _ _ = cs0; intro i1 i2 _ _ _ _))
  have IA := inst_of i1 i2
  have I3 := isList_base kg0 p1
  have I6 := isList_base kg0 p2
  subst hn
  (repeat' ((fail_if_success (ktn_no "stop")); first | ((with_reducible show wpAny _ _ (call (Value.builtin "min") [Value.int _ _, Value.int _ _]) _ _ _); (with_reducible rename News _ _ _ _ => N99); (with_unfolding_all apply min_two_N); (case hh => with_unfolding_all rfl); (case N => exact N99); (case F => assumption); clear N99; refine all2 ?_; ktn_no "g2"; intro _ _) | (k_unfold; (try dsimp only)) | walk1 | (dsimp only; walk1)))
  refine forA ?_
  (repeat' ((fail_if_success (ktn_no "stop")); first | (k_unfold; (try dsimp only)) | walk1 | (dsimp only; walk1)))
  try dsimp only
  rename Fr _ _ _ _ => F1
  rename News _ _ _ _ => N1
  rename IsRange _ _ _ _ _ _ _ _ => hr
  have hmany : (if (us.length : Int) < (vs.length : Int) then (us.length : Int) else (vs.length : Int)) = ((min ds.length es.length : Nat) : Int) := by
    rw [hvl, hul]; split <;> omega
  (have z99 := hr; simp only [hmany] at z99; clear hr; have hr := z99; clear z99)
  refine iterRS (fun i k9 => ∀ (m : Str → Option Value), (cmpK bs ds es = cmpK (bs.drop i) (ds.drop i) (es.drop i)) → k9 (over [(Str.ofString "values", (.ref lv)), (Str.ofString "others", (.ref lo)), (Str.ofString "info", (.ref x))] m) []) rfl hr (rsmall0 (by omega)) (rsize0 _) (fr_over' (es := [(Str.ofString "values", _), (Str.ofString "others", _), (Str.ofString "info", _)]) F1 ⟨rfl, rfl, rfl, trivial⟩) N1 (fun _ k9 => k9 _ rfl) ?_ ?_
  · ((refine all2 ?_; generalize E2a _ _ _ = i, E2b _ _ _ = tv; intro hlt); (refine all1 ?_; generalize E1a _ _ = m₁; intro ek); (refine all4 ?_; generalize E4a _ _ _ _ _ = h9, E4b _ _ _ _ _ = tk, E4c _ _ _ _ _ = I, E4d _ _ _ _ _ = o; intro F6 N5 hI))
    clear F1 N1 hr
    rw [Int.zero_add]
    (refine ex1 ((⟨ds[i]'(by omega), List.getElem?_eq_getElem (by omega)⟩ : ∃ d, ds[i]? = some d)) ?_; generalize X1a _ _ = d; intro hd9)
    (refine ex1 ((⟨es[i]'(by omega), List.getElem?_eq_getElem (by omega)⟩ : ∃ e, es[i]? = some e)) ?_; generalize X1a _ _ = e; intro he9)
    (refine ex1 ((⟨vs[i]'(by omega), List.getElem?_eq_getElem (by omega)⟩ : ∃ v, vs[((i : Nat) : Int).toNat]? = some v)) ?_; generalize X1a _ _ = v; intro hv9)
    (refine ex1 ((⟨us[i]'(by omega), List.getElem?_eq_getElem (by omega)⟩ : ∃ u, us[((i : Nat) : Int).toNat]? = some u)) ?_; generalize X1a _ _ = u; intro hu9)
    (refine ex1 (ValsAre.at hv1 (i := i) hv9) ?_; generalize X1a _ _ = d'; refine cur2 ?_; intro hd8 hvd)
    (refine ex1 (ValsAre.at hu1 (i := i) hu9) ?_; generalize X1a _ _ = e'; refine cur2 ?_; intro he8 hue)
    rw [hd9] at hd8; cases hd8
    rw [he9] at he8; cases he8
    have eds : ds.drop i = d :: ds.drop (i + 1) := by
      have h2 : ds[i]'(by omega) = d := by rw [List.getElem?_eq_getElem (by omega)] at hd9; exact Option.some.inj hd9
      rw [← h2, List.getElem_cons_drop]
    have ees : es.drop i = e :: es.drop (i + 1) := by
      have h2 : es[i]'(by omega) = e := by rw [List.getElem?_eq_getElem (by omega)] at he9; exact Option.some.inj he9
      rw [← h2, List.getElem_cons_drop]
    have ebs : (bs.drop i).headD false = bs.getD i false := by rw [List.headD_eq_head?_getD, List.head?_drop, List.getD_eq_getElem?_getD]
    have ebt : (bs.drop i).tail = bs.drop (i + 1) := List.tail_drop
    (have z99 := ek; rw [eds, ees, cmpK, ebs, ebt] at z99; clear ek; have ek := z99; clear z99)
    by_cases hc : cmpV d e = 0
    · (have z99 := ek; rw [if_neg (by simp [hc])] at z99; clear ek; have ek := z99; clear z99)
      refine wpAny_assign_Name ?_
      (repeat' ((fail_if_success (ktn_no "stop")); first | ((with_reducible show wpAny _ _ (PySem.call (Value.ref 276) _) _ _ _); k_dflt (refine useT (hp := by exact isInfo_keep (by assumption) (Fr.keep (by assumption))) (C := ct_coll (by omega) (by omega)) (ret := ?_)); ((refine all3 ?_; ktn_no "g3"; intro _ _)); ktn_no "aft") | ((with_reducible show wpAny _ _ (PySem.call (Value.ref 142) _) _ _ _); k_dflt (refine useT (hp := by trivial) (C := ct_cmpv (by assumption) (by assumption)) (ret := ?_)); ((refine all3 ?_; ktn_no "g3"; intro _ _)); ktn_no "aft") | (k_unfold; (try dsimp only)) | walk1 | (dsimp only; walk1)))
      rename Fr _ _ _ _ => F7
      rename News _ _ _ _ => N7
      refine' Turned.next [] (fr_over' (es := [(Str.ofString "values", _), (Str.ofString "others", _), (Str.ofString "info", _)]) F7 ⟨rfl, rfl, rfl, trivial⟩) N7 ?mI ?mem ?ne ?J
      case mI => k_mem
      case mem => intro p hp; cases hp
      case ne => intro p hp; cases hp
      case J => (refine' fun _ k9 => k9 _ ?c0; (case c0 => exact ek))
    · (have z99 := ek; rw [if_pos hc] at z99; clear ek; have ek := z99; clear z99)
      cases hbd : bs.getD i false with
      | false =>
        (have z99 := ek; rw [hbd, if_neg (by decide)] at z99; clear ek; have ek := z99; clear z99)
        refine wpAny_assign_Name ?_
        (repeat' ((fail_if_success (ktn_no "stop")); first | ((with_reducible show wpAny _ _ (PySem.call (Value.ref 283) _) _ _ _); k_dflt (refine useE (hp := by exact isInfo_keep (by assumption) (Fr.keep (by assumption))) (C := ct_desc (by omega) (by omega)) (ret := ?_)); ((refine all2 ?_; ktn_no "g2"; intro _ _)); ktn_no "aft") | ((with_reducible show wpAny _ _ (PySem.call (Value.ref 276) _) _ _ _); k_dflt (refine useT (hp := by exact isInfo_keep (by assumption) (Fr.keep (by assumption))) (C := ct_coll (by omega) (by omega)) (ret := ?_)); ((refine all3 ?_; ktn_no "g3"; intro _ _)); ktn_no "aft") | ((with_reducible show wpAny _ _ (PySem.call (Value.ref 142) _) _ _ _); k_dflt (refine useT (hp := by trivial) (C := ct_cmpv (by assumption) (by assumption)) (ret := ?_)); ((refine all3 ?_; ktn_no "g3"; intro _ _)); ktn_no "aft") | (k_unfold; (try dsimp only)) | walk1 | (dsimp only; walk1)))
        all_goals (dsimp only [Turned]; exact back_intro (by assumption) fun f k => hret _ _ _ f k (isI (by rw [ek])))
      | true =>
        (have z99 := ek; rw [hbd, if_pos rfl] at z99; clear ek; have ek := z99; clear z99)
        refine wpAny_assign_Name ?_
        (repeat' ((fail_if_success (ktn_no "stop")); first | ((with_reducible show wpAny _ _ (PySem.call (Value.ref 283) _) _ _ _); k_dflt (refine useE (hp := by exact isInfo_keep (by assumption) (Fr.keep (by assumption))) (C := ct_desc (by omega) (by omega)) (ret := ?_)); ((refine all2 ?_; ktn_no "g2"; intro _ _)); ktn_no "aft") | ((with_reducible show wpAny _ _ (PySem.call (Value.ref 276) _) _ _ _); k_dflt (refine useT (hp := by exact isInfo_keep (by assumption) (Fr.keep (by assumption))) (C := ct_coll (by omega) (by omega)) (ret := ?_)); ((refine all3 ?_; ktn_no "g3"; intro _ _)); ktn_no "aft") | ((with_reducible show wpAny _ _ (PySem.call (Value.ref 142) _) _ _ _); k_dflt (refine useT (hp := by trivial) (C := ct_cmpv (by assumption) (by assumption)) (ret := ?_)); ((refine all3 ?_; ktn_no "g3"; intro _ _)); ktn_no "aft") | (k_unfold; (try dsimp only)) | walk1 | (dsimp only; walk1)))
        all_goals (dsimp only [Turned]; exact back_intro (by assumption) fun f k => hret _ _ _ f k (isI (by rw [ek])))
  · ((refine all1 ?_; generalize E1a _ _ = m₁; intro ek); (refine all2 ?_; generalize E2a _ _ _ = h9, E2b _ _ _ = tk; intro F6 N5))
    clear F1 N1 hr
    have ez : cmpK (bs.drop (min ds.length es.length)) (ds.drop (min ds.length es.length)) (es.drop (min ds.length es.length)) = 0 := by
      rcases Nat.le_total ds.length es.length with h | h
      · rw [Nat.min_eq_left h, List.drop_length]; rfl
      · rw [Nat.min_eq_right h, List.drop_length]; cases ds.drop es.length <;> rfl
    (have z99 := ek; rw [ez] at z99; clear ek; have ek := z99; clear z99)
    (repeat' ((fail_if_success (ktn_no "stop")); first | (k_unfold; (try dsimp only)) | walk1 | (dsimp only; walk1)))
    all_goals exact back_intro (by assumption) fun f k => hret _ _ _ f k (isI (by rw [ek]))
end
/-! ## NCT9 -/
section
def IsTupN (h : Heap) (v : Value) (h' : Heap) (its : List Value) : Prop := ∃ l, v = .ref l ∧ h'.get? l = some ({ cls := .type "tuple", data := .seq its.toArray } : Obj) ∧ h.get? l = none
set_option maxHeartbeats 4000000 in
theorem ct_getvar {w : World} {mean mg mb} {ns : List Int} {i x : Int} {t u : Tok} (hi0 : 0 ≤ i) (hi1 : i < ns.length) (hz : ns.length ≤ 100) (hx : ns[i.toNat]? = some x) (hx0 : 0 ≤ x) (hx1 : x < 128) : Tell w mean mg mb 164 2 [.bytes (byteArr ns) t, .int i u] [] (fun _ => True) (fun h r h' => ∃ t1 t2, IsTupN h r h' [.int x t1, .int (i + 1) t2]) := by
  unfold Tell
  k_fill
  intro dp un gd cn cs a ccd cl outer A₀ base h₀ L m s Q E B F X N T hk hpre hd hu hret
  ktr_enter
  (repeat' (first | ((with_reducible show wpAny _ _ (pyIter _) _ _ _); kf1_first) | ((with_reducible show wpAny _ _ (binaryOp Operator.BitAnd (Value.int _ _) (Value.int _ _)) _ _ _); with_reducible first | refine and127 (by omega) (by omega) ?_ | refine and255 (by omega) (by omega) ?_) | ((with_reducible show wpAny _ _ (binaryOp Operator.BitOr (Value.int _ _) (Value.int _ _)) _ _ _); with_reducible refine or_zero (by omega) ?_) | ((with_reducible show wpAny _ _ (binaryOp Operator.LShift (Value.int _ _) (Value.int _ _)) _ _ _); with_reducible refine shl_zero (by omega) (by omega) ?_) | ((with_reducible show wpAny _ _ (subscriptTail _ _ (Value.bytes (byteArr _) _) (Value.int _ _)) _ _ _); k_dflt (refine' item_ba (by first | assumption | omega | (simp; done)) (by omega) (by first | assumption | (simp only [Int.ofNat_zero, Int.natCast_zero, Int.cast_ofNat_Int, Int.add_zero]; assumption) | (simp; done)) (by omega) (by omega) ?_)) | (k_unfold; (try dsimp only)) | walk1 | (dsimp only; walk1)))
  all_goals (rename KeepB _ _ _ => kg0; rename News _ _ _ _ => N0; exact back_intro (by assumption) fun f k => hret _ _ _ f k ⟨_, _, _, rfl, made kg0 N0 (by k_mem)⟩)
end
/-! ## NCD1 -/
section
section
variable {w : World} {mean : ExcName → Option Value} {mg mb : Str → Option Value}
  {dp un : Nat} {gd : Option (List Code)} {cn : Str} {cs : Scope} {a : Addr} {ccd : Value} {cl : List (Str × Addr)} {outer : List Env} {A₀ : Around} {base h₀ : Heap} {L : Addr} {m : Str → Option Value} {news : List (Addr × Obj)} {s : Shared} {Q E : Value → Shared → Prop}
theorem use_getvar {ns : List Int} {i x : Int} {t u : Tok} (S : Site w mean mg mb dp un 2 cs outer A₀ base h₀ L m s news := by ktn_no "site") (hi0 : 0 ≤ i) (hi1 : i < ns.length) (hz : ns.length ≤ 100) (hx : ns[i.toNat]? = some x) (hx0 : 0 ≤ x) (hx1 : x < 128)
    (ret : ∀ t1 t2 l h' tk', Fr h₀ L h' m → News h₀ L h' ((l, ({ cls := .type "tuple", data := .seq #[.int x t1, .int (i + 1) t2] } : Obj)) :: news) → Off l (news.map (·.1)) → Q (.ref l) { s with heap := h', toks := tk' }) :
    wpAny (model PySem.Challenge.rw_nt0120_01.row.prog w) (ktrTop dp un gd cn cs L a ccd cl outer) (call (.ref 164) [.bytes (byteArr ns) t, .int i u]) Q E s :=
  tell_use0 (ct_getvar hi0 hi1 hz hx hx0 hx1) S.B S.F S.X S.N S.T S.hk trivial S.hd S.hu fun _ h' tk' F' N' _ ⟨t1, t2, l, e, o, f⟩ => e ▸ ret t1 t2 l h' tk' F' (news_new S.F N' o f) (newOff S.N f)
end
theorem intsAre_snoc : ∀ {vs : List Value} {ns : List Int} {n : Int} {t : Tok}, IntsAre vs ns → IntsAre (vs ++ [.int n t]) (ns ++ [n])
  | _, _, n, t, .nil => .cons n t .nil
  | _, _, _, _, .cons n t h => .cons n t (intsAre_snoc h)
set_option maxHeartbeats 4000000 in
theorem ct_headof {w : World} {mean mg mb} {ns ks : List Int} {t : Tok} (hz : ns.length ≤ 100) (h0 : ns[0]? = some ((ks.length : Int) + 1)) (hks : ∀ j k, ks[j]? = some k → ns[j + 1]? = some k ∧ 0 ≤ k ∧ k < 128) (hle : ks.length + 1 ≤ ns.length) : Tell w mean mg mb 234 5 [.bytes (byteArr ns) t] [] (fun _ => True) (fun h r h' => ∃ l lt vs t2 n2, r = .ref l ∧ h'.get? l = some ({ cls := .type "tuple", data := .seq #[.ref lt, .int ((ks.length : Int) + 1) t2] } : Obj) ∧ h'.get? lt = some (PySem.W.listOf vs.toArray n2) ∧ IntsAre vs ks ∧ h.get? l = none ∧ h.get? lt = none) := by
  unfold Tell
  k_fill
  intro dp un gd cn cs a ccd cl outer A₀ base h₀ L m s Q E B F X N T hk hpre hd hu hret
  have hx00 : ns[Int.toNat 0]? = some ((ks.length : Int) + 1) := h0
  have hkl : (0 : Int) ≤ (ks.length : Int) := Int.natCast_nonneg _
  ktr_enter
  (repeat' ((fail_if_success (ktn_no "stop")); first | ((with_reducible show wpAny _ _ (PySem.call (Value.ref 164) _) _ _ _); k_dflt (refine use_getvar (hx := by assumption) (hi0 := by omega) (hi1 := by omega) (hz := by omega) (hx0 := by omega) (hx1 := by omega) (ret := ?_); intros; (rename Off _ _ => M9; dsimp only [List.map] at M9)); ktn_no "aft") | (k_unfold; (try dsimp only)) | walk1 | (dsimp only; walk1)))
  try dsimp only
  rename Fr _ _ _ _ => F1
  rename News _ _ _ _ => N1
  refine whileAS (σ := Nat) (fun j => ks.length - j) (fun j k9 => ∀ lt vs k te ta (m : Str → Option Value), (IntsAre vs (ks.take j)) → (j ≤ ks.length) → k9 (over [(Str.ofString "octets", (.bytes (byteArr ns) t)), (Str.ofString "end", (.int ((ks.length : Int) + 1) te)), (Str.ofString "at", (.int ((j : Int) + 1) ta)), (Str.ofString "types", (.ref lt))] m) [(lt, PySem.W.listOf (List.toArray vs) k)]) 0 (fr_over' (es := [(Str.ofString "octets", _), (Str.ofString "end", _), (Str.ofString "at", _), (Str.ofString "types", _)]) F1 ⟨rfl, rfl, rfl, rfl, trivial⟩) (fun p hp => N1 p (by rcases List.mem_singleton.mp hp with rfl; exact .head _))
    (fun _ k9 => k9 (_) ([]) (0) (_) (_) _ .nil (Nat.zero_le _)) ?_
  clear F1 N1
  intro E9 j lt vs k te ta m₁ hv hj h9 tk F6 N5
  by_cases hlt : j < ks.length
  · obtain ⟨kk, hkk⟩ : ∃ kk, ks[j]? = some kk := ⟨ks[j], List.getElem?_eq_getElem hlt⟩
    obtain ⟨hn9, k0, k1⟩ := hks j kk hkk
    have hx9 : ns[((j : Int) + 1).toNat]? = some kk := by
      rw [show ((j : Int) + 1).toNat = j + 1 by omega]; exact hn9
    (repeat' ((fail_if_success (ktn_no "stop")); first | ((with_reducible show wpAny _ _ (PySem.call (Value.ref 164) _) _ _ _); k_dflt (refine use_getvar (hx := by assumption) (hi0 := by omega) (hi1 := by omega) (hz := by omega) (hx0 := by omega) (hx1 := by omega) (ret := ?_); intros; (rename Off _ _ => M9; dsimp only [List.map] at M9)); ktn_no "aft") | (k_unfold; (try dsimp only)) | walk1 | (dsimp only; walk1)))
    rename Fr _ _ _ _ => F7
    rename News _ _ _ _ => N7
    try dsimp only
    have et : ks.take (j + 1) = ks.take j ++ [kk] := by rw [List.take_add_one, hkk]; rfl
    simp only [List.push_toArray] at N7
    refine' TurnedW.next (j + 1) [(lt, PySem.W.listOf (List.toArray (vs ++ [Value.int kk _])) (k + 1))] (fr_over' (es := [(Str.ofString "octets", _), (Str.ofString "end", _), (Str.ofString "at", _), (Str.ofString "types", _)]) F7 ⟨rfl, rfl, rfl, rfl, trivial⟩) N7 ?mem ?lt ?J
    case mem =>
      ktn_no "subs"
    case lt => omega
    case J => (refine' fun _ k9 => k9 (lt) (_) (k + 1) (_) (_) _ ?c0 ?c1; (case c0 => exact by rw [et]; exact intsAre_snoc hv); (case c1 => exact hlt))
  · have hj9 : j = ks.length := by omega
    subst hj9
    (repeat' ((fail_if_success (ktn_no "stop")); first | (k_unfold; (try dsimp only)) | walk1 | (dsimp only; walk1)))
    rename KeepB _ _ _ => kg0
    rename News _ _ _ _ => N8
    refine back_intro (by assumption) fun f k => hret _ _ _ f k ⟨_, _, _, _, _, rfl, (N8.get (by k_mem)), N8.get (by k_mem), by rw [List.take_length] at hv; exact hv, (made kg0 N8 (by k_mem)).2, (made kg0 N8 (by k_mem)).2⟩
end
/-! ## NCT12 -/
section
local macro_rules | `(tactic| ktn_no "ep?") => `(tactic| skip)
set_option maxHeartbeats 4000000 in
theorem ct_getfix {w : World} {mean mg mb} {ns : List Int} {i x : Int} {t u u2 : Tok} (hi0 : 0 ≤ i) (hi1 : i < ns.length) (hz : ns.length ≤ 100) (hx : ns[i.toNat]? = some x) (hx0 : 0 ≤ x) (hx1 : x < 128) : Tell w mean mg mb 178 2 [.bytes (byteArr ns) t, .int i u, .int 1 u2] [] (fun _ => True) (fun h r h' => IsI r x) := by
  revert w mean mg mb ns i x t u u2 hi0 hi1 hz hx hx0 hx1
  ((refine @all8 _ _ _ _ _ _ _ _ (by ktn_no "ne") (by ktn_no "ne") (by ktn_no "ne") (by ktn_no "ne") (by ktn_no "ne") (by ktn_no "ne") (by ktn_no "ne") (by ktn_no "ne") _ ?_; generalize E8a _ _ _ _ _ _ _ _ _ = w, E8b _ _ _ _ _ _ _ _ _ = mean, E8c _ _ _ _ _ _ _ _ _ = mg, E8d _ _ _ _ _ _ _ _ _ = mb, E8e _ _ _ _ _ _ _ _ _ = ns, E8f _ _ _ _ _ _ _ _ _ = i, E8g _ _ _ _ _ _ _ _ _ = x, E8h _ _ _ _ _ _ _ _ _ = t); (refine @all2 _ _ (by ktn_no "ne") (by ktn_no "ne") _ ?_; generalize E2a _ _ _ = u, E2b _ _ _ = u2; intro hi0 hi1 hz hx hx0 hx1))
  (refine tell_in _ _ _ _ _ _ _ _ _ _ ?_; k_fill; generalize TX.dp (tx _ _ _ _ _ _ _ _ _ _) = dp, TX.un (tx _ _ _ _ _ _ _ _ _ _) = un, TX.gd (tx _ _ _ _ _ _ _ _ _ _) = gd, TX.cn (tx _ _ _ _ _ _ _ _ _ _) = cn, TX.cs (tx _ _ _ _ _ _ _ _ _ _) = cs, TX.a (tx _ _ _ _ _ _ _ _ _ _) = a, TX.ccd (tx _ _ _ _ _ _ _ _ _ _) = ccd, TX.cl (tx _ _ _ _ _ _ _ _ _ _) = cl, TX.outer (tx _ _ _ _ _ _ _ _ _ _) = outer, TX.A₀ (tx _ _ _ _ _ _ _ _ _ _) = A₀, TX.base (tx _ _ _ _ _ _ _ _ _ _) = base, TX.h₀ (tx _ _ _ _ _ _ _ _ _ _) = h₀, TX.L (tx _ _ _ _ _ _ _ _ _ _) = L, TX.m (tx _ _ _ _ _ _ _ _ _ _) = m, TX.s (tx _ _ _ _ _ _ _ _ _ _) = s, TX.Q (tx _ _ _ _ _ _ _ _ _ _) = Q, TX.E (tx _ _ _ _ _ _ _ _ _ _) = E; intro B F X N T hk hpre hd hu hret)
  ktr_enter
  (repeat' (first | ((with_reducible show wpAny _ _ (pyIter _) _ _ _); ((rename Fr _ _ _ _ => lF'); (rename News _ _ _ _ => lN'); (rename IsRange _ _ _ _ _ _ _ _ => rgX); (with_unfolding_all refine iter_rangeUnr (n := 1) (by rfl) rgX (rsmall1 (by omega) (by omega)) (rsize1 _) lF' lN' ?_); clear lF' lN'; intro i' l1; (try k_lt l1))) | ((with_reducible show wpAny _ _ (binaryOp Operator.BitOr (Value.int _ _) (Value.int _ _)) _ _ _); with_reducible refine or_zero (by omega) ?_) | ((with_reducible show wpAny _ _ (binaryOp Operator.LShift (Value.int _ _) (Value.int _ _)) _ _ _); with_reducible refine shl_zero (by omega) (by omega) ?_) | ((with_reducible show wpAny _ _ (binaryOp Operator.Pow (Value.int _ _) (Value.int _ _)) _ _ _); refine' pow_lit (by decide) (by decide) (by decide) (by (simp only [Int.reduceToNat, Int.reducePow]; rfl)) ?_) | ((with_reducible show wpAny _ _ (subscriptTail _ _ (Value.bytes (byteArr _) _) (Value.int _ _)) _ _ _); k_dflt (refine' item_ba (by first | assumption | omega | (simp; done)) (by omega) (by first | assumption | (simp only [Int.ofNat_zero, Int.natCast_zero, Int.cast_ofNat_Int, Int.add_zero]; assumption) | (simp; done)) (by omega) (by omega) ?_)) | (k_unfold; (try dsimp only)) | walk1 | (dsimp only; walk1)))
  all_goals first | exact back_intro (by assumption) fun f k => hret _ _ _ f k (isI rfl)
end
/-! ## NCT11 -/
section
local macro_rules | `(tactic| ktn_no "ep?") => `(tactic| skip)
def sizeOf : Val → Int
  | none => 0
  | some i => if i = 0 then 0 else if i = 1 then 0 else 1
set_option maxHeartbeats 4000000 in
theorem ct_ssize {w : World} {mean mg mb} {d : Val} {k : Int} {tk0 : Tok} (hs : Small d) (hk0 : k = kindOf d) {z : Int} (hz0 : z = sizeOf d) : Tell w mean mg mb 199 4 [.int k tk0] [] (fun _ => True) (fun _ r _ => IsI r z) := by
  revert w mean mg mb d k tk0 hs hk0 z hz0
  ((refine @all7 _ _ _ _ _ _ _ (by ktn_no "ne") (by ktn_no "ne") (by ktn_no "ne") (by ktn_no "ne") (by ktn_no "ne") (by ktn_no "ne") (by ktn_no "ne") _ ?_; generalize E7a _ _ _ _ _ _ _ _ = w, E7b _ _ _ _ _ _ _ _ = mean, E7c _ _ _ _ _ _ _ _ = mg, E7d _ _ _ _ _ _ _ _ = mb, E7e _ _ _ _ _ _ _ _ = d, E7f _ _ _ _ _ _ _ _ = k, E7g _ _ _ _ _ _ _ _ = tk0; intro hs hk0); (refine @all1 _ (by ktn_no "ne") _ ?_; generalize E1a _ _ = z; intro hz0))
  (refine tell_in _ _ _ _ _ _ _ _ _ _ ?_; k_fill; generalize TX.dp (tx _ _ _ _ _ _ _ _ _ _) = dp, TX.un (tx _ _ _ _ _ _ _ _ _ _) = un, TX.gd (tx _ _ _ _ _ _ _ _ _ _) = gd, TX.cn (tx _ _ _ _ _ _ _ _ _ _) = cn, TX.cs (tx _ _ _ _ _ _ _ _ _ _) = cs, TX.a (tx _ _ _ _ _ _ _ _ _ _) = a, TX.ccd (tx _ _ _ _ _ _ _ _ _ _) = ccd, TX.cl (tx _ _ _ _ _ _ _ _ _ _) = cl, TX.outer (tx _ _ _ _ _ _ _ _ _ _) = outer, TX.A₀ (tx _ _ _ _ _ _ _ _ _ _) = A₀, TX.base (tx _ _ _ _ _ _ _ _ _ _) = base, TX.h₀ (tx _ _ _ _ _ _ _ _ _ _) = h₀, TX.L (tx _ _ _ _ _ _ _ _ _ _) = L, TX.m (tx _ _ _ _ _ _ _ _ _ _) = m, TX.s (tx _ _ _ _ _ _ _ _ _ _) = s, TX.Q (tx _ _ _ _ _ _ _ _ _ _) = Q, TX.E (tx _ _ _ _ _ _ _ _ _ _) = E; intro B F X N T hk hpre hd hu hret)
  cases d with
  | none =>
    have e : k = 0 := hk0
    subst e
    ktr_enter
    (repeat' (first | (k_unfold; (try dsimp only)) | walk1 | (dsimp only; walk1)))
    all_goals first | exact back_intro (by assumption) fun f k => hret _ _ _ f k (isI hz0.symm)
  | some i =>
    (refine cur2 ?_ (hs); intro hi0 hi1)
    by_cases e0 : i = 0
    · subst e0
      have e : k = 8 := hk0
      subst e
      ktr_enter
      (repeat' (first | (k_unfold; (try dsimp only)) | walk1 | (dsimp only; walk1)))
      all_goals first | exact back_intro (by assumption) fun f k => hret _ _ _ f k (isI hz0.symm)
    · by_cases e1 : i = 1
      · subst e1
        have e : k = 9 := hk0
        subst e
        ktr_enter
        (repeat' (first | (k_unfold; (try dsimp only)) | walk1 | (dsimp only; walk1)))
        all_goals first | exact back_intro (by assumption) fun f k => hret _ _ _ f k (isI hz0.symm)
      · have e : k = 1 := by rw [hk0]; simp [kindOf, e0, e1]
        subst e
        ktr_enter
        (repeat' (first | (k_unfold; (try dsimp only)) | walk1 | (dsimp only; walk1)))
        all_goals first | exact back_intro (by assumption) fun f k => hret _ _ _ f k (isI (by rw [hz0]; simp only [sizeOf, e0, e1, if_false]))
end
/-! ## NCT13 -/
section
local macro_rules | `(tactic| ktn_no "ep?") => `(tactic| skip)
set_option maxHeartbeats 4000000 in
theorem ct_vof {w : World} {mean mg mb} {ns : List Int} {i : Int} {t u : Tok} {d : Val} {k : Int} {tk0 : Tok} (hs : Small d) (hk0 : k = kindOf d) (hi0 : 0 ≤ i) (hi1 : i + sizeOf d ≤ ns.length) (hz : ns.length ≤ 100) (hx : ∀ x, d = some x → x ≠ 0 → x ≠ 1 → ns[i.toNat]? = some x) : Tell w mean mg mb 213 6 [.bytes (byteArr ns) t, .int i u, .int k tk0] [] (fun _ => True) (fun h r h' => IsVal r d) := by
  revert w mean mg mb ns i t u d k tk0 hs hk0 hi0 hi1 hz hx
  ((refine @all8 _ _ _ _ _ _ _ _ (by ktn_no "ne") (by ktn_no "ne") (by ktn_no "ne") (by ktn_no "ne") (by ktn_no "ne") (by ktn_no "ne") (by ktn_no "ne") (by ktn_no "ne") _ ?_; generalize E8a _ _ _ _ _ _ _ _ _ = w, E8b _ _ _ _ _ _ _ _ _ = mean, E8c _ _ _ _ _ _ _ _ _ = mg, E8d _ _ _ _ _ _ _ _ _ = mb, E8e _ _ _ _ _ _ _ _ _ = ns, E8f _ _ _ _ _ _ _ _ _ = i, E8g _ _ _ _ _ _ _ _ _ = t, E8h _ _ _ _ _ _ _ _ _ = u); (refine @all3 _ _ _ (by ktn_no "ne") (by ktn_no "ne") (by ktn_no "ne") _ ?_; generalize E3a _ _ _ _ = d, E3b _ _ _ _ = k, E3c _ _ _ _ = tk0; intro hs hk0 hi0 hi1 hz hx))
  (refine tell_in _ _ _ _ _ _ _ _ _ _ ?_; k_fill; generalize TX.dp (tx _ _ _ _ _ _ _ _ _ _) = dp, TX.un (tx _ _ _ _ _ _ _ _ _ _) = un, TX.gd (tx _ _ _ _ _ _ _ _ _ _) = gd, TX.cn (tx _ _ _ _ _ _ _ _ _ _) = cn, TX.cs (tx _ _ _ _ _ _ _ _ _ _) = cs, TX.a (tx _ _ _ _ _ _ _ _ _ _) = a, TX.ccd (tx _ _ _ _ _ _ _ _ _ _) = ccd, TX.cl (tx _ _ _ _ _ _ _ _ _ _) = cl, TX.outer (tx _ _ _ _ _ _ _ _ _ _) = outer, TX.A₀ (tx _ _ _ _ _ _ _ _ _ _) = A₀, TX.base (tx _ _ _ _ _ _ _ _ _ _) = base, TX.h₀ (tx _ _ _ _ _ _ _ _ _ _) = h₀, TX.L (tx _ _ _ _ _ _ _ _ _ _) = L, TX.m (tx _ _ _ _ _ _ _ _ _ _) = m, TX.s (tx _ _ _ _ _ _ _ _ _ _) = s, TX.Q (tx _ _ _ _ _ _ _ _ _ _) = Q, TX.E (tx _ _ _ _ _ _ _ _ _ _) = E; intro B F X N T hk hpre hd hu hret)
  cases d with
  | none =>
    have e : (0 : Int) = kindOf none := rfl
    have e2 : (0 : Int) = sizeOf none := rfl
    have hk1 : k = 0 := hk0
    subst hk1
    (have z99 := hi1; rw [← e2] at z99; clear hi1; have hi1 := z99; clear z99)
    ktr_enter
    (repeat' (first | ((with_reducible show wpAny _ _ (PySem.call (Value.ref 199) _) _ _ _); k_dflt (refine useT (hp := by trivial) (C := ct_ssize (by assumption) (by assumption) (by assumption)) (ret := ?_)); ((refine all3 ?_; ktn_no "g3"; intro _ _)); ktn_no "aft") | (k_unfold; (try dsimp only)) | walk1 | (dsimp only; walk1)))
    all_goals first | exact back_intro (by assumption) fun f k => hret _ _ _ f k isValN
  | some x =>
    have hs0 := hs
    (refine cur2 ?_ (hs0); intro hx0 hx1)
    by_cases e0 : x = 0
    · subst e0
      have e : (8 : Int) = kindOf (some 0) := rfl
      have e2 : (0 : Int) = sizeOf (some 0) := rfl
      have hk1 : k = 8 := hk0
      subst hk1
      (have z99 := hi1; rw [← e2] at z99; clear hi1; have hi1 := z99; clear z99)
      ktr_enter
      (repeat' (first | ((with_reducible show wpAny _ _ (PySem.call (Value.ref 199) _) _ _ _); k_dflt (refine useT (hp := by trivial) (C := ct_ssize (by assumption) (by assumption) (by assumption)) (ret := ?_)); ((refine all3 ?_; ktn_no "g3"; intro _ _)); ktn_no "aft") | (k_unfold; (try dsimp only)) | walk1 | (dsimp only; walk1)))
      all_goals first | exact back_intro (by assumption) fun f k => hret _ _ _ f k isValI
    · by_cases e1 : x = 1
      · subst e1
        have e : (9 : Int) = kindOf (some 1) := rfl
        have e2 : (0 : Int) = sizeOf (some 1) := rfl
        have hk1 : k = 9 := hk0
        subst hk1
        (have z99 := hi1; rw [← e2] at z99; clear hi1; have hi1 := z99; clear z99)
        ktr_enter
        (repeat' (first | ((with_reducible show wpAny _ _ (PySem.call (Value.ref 199) _) _ _ _); k_dflt (refine useT (hp := by trivial) (C := ct_ssize (by assumption) (by assumption) (by assumption)) (ret := ?_)); ((refine all3 ?_; ktn_no "g3"; intro _ _)); ktn_no "aft") | (k_unfold; (try dsimp only)) | walk1 | (dsimp only; walk1)))
        all_goals first | exact back_intro (by assumption) fun f k => hret _ _ _ f k isValI
      · have e : (1 : Int) = kindOf (some x) := by simp [kindOf, e0, e1]
        have e2 : (1 : Int) = sizeOf (some x) := by simp [sizeOf, e0, e1]
        have hx2 := hx x rfl e0 e1
        have hk1 : k = 1 := by rw [hk0, ← e]
        subst hk1
        (have z99 := hi1; rw [← e2] at z99; clear hi1; have hi1 := z99; clear z99)
        ktr_enter
        (repeat' (first | ((with_reducible show wpAny _ _ (PySem.call (Value.ref 178) _) _ _ _); k_dflt (refine useT (hp := by trivial) (C := ct_getfix (by omega) (by omega) (by omega) (by assumption) (by omega) (by omega)) (ret := ?_)); ((refine all3 ?_; ktn_no "g3"; intro _ _)); ktn_no "aft") | ((with_reducible show wpAny _ _ (PySem.call (Value.ref 199) _) _ _ _); k_dflt (refine useT (hp := by trivial) (C := ct_ssize (by assumption) (by assumption) (by assumption)) (ret := ?_)); ((refine all3 ?_; ktn_no "g3"; intro _ _)); ktn_no "aft") | (k_unfold; (try dsimp only)) | walk1 | (dsimp only; walk1)))
        all_goals first | exact back_intro (by assumption) fun f k => hret _ _ _ f k isValI
end
/-! ## NEN -/
section
theorem sizeOf_len (d : Val) : sizeOf d = ((bodyOf d).length : Int) := by
  cases d with
  | none => rfl
  | some i =>
    simp only [sizeOf, bodyOf]
    by_cases h0 : i = 0
    · simp [h0]
    · by_cases h1 : i = 1
      · simp [h1]
      · simp [h0, h1]
theorem enc_len (ds : List Val) : (enc ds).length = 1 + ds.length + (ds.flatMap bodyOf).length := by
  simp only [enc, List.length_append, List.length_map, List.length_cons, List.length_nil] <;> omega
theorem enc_head (ds : List Val) : (enc ds)[0]? = some ((ds.length : Int) + 1) := rfl
theorem enc_kind {ds : List Val} {j : Nat} {d : Val} (h : ds[j]? = some d) : (enc ds)[j + 1]? = some (kindOf d) := by
  have hj : j < ds.length := (List.getElem?_eq_some_iff.mp h).1
  unfold enc
  rw [List.append_assoc, List.getElem?_append_right (by simp)]
  rw [List.getElem?_append_left (by simp only [List.length_map, List.length_cons, List.length_nil] <;> omega)]
  simp [h]
theorem enc_body {ds : List Val} {j : Nat} {x : Int} (h : ds[j]? = some (some x)) (h0 : x ≠ 0) (h1 : x ≠ 1) : (enc ds)[ds.length + 1 + ((ds.take j).flatMap bodyOf).length]? = some x := by
  have hj : j < ds.length := (List.getElem?_eq_some_iff.mp h).1
  have e : ds = ds.take j ++ some x :: ds.drop (j + 1) := by
    have h2 : ds[j] = some x := by rw [List.getElem?_eq_getElem hj] at h; exact Option.some.inj h
    rw [← h2, List.getElem_cons_drop, List.take_append_drop]
  unfold enc
  rw [List.getElem?_append_right (by simp only [List.length_append, List.length_map, List.length_cons, List.length_nil] <;> omega)]
  have e3 : ds.length + 1 + (List.flatMap bodyOf (List.take j ds)).length - ([(ds.length : Int) + 1] ++ List.map kindOf ds).length = (List.flatMap bodyOf (List.take j ds)).length := by
    simp only [List.length_append, List.length_map, List.length_cons, List.length_nil]; omega
  rw [e3]
  have e4 : ds.flatMap bodyOf = (ds.take j).flatMap bodyOf ++ ([x] ++ (ds.drop (j + 1)).flatMap bodyOf) := by
    conv => lhs; rw [e]
    rw [List.flatMap_append, List.flatMap_cons]
    have : bodyOf (some x) = [x] := by simp [bodyOf, h0, h1]
    rw [this]
  rw [e4, List.getElem?_append_right (Nat.le_refl _), Nat.sub_self]
  rfl
theorem valsAre_snoc : ∀ {vs : List Value} {ds : List Val} {v : Value} {d : Val}, ValsAre vs ds → IsVal v d → ValsAre (vs ++ [v]) (ds ++ [d])
  | [], [], _, _, _, h => ⟨h, trivial⟩
  | _ :: _, _ :: _, _, _, h, h' => ⟨h.1, valsAre_snoc h.2 h'⟩
end
/-! ## NCD2 -/
section
set_option maxHeartbeats 4000000 in
theorem ct_decode {w : World} {mean mg mb} {ds : List Val} {t : Tok} (hsm : ∀ d ∈ ds, Small d) (hlen : ds.length ≤ 40) : Tell w mean mg mb 241 8 [.bytes (byteArr (enc ds)) t] [] (fun _ => True) (fun h r h' => ∃ l vs n, r = .ref l ∧ h'.get? l = some (PySem.W.listOf (List.toArray vs) n) ∧ ValsAre vs ds ∧ h.get? l = none) := by
  unfold Tell
  k_fill
  intro dp un gd cn cs a ccd cl outer A₀ base h₀ L m s Q E B F X N T hk hpre hd hu hret
  have hb0 := bodies_len ds
  have hz := enc_len ds
  have hq2 : (enc ds)[0]? = some (((ds.map kindOf).length : Int) + 1) := by rw [List.length_map]; exact enc_head ds
  have hq3 : ∀ j k, (ds.map kindOf)[j]? = some k → (enc ds)[j + 1]? = some k ∧ 0 ≤ k ∧ k < 128 := fun j k hj => by
    rw [List.getElem?_map] at hj
    obtain ⟨d, hd, rfl⟩ := Option.map_eq_some_iff.mp hj
    exact ⟨enc_kind hd, kind_lo d, kind_hi d⟩
  have hml : (ds.map kindOf).length = ds.length := List.length_map ..
  ktr_enter
  (repeat' ((fail_if_success (ktn_no "stop")); (fail_if_success (with_reducible show wpAny _ _ (PySem.call (Value.ref 234) _) _ _ _)); first | (k_unfold; (try dsimp only)) | walk1 | (dsimp only; walk1)))
  k_dflt (refine' tell_use0 (ct_headof (ks := ds.map kindOf) ?q1 ?q2 ?q3 ?q4) ?k1 ?k2 ?k3 ?k4 ?k5 ?kK ?kp ?kd ?ku ?_; (case k1 => k_asm); (case k2 => k_asm); (case k3 => k_asm); (case k4 => k_asm); (case k5 => k_asm); (case kK => first | exact rfl | assumption); (case kp => trivial); (case q3 => assumption); (case q2 => assumption); (case q1 => omega); (case q4 => omega); (case kd => ktr_room); (case ku => ktr_units))
  intro r9 h9 tk9 F9 N9 K9 R9
  refine hide fun G99 hG99 => ?_
  obtain ⟨l9, lt, vs, t9, n9, rfl, o9, p9, hi9, f9, g9⟩ := R9
  refine hG99 ?_
  clear hG99 G99
  have M8 := newOff (by assumption) f9
  have M9 := newOff (by assumption) g9
  have N10 := news_new (by assumption) (news_new (by assumption) N9 p9 g9) o9 f9
  clear N9 K9
  dsimp only [List.map] at M8 M9
  try k_sweep
  try dsimp only
  (repeat' ((fail_if_success (ktn_no "stop")); (fail_if_success (with_reducible show wpAny _ _ (PySem.call (Value.ref 234) _) _ _ _)); first | (k_unfold; (try dsimp only)) | walk1 | (dsimp only; walk1)))
  refine forA ?_
  (repeat' ((fail_if_success (ktn_no "stop")); (fail_if_success (with_reducible show wpAny _ _ (PySem.call (Value.ref 234) _) _ _ _)); first | (k_unfold; (try dsimp only)) | walk1 | (dsimp only; walk1)))
  rename Fr _ _ _ _ => F1
  rename News _ _ _ _ => N1
  have hvl : vs.length = ds.length := by rw [hi9.length, hml]
  refine iterAS (fun i k9 => ∀ lv ws k ta (m : Str → Option Value), (ValsAre ws (ds.take i)) → (lv ≠ lt) → k9 (over [(Str.ofString "octets", (.bytes (byteArr (enc ds)) t)), (Str.ofString "at", (.int ((ds.length : Int) + 1 + (((ds.take i).flatMap bodyOf).length : Int)) ta)), (Str.ofString "values", (.ref lv))] m) [(lv, PySem.W.listOf (List.toArray ws) k), (lt, PySem.W.listOf (List.toArray vs) n9)]) rfl (News.isList N1 (by news_mem))
    (.inr fun i _ _ _ _ _ _ _ => ⟨_, .tail _ (.head _), rfl, _, rfl⟩) (fr_over' (es := [(Str.ofString "octets", _), (Str.ofString "at", .int ((ds.length : Int) + 1 + (((ds.take 0).flatMap bodyOf).length : Int)) _), (Str.ofString "values", _)]) F1 ⟨rfl, by rw [List.length_map]; rfl, rfl, trivial⟩) (fun p hp => N1 p (by simp only [List.mem_cons, List.not_mem_nil, or_false] at hp ⊢; grind)) (fun _ k9 => k9 (_) ([]) (0) (_) _ trivial ((by k_ne))) ?_ ?_
  · intro i v hv lv ws k ta m₁ hws hne h9 tk I o F6 N5 hI
    clear F1 N1
    have hvi : i < ds.length := by have := (List.getElem?_eq_some_iff.mp hv).1; omega
    obtain ⟨d, hd9⟩ : ∃ d, ds[i]? = some d := ⟨ds[i], List.getElem?_eq_getElem hvi⟩
    obtain ⟨tv, hvx⟩ := hi9.get i (kindOf d) (by rw [List.getElem?_map, hd9]; rfl)
    have hvv : v = .int (kindOf d) tv := by rw [hv] at hvx; exact Option.some.inj hvx
    subst hvv
    have hsd := hsm d (List.mem_of_getElem? hd9)
    have hkd : kindOf d = kindOf d := rfl
    have n1 : @Ne Nat lv I := hI _ (.head _)
    have n2 : @Ne Nat lt I := hI _ (.tail _ (.head _))
    have n3 : @Ne Nat lv lt := hne
    have et : ds.take (i + 1) = ds.take i ++ [d] := by rw [List.take_add_one, hd9]; rfl
    have hsz := sizeOf_len d
    have hwl : ws.length ≤ 100 := by have h1 := ValsAre.length hws; have h2 := List.length_take_le i ds; omega
    have hbl : (ds.take i).flatMap bodyOf = (ds.take i).flatMap bodyOf := rfl
    have hpos : ((ds.take i).flatMap bodyOf).length + (bodyOf d).length ≤ (ds.flatMap bodyOf).length := by
      have e : ds = ds.take (i + 1) ++ ds.drop (i + 1) := (List.take_append_drop ..).symm
      conv => rhs; rw [e]
      rw [List.flatMap_append, et, List.flatMap_append, List.flatMap_singleton, List.length_append, List.length_append]
      omega
    have hx6 : ∀ x, d = some x → x ≠ 0 → x ≠ 1 → (enc ds)[((ds.length : Int) + 1 + (((ds.take i).flatMap bodyOf).length : Int)).toNat]? = some x := fun x hx h0 h1 => by
      subst hx
      rw [show ((ds.length : Int) + 1 + (((ds.take i).flatMap bodyOf).length : Int)).toNat = ds.length + 1 + ((ds.take i).flatMap bodyOf).length by omega]
      exact enc_body hd9 h0 h1
    generalize hB : ((ds.take i).flatMap bodyOf).length = B9 at *
    refine wpAny_assign_Name ?_
    (repeat' ((fail_if_success (ktn_no "stop")); (fail_if_success (with_reducible show wpAny _ _ (PySem.call (Value.ref 234) _) _ _ _)); first | ((with_reducible show wpAny _ _ (PySem.call (Value.ref 199) _) _ _ _); k_dflt (refine useT (hp := by trivial) (C := ct_ssize (by assumption) (by assumption) (by exact rfl)) (ret := ?_)); intros; ktn_no "aft") | ((with_reducible show wpAny _ _ (PySem.call (Value.ref 213) _) _ _ _); k_dflt (refine useR (hp := by trivial) (C := ct_vof (by assumption) (by assumption) (by omega) (by omega) (by omega) (by assumption)) (ret := ?_)); intros; ktn_no "aft") | (k_unfold; (try dsimp only)) | walk1 | (dsimp only; walk1)))
    rename Fr _ _ _ _ => F7
    rename News _ _ _ _ => N7
    rename IsVal _ _ => hv7
    try dsimp only
    simp only [List.push_toArray] at N7
    have hB' : ((ds.length : Int) + 1 + (((ds.take (i + 1)).flatMap bodyOf).length : Int)) = (ds.length : Int) + 1 + (B9 : Int) + sizeOf d := by
      rw [et, List.flatMap_append, List.flatMap_singleton, List.length_append, hB, hsz]; omega
    refine' Turned.next [(lv, PySem.W.listOf (List.toArray (ws ++ [_])) (k + 1)), (lt, PySem.W.listOf (List.toArray vs) n9)] (fr_over' (es := [(Str.ofString "octets", _), (Str.ofString "at", .int ((ds.length : Int) + 1 + (((ds.take (i + 1)).flatMap bodyOf).length : Int)) _), (Str.ofString "values", _)]) F7 ⟨rfl, by rw [hB']; rfl, rfl, trivial⟩) N7 ?mI ?mem ?ne ?J
    case mI => k_mem
    case mem =>
      ktn_no "subs"
    case ne =>
      k_all
    case J => (refine' fun _ k9 => k9 (lv) (_) (k + 1) (_) _ ?c0 ?c1; (case c0 => exact by rw [et]; exact valsAre_snoc hws hv7); (case c1 => exact hne))
  · intro lv ws k ta m₁ hws hne h9 tk F6 N5
    clear F1 N1
    rw [hvl, List.take_length] at F6 hws
    (repeat' ((fail_if_success (ktn_no "stop")); (fail_if_success (with_reducible show wpAny _ _ (PySem.call (Value.ref 234) _) _ _ _)); first | (k_unfold; (try dsimp only)) | walk1 | (dsimp only; walk1)))
    rename KeepB _ _ _ => kg0
    rename News _ _ _ _ => N8
    exact back_intro (by assumption) fun f k => hret _ _ _ f k ⟨_, _, _, rfl, N8.get (by k_mem), hws, (made kg0 N8 (by k_mem)).2⟩
end
/-! ## NCP1 -/
section
def Keyed (v : Value) (ks : List Val) : Prop := IsB v (enc ks)
def RecsAre : List Value → List (List Val) → Prop
  | [], [] => True
  | v :: vs, d :: ds => IsB v (enc d) ∧ RecsAre vs ds
  | _, _ => False
theorem RecsAre.length : ∀ {vs : List Value} {ds : List (List Val)}, RecsAre vs ds → vs.length = ds.length
  | [], [], _ => rfl
  | _ :: _, _ :: _, h => by rw [List.length_cons, List.length_cons, RecsAre.length h.2]
theorem RecsAre.at : ∀ {vs : List Value} {ds : List (List Val)}, RecsAre vs ds → ∀ {i : Nat} {d : List Val}, ds[i]? = some d → ∃ v, vs[i]? = some v ∧ IsB v (enc d)
  | [], [], _, _, _, e => by simp at e
  | v :: _, _ :: _, h, 0, d, e => by cases e; exact ⟨v, rfl, h.1⟩
  | _ :: _, _ :: _, h, i + 1, v, e => by
    obtain ⟨d, hd, hv⟩ := RecsAre.at h.2 (i := i) (d := v) (by simpa using e)
    exact ⟨d, by simpa using hd, hv⟩
/-- the entries of a cursor -/
abbrev curD (w : World) (t1 t2 t3 t4 : Tok) (li lr : Addr) (pv : Value) : Obj := dictOf [entW w "info" t1 (.ref li), entW w "records" t2 (.ref lr), entW w "place" t3 pv, entW w "gone" t4 .none] 4
def IsCur (w : World) (h : Heap) (x li lr : Addr) (pv : Value) : Prop := ∃ dx t1 t2 t3 t4, h.get? x = some (instObj 467 dx) ∧ h.get? dx = some (curD w t1 t2 t3 t4 li lr pv)
theorem cur_out {G : Prop} {w : World} {h : Heap} {x li lr : Addr} {pv : Value} (I : IsCur w h x li lr pv) (k : ∀ dx t1 t2 t3 t4, h.get? x = some (instObj 467 dx) → h.get? dx = some (curD w t1 t2 t3 t4 li lr pv) → G) : G :=
  let ⟨dx, t1, t2, t3, t4, a, b⟩ := I; k dx t1 t2 t3 t4 a b
theorem isCur_keep {w : World} {h h' : Heap} {x li lr : Addr} {pv : Value} (I : IsCur w h x li lr pv) (hk : ∀ b o, h.get? b = some o → h'.get? b = some o) : IsCur w h' x li lr pv := by
  refine hide fun G99 hG99 => ?_
  obtain ⟨dx, t1, t2, t3, t4, i1, i2⟩ := I
  refine hG99 ?_
  clear hG99 G99
  exact ⟨dx, t1, t2, t3, t4, hk _ _ i1, hk _ _ i2⟩
set_option maxHeartbeats 4000000 in
theorem ct_cmpat {w : World} {mean mg mb} {x li lr lv : Addr} {pv : Value} {i : Nat} {t : Tok} {recs us : List Value} {kss : List (List Val)} {ds es : List Val} {bs : List Bool} (hr1 : RecsAre recs kss) (hi1 : kss[i]? = some ds) (hsm : ∀ d ∈ ds, Small d) (hd1 : ds.length ≤ 40) (hu1 : ValsAre us es) (he1 : es.length ≤ 40) (hb : bs.length ≤ 40) (hl1 : kss.length ≤ 100) : Tell w mean mg mb 345 10 [.ref x, .int i t, .ref lv] [] (fun h => IsCur w h x li lr pv ∧ h.IsList lr (List.toArray recs) ∧ IsInfo w h li bs ∧ h.IsList lv (List.toArray us)) (fun _ r _ => IsI r (cmpK bs ds es)) := by
  unfold Tell
  k_fill
  intro dp un gd cn cs a ccd cl outer A₀ base h₀ L m s Q E B F X N T hk hpre hd hu hret
  refine hide fun G99 hG99 => ?_
  obtain ⟨p1, p2, p3, p4⟩ := hpre
  refine hG99 ?_
  clear hG99 G99
  have hvl := RecsAre.length hr1
  have hul := ValsAre.length hu1
  have hil : i < kss.length := (List.getElem?_eq_some_iff.mp hi1).1
  obtain ⟨v, hv, hvb⟩ := RecsAre.at hr1 hi1
  obtain ⟨tv, rfl⟩ := hvb
  have hv9 : recs[((i : Nat) : Int).toNat]? = some (.bytes (byteArr (enc ds)) tv) := hv
  ktr_enter
  rename KeepB _ _ _ => kg0
  have Ii := isInfo_keep p3 fun b o e => kg0 b o e (by simp)
  have Il := isList_base kg0 p2
  have Iv := isList_base kg0 p4
  refine cur_out p1 fun dx t1 t2 t3 t4 i1 i2 => ?_
  have Ix := inst_base kg0 (inst_of i1 i2)
  (repeat' ((fail_if_success (ktn_no "stop")); first | ((with_reducible show wpAny _ _ (PySem.call (Value.ref 298) _) _ _ _); k_dflt (refine useT (hp := by exact ⟨by ktn_no "b_list", by ktn_no "b_list", isInfo_keep (by assumption) (Fr.keep (by assumption))⟩) (C := ct_cmpk (by assumption) (by assumption) (by omega) (by omega) (by omega) (by omega)) (ret := ?_)); intros; ktn_no "aft") | ((with_reducible show wpAny _ _ (PySem.call (Value.ref 241) _) _ _ _); k_dflt (refine useL (hp := by trivial) (C := ct_decode (by assumption) (by omega)) (ret := ?_)); intros; (rename Off _ _ => M9; dsimp only [List.map] at M9); ktn_no "aft") | (k_unfold; (try dsimp only)) | walk1 | (dsimp only; walk1)))
  all_goals exact back_intro (by assumption) fun f k => hret _ _ _ f k (isI rfl)
end
/-! ## NCP2 -/
section
local macro_rules | `(tactic| ktn_no "ep?") => `(tactic| skip)
/-- where place_of ends: all ahead are below, all from there on are not -/
def PlaceIs (bs : List Bool) (kss : List (List Val)) (es : List Val) (p : Nat) : Prop := p ≤ kss.length ∧ (∀ j ks, kss[j]? = some ks → j < p → cmpK bs ks es < 0) ∧ (∀ j ks, kss[j]? = some ks → p ≤ j → ¬ cmpK bs ks es < 0)
set_option maxHeartbeats 4000000 in
theorem ct_placeof {w : World} {mean mg mb} {x li lr lv : Addr} {pv : Value} {t : Tok} {recs us : List Value} {kss : List (List Val)} {es : List Val} {bs : List Bool} (hr1 : RecsAre recs kss) (hsm0 : ∀ ks ∈ kss, (∀ d ∈ ks, Small d) ∧ ks.length ≤ 40) (hu1 : ValsAre us es) (he1 : es.length ≤ 40) (hb : bs.length ≤ 40) (hl1 : kss.length ≤ 100)
    (hmono : ∀ (i j : Nat) (ki kj : List Val), i ≤ j → kss[i]? = some ki → kss[j]? = some kj → cmpK bs kj es < 0 → cmpK bs ki es < 0) : Tell w mean mg mb 352 13 [.ref x, .ref lv, .int 0 t] [] (fun h => IsCur w h x li lr pv ∧ h.IsList lr (List.toArray recs) ∧ IsInfo w h li bs ∧ h.IsList lv (List.toArray us)) (fun _ r _ => ∃ p : Nat, IsI r p ∧ PlaceIs bs kss es p) := by
  revert w mean mg mb x li lr lv pv t recs us kss es bs hr1 hsm0 hu1 he1 hb hl1 hmono
  ((refine @all8 _ _ _ _ _ _ _ _ (by ktn_no "ne") (by ktn_no "ne") (by ktn_no "ne") (by ktn_no "ne") (by ktn_no "ne") (by ktn_no "ne") (by ktn_no "ne") (by ktn_no "ne") _ ?_; generalize E8a _ _ _ _ _ _ _ _ _ = w, E8b _ _ _ _ _ _ _ _ _ = mean, E8c _ _ _ _ _ _ _ _ _ = mg, E8d _ _ _ _ _ _ _ _ _ = mb, E8e _ _ _ _ _ _ _ _ _ = x, E8f _ _ _ _ _ _ _ _ _ = li, E8g _ _ _ _ _ _ _ _ _ = lr, E8h _ _ _ _ _ _ _ _ _ = lv); (refine @all7 _ _ _ _ _ _ _ (by ktn_no "ne") (by ktn_no "ne") (by ktn_no "ne") (by ktn_no "ne") (by ktn_no "ne") (by ktn_no "ne") (by ktn_no "ne") _ ?_; generalize E7a _ _ _ _ _ _ _ _ = pv, E7b _ _ _ _ _ _ _ _ = t, E7c _ _ _ _ _ _ _ _ = recs, E7d _ _ _ _ _ _ _ _ = us, E7e _ _ _ _ _ _ _ _ = kss, E7f _ _ _ _ _ _ _ _ = es, E7g _ _ _ _ _ _ _ _ = bs; intro hr1 hsm0 hu1 he1 hb hl1 hmono))
  (refine tell_in _ _ _ _ _ _ _ _ _ _ ?_; k_fill; generalize TX.dp (tx _ _ _ _ _ _ _ _ _ _) = dp, TX.un (tx _ _ _ _ _ _ _ _ _ _) = un, TX.gd (tx _ _ _ _ _ _ _ _ _ _) = gd, TX.cn (tx _ _ _ _ _ _ _ _ _ _) = cn, TX.cs (tx _ _ _ _ _ _ _ _ _ _) = cs, TX.a (tx _ _ _ _ _ _ _ _ _ _) = a, TX.ccd (tx _ _ _ _ _ _ _ _ _ _) = ccd, TX.cl (tx _ _ _ _ _ _ _ _ _ _) = cl, TX.outer (tx _ _ _ _ _ _ _ _ _ _) = outer, TX.A₀ (tx _ _ _ _ _ _ _ _ _ _) = A₀, TX.base (tx _ _ _ _ _ _ _ _ _ _) = base, TX.h₀ (tx _ _ _ _ _ _ _ _ _ _) = h₀, TX.L (tx _ _ _ _ _ _ _ _ _ _) = L, TX.m (tx _ _ _ _ _ _ _ _ _ _) = m, TX.s (tx _ _ _ _ _ _ _ _ _ _) = s, TX.Q (tx _ _ _ _ _ _ _ _ _ _) = Q, TX.E (tx _ _ _ _ _ _ _ _ _ _) = E; intro B F X N T hk hpre hd hu hret)
  (refine cur4 ?_ (hpre); intro p1 p2 p3 p4)
  have hvl := RecsAre.length hr1
  have hul := ValsAre.length hu1
  ktr_enter
  rename KeepB _ _ _ => kg0
  have Ii := isInfo_keep p3 fun b o e => kg0 b o e (by simp)
  have Ic := isCur_keep p1 fun b o e => kg0 b o e (by simp)
  have Il := isList_base kg0 p2
  have Iv := isList_base kg0 p4
  refine cur_out p1 ?_
  ((refine all5 ?_; generalize E5a _ _ _ _ _ _ = dx, E5b _ _ _ _ _ _ = t1, E5c _ _ _ _ _ _ = t2, E5d _ _ _ _ _ _ = t3, E5e _ _ _ _ _ _ = t4; intro i1 i2))
  have Ix := inst_base kg0 (inst_of i1 i2)
  (repeat' ((fail_if_success (ktn_no "stop")); first | (k_unfold; (try dsimp only)) | walk1 | (dsimp only; walk1)))
  try dsimp only
  rename Fr _ _ _ _ => F1
  rename News _ _ _ _ => N1
  refine whileAS (σ := Nat × Nat) (fun q => q.2 - q.1) (fun q k9 => ∀ tl th (m : Str → Option Value), q.1 ≤ q.2 → q.2 ≤ kss.length → (∀ j ks, kss[j]? = some ks → j < q.1 → cmpK bs ks es < 0) → (∀ j ks, kss[j]? = some ks → q.2 ≤ j → ¬ cmpK bs ks es < 0) →
      k9 (over [(Str.ofString "self", .ref x), (Str.ofString "values", .ref lv), (Str.ofString "least", .int 0 t), (Str.ofString "low", .int (q.1 : Int) tl), (Str.ofString "high", .int (q.2 : Int) th)] m) []) (0, kss.length)
      (fr_over' (es := [(Str.ofString "self", _), (Str.ofString "values", _), (Str.ofString "least", _), (Str.ofString "low", _), (Str.ofString "high", .int (kss.length : Int) _)]) F1 ⟨rfl, rfl, rfl, rfl, by rw [← hvl]; rfl, trivial⟩) N1
    (fun _ k9 => k9 _ _ _ (Nat.zero_le _) (Nat.le_refl _) (fun _ _ _ h => absurd h (Nat.not_lt_zero _)) (fun j ks h1 h2 => absurd (List.getElem?_eq_some_iff.mp h1).1 (Nat.not_lt.mpr h2))) ?_
  clear F1 N1
  rintro E9 ⟨a, b⟩ tl th m₁ hab hbn hlo hhi h9 tk F6 N5
  dsimp only at F6 hab hbn hlo hhi
  by_cases hlt : a < b
  · have hmid : Int.fdiv ((a : Int) + (b : Int)) 2 = (((a + b) / 2 : Nat) : Int) := by rw [Int.fdiv_eq_ediv_of_nonneg _ (by decide)]; omega
    have hm1 : (a + b) / 2 < kss.length := by omega
    (refine ex1 ((⟨kss[(a + b) / 2], List.getElem?_eq_getElem hm1⟩ : ∃ ds, kss[(a + b) / 2]? = some ds)) ?_; generalize X1a _ _ = ds; intro hds)
    (generalize (hsm0 ds (List.mem_of_getElem? hds)).1 = hsm, (hsm0 ds (List.mem_of_getElem? hds)).2 = hdl)
    generalize hM : (a + b) / 2 = M at *
    by_cases hc : cmpK bs ds es < 0
    · (repeat' ((fail_if_success (ktn_no "stop")); first | (k_unfold; (try dsimp only)) | walk1 | (dsimp only; walk1)))
      rename Fr _ _ _ _ => F7
      simp only [hmid] at F7 ⊢
      (repeat' ((fail_if_success (ktn_no "stop")); first | ((with_reducible show wpAny _ _ (PySem.call (Value.ref 345) _) _ _ _); k_dflt (refine useT (hp := by exact ⟨isCur_keep (by assumption) (Fr.keep (by assumption)), by ktn_no "b_list", isInfo_keep (by assumption) (Fr.keep (by assumption)), by ktn_no "b_list"⟩) (C := ct_cmpat (by assumption) (by assumption) (by assumption) (by omega) (by assumption) (by omega) (by omega) (by omega)) (ret := ?_)); ((refine all3 ?_; ktn_no "g3"; intro _ _)); ktn_no "aft") | (k_unfold; (try dsimp only)) | walk1 | (dsimp only; walk1)))
      rename Fr _ _ _ _ => F8
      rename News _ _ _ _ => N8
      refine' TurnedW.next (M + 1, b) [] (fr_over' (es := [(Str.ofString "self", _), (Str.ofString "values", _), (Str.ofString "least", _), (Str.ofString "low", _), (Str.ofString "high", _)]) F8 ⟨rfl, rfl, rfl, rfl, rfl, trivial⟩) N8 ?mem ?lt ?J
      case mem => intro p hp; cases hp
      case lt => dsimp only; omega
      case J => (refine' fun _ k9 => k9 _ _ _ ?c0 ?c1 ?c2 ?c3; (case c0 => dsimp only; omega); (case c1 => dsimp only; omega); (case c2 => exact fun j ks h1 h2 => hmono j M ks ds (Nat.lt_succ_iff.mp h2) h1 hds hc); (case c3 => exact hhi))
    · (repeat' ((fail_if_success (ktn_no "stop")); first | (k_unfold; (try dsimp only)) | walk1 | (dsimp only; walk1)))
      rename Fr _ _ _ _ => F7
      simp only [hmid] at F7 ⊢
      (repeat' ((fail_if_success (ktn_no "stop")); first | ((with_reducible show wpAny _ _ (PySem.call (Value.ref 345) _) _ _ _); k_dflt (refine useT (hp := by exact ⟨isCur_keep (by assumption) (Fr.keep (by assumption)), by ktn_no "b_list", isInfo_keep (by assumption) (Fr.keep (by assumption)), by ktn_no "b_list"⟩) (C := ct_cmpat (by assumption) (by assumption) (by assumption) (by omega) (by assumption) (by omega) (by omega) (by omega)) (ret := ?_)); ((refine all3 ?_; ktn_no "g3"; intro _ _)); ktn_no "aft") | (k_unfold; (try dsimp only)) | walk1 | (dsimp only; walk1)))
      rename Fr _ _ _ _ => F8
      rename News _ _ _ _ => N8
      refine' TurnedW.next (a, M) [] (fr_over' (es := [(Str.ofString "self", _), (Str.ofString "values", _), (Str.ofString "least", _), (Str.ofString "low", _), (Str.ofString "high", _)]) F8 ⟨rfl, rfl, rfl, rfl, rfl, trivial⟩) N8 ?mem ?lt ?J
      case mem => intro p hp; cases hp
      case lt => dsimp only; omega
      case J => (refine' fun _ k9 => k9 _ _ _ ?c0 ?c1 ?c2 ?c3; (case c0 => dsimp only; omega); (case c1 => dsimp only; omega); (case c2 => exact hlo); (case c3 => exact fun j ks h1 h2 h3 => hc (hmono M j ds ks h2 hds h1 h3)))
  · have hj9 : a = b := by omega
    subst hj9
    (repeat' ((fail_if_success (ktn_no "stop")); first | (k_unfold; (try dsimp only)) | walk1 | (dsimp only; walk1)))
    exact back_intro (by assumption) fun f k => hret _ _ _ f k ⟨a, isI rfl, hbn, hlo, hhi⟩
section
variable {w : World} {f : Addr} {d : Nat} {vs : List Value} {pre : Heap → Prop} {dd : Addr} {o : Obj} {mean : ExcName → Option Value} {mg mb : Str → Option Value}
  {dp un : Nat} {gd : Option (List Code)} {cn : Str} {cs : Scope} {a : Addr} {ccd : Value} {cl : List (Str × Addr)} {outer : List Env} {A₀ : Around} {base h₀ : Heap} {L : Addr} {m : Str → Option Value} {news : List (Addr × Obj)} {s : Shared} {Q E : Value → Shared → Prop}
theorem use_place {bs : List Bool} {kss : List (List Val)} {es : List Val} (S : Site w mean mg mb dp un d cs outer A₀ base h₀ L m s news := by ktn_no "site") (hp : pre s.heap) (C : Tell w mean mg mb f d vs [] pre fun _ r _ => ∃ p : Nat, IsI r p ∧ PlaceIs bs kss es p)
    (ret : ∀ (p : Nat) t h' tk', Fr h₀ L h' m → News h₀ L h' news → PlaceIs bs kss es p → p ≤ kss.length → Q (.int p t) { s with heap := h', toks := tk' }) :
    wpAny (model PySem.Challenge.rw_nt0120_01.row.prog w) (ktrTop dp un gd cn cs L a ccd cl outer) (call (.ref f) vs) Q E s :=
  tell_use0 C S.B S.F S.X S.N S.T S.hk hp S.hd S.hu fun _ h' tk' F' N' _ ⟨p, ⟨t, e⟩, P⟩ => e ▸ ret p t h' tk' F' N' P P.1
theorem use_seek {bs : List Bool} {kss : List (List Val)} {es : List Val} {o' : Nat → Tok → Obj} {news' : Nat → Tok → List (Addr × Obj)} (S : Site w mean mg mb dp un d cs outer A₀ base h₀ L m s news := by ktn_no "site") (hm : (dd, o) ∈ news := by k_mem) (hp : pre s.heap)
    (C : Tell w mean mg mb f d vs [(dd, o)] pre fun _ r h' => ∃ p : Nat, PlaceIs bs kss es p ∧ r = .bool (decide ((p : Int) < (kss.length : Int))) ∧ ∃ t', h'.get? dd = some (o' p t')) (U : ∀ p t, Upd dd o (o' p t) news (news' p t))
    (ret : ∀ (p : Nat) t h' tk', Fr h₀ L h' m → News h₀ L h' (news' p t) → PlaceIs bs kss es p → p ≤ kss.length → Q (.bool (decide ((p : Int) < (kss.length : Int)))) { s with heap := h', toks := tk' }) :
    wpAny (model PySem.Challenge.rw_nt0120_01.row.prog w) (ktrTop dp un gd cn cs L a ccd cl outer) (call (.ref f) vs) Q E s :=
  tell_useD C S.B S.F S.X S.N S.T S.hk hm hp S.hd S.hu fun _ h' tk' N' F' K' ⟨p, P, e, t, g⟩ => e ▸ ret p t h' tk' F' (news_upd N' (U p t) K' g) P P.1
end
end
/-! ## NCP3 -/
section
local macro_rules | `(tactic| ktn_no "ep?") => `(tactic| skip)
section
variable {prog : Program} {w : World} {A : Around} {E : Value → Shared → Prop} {s : Shared} {h₀ : Heap} {L : Addr} {m : Str → Option Value} {news : List (Addr × Obj)}
/-- a slice of a list, of whatever stands ahead of the brackets -/
theorem slice_any {value slice : Expr} {l : Addr} {vs : List Value} {vl vu : Value} {lo hi : Option Int} {ops : List Value} {Q : Value → Shared → Prop}
    (F : Fr h₀ L s.heap m) (N : News h₀ L s.heap news) (hl : s.heap.IsList l vs.toArray) (pl : IsPart vl lo) (pu : IsPart vu hi)
    (h : ∀ D h', Fr h₀ L h' m → News h₀ L h' ((D, PySem.W.listOf (List.toArray (PySem.W.kms_pick vs lo hi)) 0) :: news) → (∀ p ∈ news, p.1 < D) → Q (.ref D) { s with heap := h' })
    (hs : subscripted slice false (.ref l) (.ref s.heap.objs.size) = operate ops (getItem (.ref l) (.ref s.heap.objs.size)))
    (hsz : vs.length ≤ 1000) :
    wpAny (model prog w) A (subscriptTail value slice (.ref l) (.ref s.heap.objs.size)) Q E { s with heap := s.heap.push { cls := .type "slice", data := .fields #[vl, vu, .none] } } := by
  refine tail_any (Heap.IsList.typeIs (s := { s with heap := s.heap.push { cls := .type "slice", data := .fields #[vl, vu, .none] } }) (hl.push _)) list_getitem_lookup
    (wpAny_getItem_list_slice (hl.push _) (Heap.IsSliceOf.new ..) pl pu .none (by simp) ?_ (by rw [List.size_toArray, sizeLine_eq]; omega)) hs
  have N1 := News.push (F.push { cls := .type "slice", data := .fields #[vl, vu, .none] }) (N.grown fun _ _ e => Heap.get?_push_of_some _ e) { cls := .type "list", data := .seq (slicePick vs.toArray lo hi none) }
  (have z99 := N1; rw [Heap.size_push] at z99; clear N1; have N1 := z99; clear z99)
  have e : slicePick vs.toArray lo hi none = (PySem.W.kms_pick vs lo hi).toArray := PySem.W.kms_pick_eq _ _ _
  rw [e] at N1 ⊢
  show Q (.ref (s.heap.push _).objs.size) _
  rw [Heap.size_push]
  refine h _ _ ((F.push _).push _) ?_ fun p hp => Nat.lt_succ_of_lt (Heap.lt_size (N p hp).1)
  exact N1
end
theorem pick_upto {vs : List Value} {n : Nat} : PySem.W.kms_pick vs none (some (n : Int)) = vs.take n := by
  unfold PySem.W.kms_pick
  have e1 : PySem.W.kms_lo none vs.length = 0 := rfl
  have e2 : PySem.W.kms_hi (some (n : Int)) vs.length = min n vs.length := by
    unfold PySem.W.kms_hi
    simp
    try omega
  rw [e1, e2, List.drop_zero, Nat.sub_zero]
  rw [← List.take_take, List.take_length]
end
local macro_rules | `(tactic| walk_at "subscriptTail") => `(tactic| ((with_reducible show wpAny _ _ (subscriptTail _ (PySem.Expr.Slice _ _ none _) (Value.ref _) (Value.ref _)) _ _ _); k_dflt (refine' slice_any (by k_asm) (by k_asm) (by ktn_no "b_list") (by kmk_part) (by kmk_part) ?_ (by with_unfolding_all rfl) (by omega)); (refine all2 ?_; generalize E2a _ _ _ = D', E2b _ _ _ = h'; intro F' N' l1); (try k_lt l1); (try k_sweep); (try simp only [pick_upto] at N')))
section
local macro_rules | `(tactic| ktn_no "ep?") => `(tactic| skip)
theorem two_objs {h : Heap} {a b : Addr} {o o' : Obj} (e1 : h.get? a = some o) (e2 : h.get? b = some o') (hne : o.cls ≠ o'.cls) : @Ne Nat a b := fun q => by
  have q' : a = b := q
  (have z99 := e1; rw [q', e2] at z99; clear e1; have e1 := z99; clear z99)
  cases e1
  exact hne rfl
theorem place_at {bs : List Bool} {kss : List (List Val)} {es : List Val} {p n : Nat} (h : PlaceIs bs kss es p) (e : n = kss.length) (hl : (p : Int) < (n : Int)) : ∃ ks, kss[p]? = some ks :=
  ⟨kss[p]'(by omega), List.getElem?_eq_getElem (by omega)⟩
theorem dict_list : Value.type "dict" ≠ Value.type "list" := by simp
theorem tuple_list : Value.type "tuple" ≠ Value.type "list" := by simp
theorem ins_are : ∀ {vs : List Value} {ds : List (List Val)} {p : Nat} {v : Value} {d : List Val}, RecsAre vs ds → IsB v (enc d) → p ≤ vs.length → RecsAre (PySem.W.kl_ins vs (p : Int) v) (ds.insertIdx p d) := by
  intro vs ds p v d h hv hp
  have e : PySem.W.kl_ins vs (p : Int) v = vs.take p ++ v :: vs.drop p := by
    unfold PySem.W.kl_ins
    have : (if (p : Int) < 0 then ((p : Int) + (vs.length : Int)).toNat else min (p : Int).toNat vs.length) = p := by
      rw [if_neg (by omega)]; omega
    rw [this]
  rw [e]
  clear e
  induction p generalizing vs ds with
  | zero => simpa [RecsAre] using ⟨hv, h⟩
  | succ p ih =>
    match vs, ds, h with
    | [], [], _ => simp at hp
    | x :: vs, y :: ds, h =>
      simp only [List.take_succ_cons, List.drop_succ_cons, List.cons_append, List.insertIdx_succ_cons]
      exact ⟨h.1, ih h.2 (by simpa using hp)⟩
set_option maxHeartbeats 4000000 in
theorem ct_insert {w : World} {mean mg mb} {x li lr : Addr} {tp tr : Tok} {n : Nat} {recs : List Value} {kss : List (List Val)} {ds : List Val} {bs : List Bool} (hr1 : RecsAre recs kss) (hsm0 : ∀ ks ∈ kss, (∀ d ∈ ks, Small d) ∧ ks.length ≤ 40) (hsm : ∀ d ∈ ds, Small d) (hd1 : ds.length ≤ bs.length) (hb : bs.length ≤ 40) (hl1 : kss.length ≤ 90)
    (hmono : ∀ (i j : Nat) (ki kj : List Val), i ≤ j → kss[i]? = some ki → kss[j]? = some kj → cmpK bs kj ds < 0 → cmpK bs ki ds < 0) (hne : ∀ ks ∈ kss, cmpK bs ks ds ≠ 0) : Tell w mean mg mb 359 17 [.ref x, .bytes (byteArr (enc ds)) tr] [(lr, PySem.W.listOf (List.toArray recs) n)] (fun h => IsCur w h x li lr (.int (-1) tp) ∧ IsInfo w h li bs) (fun _ r h' => r = .none ∧ ∃ p recs' n', PlaceIs bs kss ds p ∧ h'.get? lr = some (PySem.W.listOf (List.toArray recs') n') ∧ RecsAre recs' (kss.insertIdx p ds)) := by
  revert w mean mg mb x li lr tp tr n recs kss ds bs hr1 hsm0 hsm hd1 hb hl1 hmono hne
  ((refine @all8 _ _ _ _ _ _ _ _ (by ktn_no "ne") (by ktn_no "ne") (by ktn_no "ne") (by ktn_no "ne") (by ktn_no "ne") (by ktn_no "ne") (by ktn_no "ne") (by ktn_no "ne") _ ?_; generalize E8a _ _ _ _ _ _ _ _ _ = w, E8b _ _ _ _ _ _ _ _ _ = mean, E8c _ _ _ _ _ _ _ _ _ = mg, E8d _ _ _ _ _ _ _ _ _ = mb, E8e _ _ _ _ _ _ _ _ _ = x, E8f _ _ _ _ _ _ _ _ _ = li, E8g _ _ _ _ _ _ _ _ _ = lr, E8h _ _ _ _ _ _ _ _ _ = tp); (refine @all6 _ _ _ _ _ _ (by ktn_no "ne") (by ktn_no "ne") (by ktn_no "ne") (by ktn_no "ne") (by ktn_no "ne") (by ktn_no "ne") _ ?_; generalize E6a _ _ _ _ _ _ _ = tr, E6b _ _ _ _ _ _ _ = n, E6c _ _ _ _ _ _ _ = recs, E6d _ _ _ _ _ _ _ = kss, E6e _ _ _ _ _ _ _ = ds, E6f _ _ _ _ _ _ _ = bs; intro hr1 hsm0 hsm hd1 hb hl1 hmono hne))
  (refine tell_in _ _ _ _ _ _ _ _ _ _ ?_; k_fill; generalize TX.dp (tx _ _ _ _ _ _ _ _ _ _) = dp, TX.un (tx _ _ _ _ _ _ _ _ _ _) = un, TX.gd (tx _ _ _ _ _ _ _ _ _ _) = gd, TX.cn (tx _ _ _ _ _ _ _ _ _ _) = cn, TX.cs (tx _ _ _ _ _ _ _ _ _ _) = cs, TX.a (tx _ _ _ _ _ _ _ _ _ _) = a, TX.ccd (tx _ _ _ _ _ _ _ _ _ _) = ccd, TX.cl (tx _ _ _ _ _ _ _ _ _ _) = cl, TX.outer (tx _ _ _ _ _ _ _ _ _ _) = outer, TX.A₀ (tx _ _ _ _ _ _ _ _ _ _) = A₀, TX.base (tx _ _ _ _ _ _ _ _ _ _) = base, TX.h₀ (tx _ _ _ _ _ _ _ _ _ _) = h₀, TX.L (tx _ _ _ _ _ _ _ _ _ _) = L, TX.m (tx _ _ _ _ _ _ _ _ _ _) = m, TX.s (tx _ _ _ _ _ _ _ _ _ _) = s, TX.Q (tx _ _ _ _ _ _ _ _ _ _) = Q, TX.E (tx _ _ _ _ _ _ _ _ _ _) = E; intro B F X N T hk hpre hd hu hret)
  (refine cur2 ?_ (hpre); intro p1 p3)
  have p2 := (N _ (.head _)).1
  have hvl := RecsAre.length hr1
  refine cur_out p1 ?_
  ((refine all5 ?_; generalize E5a _ _ _ _ _ _ = dx, E5b _ _ _ _ _ _ = t1, E5c _ _ _ _ _ _ = t2, E5d _ _ _ _ _ _ = t3, E5e _ _ _ _ _ _ = t4; intro i1 i2))
  refine info_out p3 ?_
  ((refine all6 ?_; generalize E6a _ _ _ _ _ _ _ = dy, E6b _ _ _ _ _ _ _ = lc, E6c _ _ _ _ _ _ _ = ld, E6d _ _ _ _ _ _ _ = ti1, E6e _ _ _ _ _ _ _ = ti2, E6f _ _ _ _ _ _ _ = cs0; intro j1 j2 j3 j4 j5 j6))
  have n1 : @Ne Nat x lr := two_objs i1 p2 nofun
  have n2 : @Ne Nat dx lr := two_objs i2 p2 dict_list
  have n3 : @Ne Nat li lr := two_objs j1 p2 nofun
  have n4 : @Ne Nat dy lr := two_objs j2 p2 dict_list
  have n5 : @Ne Nat lc lr := let ⟨o, e, e2, _⟩ := j3; two_objs e p2 (by rw [e2]; exact tuple_list)
  have n6 : @Ne Nat ld lr := let ⟨o, e, e2, _⟩ := j6; two_objs e p2 (by rw [e2]; exact tuple_list)
  ktr_enter
  rename KeepB _ _ _ => kg0
  have kk : ∀ b o, s.heap.get? b = some o → @Ne Nat b lr → _ := fun b o e n => kg0 b o e (by simpa using n)
  have Ii : IsInfo w _ li bs := ⟨dy, lc, ld, ti1, ti2, cs0, kk _ _ j1 n3, kk _ _ j2 n4, (let ⟨o, e, r⟩ := j3; ⟨o, kk _ _ e n5, r⟩), j4, j5, (let ⟨o, e, r⟩ := j6; ⟨o, kk _ _ e n6, r⟩)⟩
  have Ic : IsCur w _ x li lr _ := ⟨dx, t1, t2, t3, t4, kk _ _ i1 n1, kk _ _ i2 n2⟩
  have Ix := inst_of (kk _ _ i1 n1) (kk _ _ i2 n2)
  have Iy := inst_of (kk _ _ j1 n3) (kk _ _ j2 n4)
  (repeat' ((fail_if_success (ktn_no "stop")); first | ((with_reducible show wpAny _ _ (PySem.call (Value.ref 269) _) _ _ _); k_dflt (refine useT (hp := by exact isInfo_keep (by assumption) (Fr.keep (by assumption))) (C := ct_count (by omega)) (ret := ?_)); ((refine all3 ?_; ktn_no "g3"; intro _ _)); ktn_no "aft") | ((with_reducible show wpAny _ _ (PySem.call (Value.ref 241) _) _ _ _); k_dflt (refine useL (hp := by trivial) (C := ct_decode (by assumption) (by omega)) (ret := ?_)); ((refine all5 ?_; ktn_no "g5"; intro _ _ _ _ _)); (rename Off _ _ => M9; dsimp only [List.map] at M9); ktn_no "aft") | (k_unfold; (try dsimp only)) | walk1 | (dsimp only; walk1)))
  rename ValsAre _ _ => hv9
  rename News _ _ _ _ => N9
  have hl9 := ValsAre.length hv9
  (have z99 := N9; rw [List.take_of_length_le (by omega)] at z99; clear N9; have N9 := z99; clear z99)
  (repeat' ((fail_if_success (ktn_no "stop")); first | ((with_reducible show wpAny _ _ (call (Value.builtin _) [Value.ref _, Value.int _ _, _]) _ _ _); k_dflt (refine' PySem.W.kl_insert ?F ?N ?f ?e ?U ?z ?_; (case F => k_asm); (case N => k_asm); (case U => k_upd); (case e => exact rfl); (case f => (unfold Builtin.List.listFitsIndex; simp only [Bool.and_eq_true, decide_eq_true_eq]; omega)); (case z => (rw [sizeLine_eq]; (try simp only [List.toList_toArray]); omega))); ktn_no "k12"; (try k_sweep)) | ((with_reducible show wpAny _ _ (PySem.call (Value.ref 352) _) _ _ _); k_dflt (refine use_place (hp := by exact ⟨isCur_keep (by assumption) (Fr.keep (by assumption)), by ktn_no "b_list", isInfo_keep (by assumption) (Fr.keep (by assumption)), by ktn_no "b_list"⟩) (C := ct_placeof (by assumption) (by assumption) (by assumption) (by omega) (by omega) (by omega) (by assumption)) (ret := ?_); ((refine all4 ?_; ktn_no "g4"; intro _ _ _ _))); ktn_no "aft") | (k_unfold; (try dsimp only)) | walk1 | (dsimp only; walk1)))
  · rename PlaceIs _ _ _ _ => hP
    rename (_ : Int) < (recs.length : Int) => hpl
    (refine ex1 (place_at hP hvl hpl) ?_; generalize X1a _ _ = ks; intro hks)
    (generalize (hsm0 ks (List.mem_of_getElem? hks)).1 = hsmk, (hsm0 ks (List.mem_of_getElem? hks)).2 = hkl)
    have hnek := hne ks (List.mem_of_getElem? hks)
    (repeat' ((fail_if_success (ktn_no "stop")); first | ((with_reducible show wpAny _ _ (call (Value.builtin _) [Value.ref _, Value.int _ _, _]) _ _ _); k_dflt (refine' PySem.W.kl_insert ?F ?N ?f ?e ?U ?z ?_; (case F => k_asm); (case N => k_asm); (case U => k_upd); (case e => exact rfl); (case f => (unfold Builtin.List.listFitsIndex; simp only [Bool.and_eq_true, decide_eq_true_eq]; omega)); (case z => (rw [sizeLine_eq]; (try simp only [List.toList_toArray]); omega))); ktn_no "k12"; (try k_sweep)) | ((with_reducible show wpAny _ _ (PySem.call (Value.ref 345) _) _ _ _); k_dflt (refine useT (hp := by exact ⟨isCur_keep (by assumption) (Fr.keep (by assumption)), by ktn_no "b_list", isInfo_keep (by assumption) (Fr.keep (by assumption)), by ktn_no "b_list"⟩) (C := ct_cmpat (by assumption) (by assumption) (by assumption) (by omega) (by assumption) (by omega) (by omega) (by omega)) (ret := ?_)); ((refine all3 ?_; ktn_no "g3"; intro _ _)); ktn_no "aft") | (k_unfold; (try dsimp only)) | walk1 | (dsimp only; walk1)))
    rename News _ _ _ _ => N8
    exact back_intro (by assumption) fun f k => hret _ _ _ f k ⟨rfl, _, _, _, hP, N8.get (by k_mem), ins_are hr1 ⟨_, rfl⟩ (by omega)⟩
  · (repeat' ((fail_if_success (ktn_no "stop")); first | (k_unfold; (try dsimp only)) | walk1 | (dsimp only; walk1)))
    rename PlaceIs _ _ _ _ => hP
    rename News _ _ _ _ => N8
    exact back_intro (by assumption) fun f k => hret _ _ _ f k ⟨rfl, _, _, _, hP, N8.get (by k_mem), ins_are hr1 ⟨_, rfl⟩ (by omega)⟩
end
/-! ## NCP4 -/
local macro_rules | `(tactic| ktn_no "b_cur") => `(tactic| first | exact isCur_keep (by assumption) (Fr.keep (by assumption)) | exact ⟨_, _, _, _, _, Fr.keep (by assumption) _ _ (by assumption), News.get (by assumption) (by k_mem)⟩)
section
set_option maxHeartbeats 4000000 in
theorem ct_valid {w : World} {mean mg mb} {x li lr : Addr} {p : Int} {tp : Tok} {recs : List Value} {n : Nat} (hp0 : 0 ≤ p) (hl : recs.length ≤ 100) (hn : n = recs.length) : Tell w mean mg mb 443 4 [.ref x] [] (fun h => IsCur w h x li lr (.int p tp) ∧ h.IsList lr (List.toArray recs)) (fun _ r _ => r = .bool (decide (p < (n : Int)))) := by
  unfold Tell
  k_fill
  intro dp un gd cn cs a ccd cl outer A₀ base h₀ L m s Q E B F X N T hk hpre hd hu hret
  subst hn
  obtain ⟨p1, p2⟩ := hpre
  ktr_enter
  rename KeepB _ _ _ => kg0
  have Ic := isCur_keep p1 fun b o e => kg0 b o e (by simp)
  have Il := isList_base kg0 p2
  refine cur_out p1 fun dx t1 t2 t3 t4 i1 i2 => ?_
  have Ix := inst_base kg0 (inst_of i1 i2)
  by_cases hlt : p < (recs.length : Int)
  · (repeat' ((fail_if_success (ktn_no "stop")); first | (k_unfold; (try dsimp only)) | walk1 | (dsimp only; walk1)))
    all_goals exact back_intro (by assumption) fun f k => hret _ _ _ f k (by simp [hlt, hp0])
  · (repeat' ((fail_if_success (ktn_no "stop")); first | (k_unfold; (try dsimp only)) | walk1 | (dsimp only; walk1)))
    all_goals exact back_intro (by assumption) fun f k => hret _ _ _ f k (by simp [hlt, hp0])
set_option maxHeartbeats 4000000 in
theorem ct_record {w : World} {mean mg mb} {x li lr : Addr} {p : Int} {tp : Tok} {recs : List Value} {v : Value} (hv9 : recs[p.toNat]? = some v) (hp0 : 0 ≤ p) (hp1 : p < 1000) : Tell w mean mg mb 450 4 [.ref x] [] (fun h => IsCur w h x li lr (.int p tp) ∧ h.IsList lr (List.toArray recs)) (fun _ r _ => r = v) := by
  unfold Tell
  k_fill
  intro dp un gd cn cs a ccd cl outer A₀ base h₀ L m s Q E B F X N T hk hpre hd hu hret
  obtain ⟨p1, p2⟩ := hpre
  ktr_enter
  rename KeepB _ _ _ => kg0
  have Ic := isCur_keep p1 fun b o e => kg0 b o e (by simp)
  have Il := isList_base kg0 p2
  refine cur_out p1 fun dx t1 t2 t3 t4 i1 i2 => ?_
  have Ix := inst_base kg0 (inst_of i1 i2)
  (repeat' ((fail_if_success (ktn_no "stop")); first | (k_unfold; (try dsimp only)) | walk1 | (dsimp only; walk1)))
  all_goals exact back_intro (by assumption) fun f k => hret _ _ _ f k rfl
end
/-! ## NCP5 -/
section
local macro_rules | `(tactic| ktn_no "ep?") => `(tactic| skip)
local macro_rules | `(tactic| k_inst) => `(tactic| exact inst_of (Fr.keep (by assumption) _ _ (by assumption)) (News.get (by assumption) (by k_mem)))
set_option maxHeartbeats 4000000 in
theorem ct_stand {w : World} {mean mg mb} {x dx li lr : Addr} {t1 t2 t3 t4 : Tok} {pv : Value} {recs : List Value} {p : Int} {t : Tok} {n : Nat} (hp0 : 0 ≤ p) (hl : recs.length ≤ 100) (hn : n = recs.length) : Tell w mean mg mb 373 7 [.ref x, .int p t] [(dx, curD w t1 t2 t3 t4 li lr pv)] (fun h => h.get? x = some (instObj 467 dx) ∧ h.IsList lr (List.toArray recs)) (fun _ r h' => r = .bool (decide (p < (n : Int))) ∧ h'.get? dx = some (curD w t1 t2 t3 t4 li lr (.int p t))) := by
  revert w mean mg mb x dx li lr t1 t2 t3 t4 pv recs p t n hp0 hl hn
  ((refine @all8 _ _ _ _ _ _ _ _ (by ktn_no "ne") (by ktn_no "ne") (by ktn_no "ne") (by ktn_no "ne") (by ktn_no "ne") (by ktn_no "ne") (by ktn_no "ne") (by ktn_no "ne") _ ?_; generalize E8a _ _ _ _ _ _ _ _ _ = w, E8b _ _ _ _ _ _ _ _ _ = mean, E8c _ _ _ _ _ _ _ _ _ = mg, E8d _ _ _ _ _ _ _ _ _ = mb, E8e _ _ _ _ _ _ _ _ _ = x, E8f _ _ _ _ _ _ _ _ _ = dx, E8g _ _ _ _ _ _ _ _ _ = li, E8h _ _ _ _ _ _ _ _ _ = lr); (refine @all8 _ _ _ _ _ _ _ _ (by ktn_no "ne") (by ktn_no "ne") (by ktn_no "ne") (by ktn_no "ne") (by ktn_no "ne") (by ktn_no "ne") (by ktn_no "ne") (by ktn_no "ne") _ ?_; generalize E8a _ _ _ _ _ _ _ _ _ = t1, E8b _ _ _ _ _ _ _ _ _ = t2, E8c _ _ _ _ _ _ _ _ _ = t3, E8d _ _ _ _ _ _ _ _ _ = t4, E8e _ _ _ _ _ _ _ _ _ = pv, E8f _ _ _ _ _ _ _ _ _ = recs, E8g _ _ _ _ _ _ _ _ _ = p, E8h _ _ _ _ _ _ _ _ _ = t); (refine @all1 _ (by ktn_no "ne") _ ?_; generalize E1a _ _ = n; intro hp0 hl hn))
  (refine tell_in _ _ _ _ _ _ _ _ _ _ ?_; k_fill; generalize TX.dp (tx _ _ _ _ _ _ _ _ _ _) = dp, TX.un (tx _ _ _ _ _ _ _ _ _ _) = un, TX.gd (tx _ _ _ _ _ _ _ _ _ _) = gd, TX.cn (tx _ _ _ _ _ _ _ _ _ _) = cn, TX.cs (tx _ _ _ _ _ _ _ _ _ _) = cs, TX.a (tx _ _ _ _ _ _ _ _ _ _) = a, TX.ccd (tx _ _ _ _ _ _ _ _ _ _) = ccd, TX.cl (tx _ _ _ _ _ _ _ _ _ _) = cl, TX.outer (tx _ _ _ _ _ _ _ _ _ _) = outer, TX.A₀ (tx _ _ _ _ _ _ _ _ _ _) = A₀, TX.base (tx _ _ _ _ _ _ _ _ _ _) = base, TX.h₀ (tx _ _ _ _ _ _ _ _ _ _) = h₀, TX.L (tx _ _ _ _ _ _ _ _ _ _) = L, TX.m (tx _ _ _ _ _ _ _ _ _ _) = m, TX.s (tx _ _ _ _ _ _ _ _ _ _) = s, TX.Q (tx _ _ _ _ _ _ _ _ _ _) = Q, TX.E (tx _ _ _ _ _ _ _ _ _ _) = E; intro B F X N T hk hpre hd hu hret)
  subst hn
  (refine cur2 ?_ (hpre); intro p1 p2)
  have hdx := (N _ (.head _)).1
  have n1 : @Ne Nat x dx := two_objs p1 hdx nofun
  have n2 : @Ne Nat lr dx := let ⟨o, e, e2, _⟩ := p2; two_objs e hdx (by rw [e2]; exact Ne.symm dict_list)
  ktr_enter
  rename KeepB _ _ _ => kg0
  have kk : ∀ b o, s.heap.get? b = some o → @Ne Nat b dx → _ := fun b o e n => kg0 b o e (by simpa using n)
  have I1 := kk _ _ p1 n1
  have Il : Heap.IsList _ lr (List.toArray recs) := let ⟨o, e, r⟩ := p2; ⟨o, kk _ _ e n2, r⟩
  (repeat' ((fail_if_success (ktn_no "stop")); first | ((with_reducible show wpAny _ _ (PySem.call (Value.ref 443) _) _ _ _); k_dflt (refine useE (hp := by exact ⟨by ktn_no "b_cur", by ktn_no "b_list"⟩) (C := ct_valid (by omega) (by omega) (by exact rfl)) (ret := ?_)); ((refine all2 ?_; ktn_no "g2"; intro _ _)); ktn_no "aft") | ((with_reducible show wpAny _ _ (setAttr (Value.ref _) _ _) _ _ _); k_dflt (refine' set_dict (by k_asm) (by k_asm) (by k_asm) (by k_inst) (by exact rfl) (by k_is) (by k_is) (by k_is) (by k_is) (by k_get) (by k_put) (by k_upd) (by exact Nat.le_of_ble_eq_true rfl) ?_; k_whole); ktn_no "k12"; (try k_sweep)) | (k_unfold; (try dsimp only)) | walk1 | (dsimp only; walk1)))
  rename News _ _ _ _ => N8
  exact back_intro (by assumption) fun f k => hret _ _ _ f k ⟨rfl, N8.get (by k_mem)⟩
end
/-! ## NCP6 -/
section
local macro_rules | `(tactic| ktn_no "ep?") => `(tactic| skip)
local macro_rules | `(tactic| k_inst) => `(tactic| exact inst_of (Fr.keep (by assumption) _ _ (by assumption)) (News.get (by assumption) (by k_mem)))
theorem dict_tuple : Value.type "dict" ≠ Value.type "tuple" := by simp
theorem cur_ne_info {w : World} {t1 t2 t3 t4 ti1 ti2 : Tok} {li lr lc ld : Addr} {pv : Value} : curD w t1 t2 t3 t4 li lr pv ≠ dictOf [entW w "collations" ti1 (.ref lc), entW w "descending" ti2 (.ref ld)] 2 := fun h => by
  have := congrArg Obj.data h
  simp at this
set_option maxHeartbeats 4000000 in
theorem ct_first {w : World} {mean mg mb} {x dx li lr : Addr} {t1 t2 t3 t4 : Tok} {pv : Value} {recs : List Value} (hl : recs.length ≤ 100) : Tell w mean mg mb 380 9 [.ref x] [(dx, curD w t1 t2 t3 t4 li lr pv)] (fun h => h.get? x = some (instObj 467 dx) ∧ h.IsList lr (List.toArray recs)) (fun _ r h' => r = .bool (decide ((0 : Int) < (recs.length : Int))) ∧ ∃ t', h'.get? dx = some (curD w t1 t2 t3 t4 li lr (.int 0 t'))) := by
  revert w mean mg mb x dx li lr t1 t2 t3 t4 pv recs hl
  ((refine @all8 _ _ _ _ _ _ _ _ (by ktn_no "ne") (by ktn_no "ne") (by ktn_no "ne") (by ktn_no "ne") (by ktn_no "ne") (by ktn_no "ne") (by ktn_no "ne") (by ktn_no "ne") _ ?_; generalize E8a _ _ _ _ _ _ _ _ _ = w, E8b _ _ _ _ _ _ _ _ _ = mean, E8c _ _ _ _ _ _ _ _ _ = mg, E8d _ _ _ _ _ _ _ _ _ = mb, E8e _ _ _ _ _ _ _ _ _ = x, E8f _ _ _ _ _ _ _ _ _ = dx, E8g _ _ _ _ _ _ _ _ _ = li, E8h _ _ _ _ _ _ _ _ _ = lr); (refine @all6 _ _ _ _ _ _ (by ktn_no "ne") (by ktn_no "ne") (by ktn_no "ne") (by ktn_no "ne") (by ktn_no "ne") (by ktn_no "ne") _ ?_; generalize E6a _ _ _ _ _ _ _ = t1, E6b _ _ _ _ _ _ _ = t2, E6c _ _ _ _ _ _ _ = t3, E6d _ _ _ _ _ _ _ = t4, E6e _ _ _ _ _ _ _ = pv, E6f _ _ _ _ _ _ _ = recs; intro hl))
  (refine tell_in _ _ _ _ _ _ _ _ _ _ ?_; k_fill; generalize TX.dp (tx _ _ _ _ _ _ _ _ _ _) = dp, TX.un (tx _ _ _ _ _ _ _ _ _ _) = un, TX.gd (tx _ _ _ _ _ _ _ _ _ _) = gd, TX.cn (tx _ _ _ _ _ _ _ _ _ _) = cn, TX.cs (tx _ _ _ _ _ _ _ _ _ _) = cs, TX.a (tx _ _ _ _ _ _ _ _ _ _) = a, TX.ccd (tx _ _ _ _ _ _ _ _ _ _) = ccd, TX.cl (tx _ _ _ _ _ _ _ _ _ _) = cl, TX.outer (tx _ _ _ _ _ _ _ _ _ _) = outer, TX.A₀ (tx _ _ _ _ _ _ _ _ _ _) = A₀, TX.base (tx _ _ _ _ _ _ _ _ _ _) = base, TX.h₀ (tx _ _ _ _ _ _ _ _ _ _) = h₀, TX.L (tx _ _ _ _ _ _ _ _ _ _) = L, TX.m (tx _ _ _ _ _ _ _ _ _ _) = m, TX.s (tx _ _ _ _ _ _ _ _ _ _) = s, TX.Q (tx _ _ _ _ _ _ _ _ _ _) = Q, TX.E (tx _ _ _ _ _ _ _ _ _ _) = E; intro B F X N T hk hpre hd hu hret)
  (refine cur2 ?_ (hpre); intro p1 p2)
  have hdx := (N _ (.head _)).1
  have n1 : @Ne Nat x dx := two_objs p1 hdx nofun
  have n2 : @Ne Nat lr dx := let ⟨o, e, e2, _⟩ := p2; two_objs e hdx (by rw [e2]; exact Ne.symm dict_list)
  ktr_enter
  rename KeepB _ _ _ => kg0
  have kk : ∀ b o, s.heap.get? b = some o → @Ne Nat b dx → _ := fun b o e n => kg0 b o e (by simpa using n)
  have I1 := kk _ _ p1 n1
  have Il : Heap.IsList _ lr (List.toArray recs) := let ⟨o, e, r⟩ := p2; ⟨o, kk _ _ e n2, r⟩
  (repeat' ((fail_if_success (ktn_no "stop")); first | ((with_reducible show wpAny _ _ (PySem.call (Value.ref 373) _) _ _ _); k_dflt (refine useV (hp := by exact ⟨Fr.keep (by assumption) _ _ (by assumption), by ktn_no "b_list"⟩) (C := ct_stand (by omega) (by omega) rfl) (U := by k_upd) (ret := ?_); ((refine all2 ?_; ktn_no "g2"; intro _ _))); ktn_no "aft") | (k_unfold; (try dsimp only)) | walk1 | (dsimp only; walk1)))
  rename News _ _ _ _ => N8
  exact back_intro (by assumption) fun f k => hret _ _ _ f k ⟨rfl, _, N8.get (by k_mem)⟩
set_option maxHeartbeats 4000000 in
theorem ct_next {w : World} {mean mg mb} {x dx li lr : Addr} {t1 t2 t3 t4 : Tok} {recs : List Value} {p : Int} {tp : Tok} (hl : recs.length ≤ 100) (hp0 : 0 ≤ p) (hp1 : p < recs.length) : Tell w mean mg mb 394 9 [.ref x] [(dx, curD w t1 t2 t3 t4 li lr (.int p tp))] (fun h => h.get? x = some (instObj 467 dx) ∧ h.IsList lr (List.toArray recs)) (fun _ r h' => r = .bool (decide (p + 1 < (recs.length : Int))) ∧ ∃ t', h'.get? dx = some (curD w t1 t2 t3 t4 li lr (.int (p + 1) t'))) := by
  revert w mean mg mb x dx li lr t1 t2 t3 t4 recs p tp hl hp0 hp1
  ((refine @all8 _ _ _ _ _ _ _ _ (by ktn_no "ne") (by ktn_no "ne") (by ktn_no "ne") (by ktn_no "ne") (by ktn_no "ne") (by ktn_no "ne") (by ktn_no "ne") (by ktn_no "ne") _ ?_; generalize E8a _ _ _ _ _ _ _ _ _ = w, E8b _ _ _ _ _ _ _ _ _ = mean, E8c _ _ _ _ _ _ _ _ _ = mg, E8d _ _ _ _ _ _ _ _ _ = mb, E8e _ _ _ _ _ _ _ _ _ = x, E8f _ _ _ _ _ _ _ _ _ = dx, E8g _ _ _ _ _ _ _ _ _ = li, E8h _ _ _ _ _ _ _ _ _ = lr); (refine @all7 _ _ _ _ _ _ _ (by ktn_no "ne") (by ktn_no "ne") (by ktn_no "ne") (by ktn_no "ne") (by ktn_no "ne") (by ktn_no "ne") (by ktn_no "ne") _ ?_; generalize E7a _ _ _ _ _ _ _ _ = t1, E7b _ _ _ _ _ _ _ _ = t2, E7c _ _ _ _ _ _ _ _ = t3, E7d _ _ _ _ _ _ _ _ = t4, E7e _ _ _ _ _ _ _ _ = recs, E7f _ _ _ _ _ _ _ _ = p, E7g _ _ _ _ _ _ _ _ = tp; intro hl hp0 hp1))
  (refine tell_in _ _ _ _ _ _ _ _ _ _ ?_; k_fill; generalize TX.dp (tx _ _ _ _ _ _ _ _ _ _) = dp, TX.un (tx _ _ _ _ _ _ _ _ _ _) = un, TX.gd (tx _ _ _ _ _ _ _ _ _ _) = gd, TX.cn (tx _ _ _ _ _ _ _ _ _ _) = cn, TX.cs (tx _ _ _ _ _ _ _ _ _ _) = cs, TX.a (tx _ _ _ _ _ _ _ _ _ _) = a, TX.ccd (tx _ _ _ _ _ _ _ _ _ _) = ccd, TX.cl (tx _ _ _ _ _ _ _ _ _ _) = cl, TX.outer (tx _ _ _ _ _ _ _ _ _ _) = outer, TX.A₀ (tx _ _ _ _ _ _ _ _ _ _) = A₀, TX.base (tx _ _ _ _ _ _ _ _ _ _) = base, TX.h₀ (tx _ _ _ _ _ _ _ _ _ _) = h₀, TX.L (tx _ _ _ _ _ _ _ _ _ _) = L, TX.m (tx _ _ _ _ _ _ _ _ _ _) = m, TX.s (tx _ _ _ _ _ _ _ _ _ _) = s, TX.Q (tx _ _ _ _ _ _ _ _ _ _) = Q, TX.E (tx _ _ _ _ _ _ _ _ _ _) = E; intro B F X N T hk hpre hd hu hret)
  (refine cur2 ?_ (hpre); intro p1 p2)
  have hmin : (if (recs.length : Int) < p + 1 then (recs.length : Int) else p + 1) = p + 1 := by rw [if_neg (by omega)]
  have hdx := (N _ (.head _)).1
  have n1 : @Ne Nat x dx := two_objs p1 hdx nofun
  have n2 : @Ne Nat lr dx := let ⟨o, e, e2, _⟩ := p2; two_objs e hdx (by rw [e2]; exact Ne.symm dict_list)
  ktr_enter
  rename KeepB _ _ _ => kg0
  have kk : ∀ b o, s.heap.get? b = some o → @Ne Nat b dx → _ := fun b o e n => kg0 b o e (by simpa using n)
  have I1 := kk _ _ p1 n1
  have Il : Heap.IsList _ lr (List.toArray recs) := let ⟨o, e, r⟩ := p2; ⟨o, kk _ _ e n2, r⟩
  (repeat' ((fail_if_success (ktn_no "stop")); first | ((with_reducible show wpAny _ _ (PySem.call (Value.ref 373) _) _ _ _); k_dflt (refine useV (hp := by exact ⟨Fr.keep (by assumption) _ _ (by assumption), by ktn_no "b_list"⟩) (C := ct_stand (by omega) (by omega) rfl) (U := by k_upd) (ret := ?_); ((refine all2 ?_; ktn_no "g2"; intro _ _))); ktn_no "aft") | ((with_reducible show wpAny _ _ (call (Value.builtin "min") [Value.int _ _, Value.int _ _]) _ _ _); (with_reducible rename News _ _ _ _ => N99); (with_unfolding_all apply min_two_N); (case hh => with_unfolding_all rfl); (case N => exact N99); (case F => assumption); clear N99; refine all2 ?_; ktn_no "g2"; intro _ _) | (k_unfold; (try dsimp only)) | walk1 | (dsimp only; walk1)))
  rename News _ _ _ _ => N7
  simp only [hmin] at N7 ⊢
  rename News _ _ _ _ => N8
  exact back_intro (by assumption) fun f k => hret _ _ _ f k ⟨rfl, _, N8.get (by k_mem)⟩
set_option maxHeartbeats 4000000 in
theorem ct_seek {w : World} {mean mg mb} {x dx li lr : Addr} {t1 t2 t3 t4 : Tok} {pv : Value} {recs : List Value} {lv : Addr} {us : List Value} {kss : List (List Val)} {es : List Val} {bs : List Bool} (hr1 : RecsAre recs kss) (hsm0 : ∀ ks ∈ kss, (∀ d ∈ ks, Small d) ∧ ks.length ≤ 40) (hu1 : ValsAre us es) (he1 : es.length ≤ 40) (hb : bs.length ≤ 40) (hl1 : kss.length ≤ 100)
    (hmono : ∀ (i j : Nat) (ki kj : List Val), i ≤ j → kss[i]? = some ki → kss[j]? = some kj → cmpK bs kj es < 0 → cmpK bs ki es < 0) : Tell w mean mg mb 408 16 [.ref x, .ref lv] [(dx, curD w t1 t2 t3 t4 li lr pv)] (fun h => h.get? x = some (instObj 467 dx) ∧ h.IsList lr (List.toArray recs) ∧ IsInfo w h li bs ∧ h.IsList lv (List.toArray us)) (fun _ r h' => ∃ p : Nat, PlaceIs bs kss es p ∧ r = .bool (decide ((p : Int) < (kss.length : Int))) ∧ ∃ t', h'.get? dx = some (curD w t1 t2 t3 t4 li lr (.int (p : Int) t'))) := by
  revert w mean mg mb x dx li lr t1 t2 t3 t4 pv recs lv us kss es bs hr1 hsm0 hu1 he1 hb hl1 hmono
  ((refine @all8 _ _ _ _ _ _ _ _ (by ktn_no "ne") (by ktn_no "ne") (by ktn_no "ne") (by ktn_no "ne") (by ktn_no "ne") (by ktn_no "ne") (by ktn_no "ne") (by ktn_no "ne") _ ?_; generalize E8a _ _ _ _ _ _ _ _ _ = w, E8b _ _ _ _ _ _ _ _ _ = mean, E8c _ _ _ _ _ _ _ _ _ = mg, E8d _ _ _ _ _ _ _ _ _ = mb, E8e _ _ _ _ _ _ _ _ _ = x, E8f _ _ _ _ _ _ _ _ _ = dx, E8g _ _ _ _ _ _ _ _ _ = li, E8h _ _ _ _ _ _ _ _ _ = lr); (refine @all8 _ _ _ _ _ _ _ _ (by ktn_no "ne") (by ktn_no "ne") (by ktn_no "ne") (by ktn_no "ne") (by ktn_no "ne") (by ktn_no "ne") (by ktn_no "ne") (by ktn_no "ne") _ ?_; generalize E8a _ _ _ _ _ _ _ _ _ = t1, E8b _ _ _ _ _ _ _ _ _ = t2, E8c _ _ _ _ _ _ _ _ _ = t3, E8d _ _ _ _ _ _ _ _ _ = t4, E8e _ _ _ _ _ _ _ _ _ = pv, E8f _ _ _ _ _ _ _ _ _ = recs, E8g _ _ _ _ _ _ _ _ _ = lv, E8h _ _ _ _ _ _ _ _ _ = us); (refine @all3 _ _ _ (by ktn_no "ne") (by ktn_no "ne") (by ktn_no "ne") _ ?_; generalize E3a _ _ _ _ = kss, E3b _ _ _ _ = es, E3c _ _ _ _ = bs; intro hr1 hsm0 hu1 he1 hb hl1 hmono))
  (refine tell_in _ _ _ _ _ _ _ _ _ _ ?_; k_fill; generalize TX.dp (tx _ _ _ _ _ _ _ _ _ _) = dp, TX.un (tx _ _ _ _ _ _ _ _ _ _) = un, TX.gd (tx _ _ _ _ _ _ _ _ _ _) = gd, TX.cn (tx _ _ _ _ _ _ _ _ _ _) = cn, TX.cs (tx _ _ _ _ _ _ _ _ _ _) = cs, TX.a (tx _ _ _ _ _ _ _ _ _ _) = a, TX.ccd (tx _ _ _ _ _ _ _ _ _ _) = ccd, TX.cl (tx _ _ _ _ _ _ _ _ _ _) = cl, TX.outer (tx _ _ _ _ _ _ _ _ _ _) = outer, TX.A₀ (tx _ _ _ _ _ _ _ _ _ _) = A₀, TX.base (tx _ _ _ _ _ _ _ _ _ _) = base, TX.h₀ (tx _ _ _ _ _ _ _ _ _ _) = h₀, TX.L (tx _ _ _ _ _ _ _ _ _ _) = L, TX.m (tx _ _ _ _ _ _ _ _ _ _) = m, TX.s (tx _ _ _ _ _ _ _ _ _ _) = s, TX.Q (tx _ _ _ _ _ _ _ _ _ _) = Q, TX.E (tx _ _ _ _ _ _ _ _ _ _) = E; intro B F X N T hk hpre hd hu hret)
  (refine cur4 ?_ (hpre); intro p1 p2 p3 p4)
  have hl := RecsAre.length hr1
  refine info_out p3 ?_
  ((refine all6 ?_; generalize E6a _ _ _ _ _ _ _ = dy, E6b _ _ _ _ _ _ _ = lc, E6c _ _ _ _ _ _ _ = ld, E6d _ _ _ _ _ _ _ = ti1, E6e _ _ _ _ _ _ _ = ti2, E6f _ _ _ _ _ _ _ = cs0; intro j1 j2 j3 j4 j5 j6))
  have hdx := (N _ (.head _)).1
  have n1 : @Ne Nat x dx := two_objs p1 hdx nofun
  have n2 : @Ne Nat lr dx := let ⟨o, e, e2, _⟩ := p2; two_objs e hdx (by rw [e2]; exact Ne.symm dict_list)
  ktr_enter
  rename KeepB _ _ _ => kg0
  have kk : ∀ b o, s.heap.get? b = some o → @Ne Nat b dx → _ := fun b o e n => kg0 b o e (by simpa using n)
  have I1 := kk _ _ p1 n1
  have Il : Heap.IsList _ lr (List.toArray recs) := let ⟨o, e, r⟩ := p2; ⟨o, kk _ _ e n2, r⟩
  have Iv : Heap.IsList _ lv (List.toArray us) := let ⟨o, e, e2, r⟩ := p4; ⟨o, kk _ _ e (two_objs e hdx (by rw [e2]; exact Ne.symm dict_list)), e2, r⟩
  have n3 : @Ne Nat li dx := two_objs j1 hdx nofun
  have n4 : @Ne Nat dy dx := fun q => by rw [show dy = dx from q, hdx] at j2; exact cur_ne_info (Option.some.inj j2)
  have n5 : @Ne Nat lc dx := let ⟨o, e, e2, _⟩ := j3; two_objs e hdx (by rw [e2]; exact Ne.symm dict_tuple)
  have n6 : @Ne Nat ld dx := let ⟨o, e, e2, _⟩ := j6; two_objs e hdx (by rw [e2]; exact Ne.symm dict_tuple)
  have Ii : IsInfo w _ li bs := ⟨dy, lc, ld, ti1, ti2, cs0, kk _ _ j1 n3, kk _ _ j2 n4, (let ⟨o, e, r⟩ := j3; ⟨o, kk _ _ e n5, r⟩), j4, j5, (let ⟨o, e, r⟩ := j6; ⟨o, kk _ _ e n6, r⟩)⟩
  have Iy := inst_of (kk _ _ j1 n3) (kk _ _ j2 n4)
  (repeat' ((fail_if_success (ktn_no "stop")); first | ((with_reducible show wpAny _ _ (PySem.call (Value.ref 373) _) _ _ _); k_dflt (refine useV (hp := by exact ⟨Fr.keep (by assumption) _ _ (by assumption), by ktn_no "b_list"⟩) (C := ct_stand (by omega) (by omega) rfl) (U := by k_upd) (ret := ?_); ((refine all2 ?_; ktn_no "g2"; intro _ _))); ktn_no "aft") | ((with_reducible show wpAny _ _ (PySem.call (Value.ref 352) _) _ _ _); k_dflt (refine use_place (hp := by exact ⟨by ktn_no "b_cur", by ktn_no "b_list", isInfo_keep (by assumption) (Fr.keep (by assumption)), by ktn_no "b_list"⟩) (C := ct_placeof (by assumption) (by assumption) (by assumption) (by omega) (by omega) (by omega) (by assumption)) (ret := ?_); ((refine all4 ?_; ktn_no "g4"; intro _ _ _ _))); ktn_no "aft") | (k_unfold; (try dsimp only)) | walk1 | (dsimp only; walk1)))
  rename PlaceIs _ _ _ _ => hP
  rename News _ _ _ _ => N8
  exact back_intro (by assumption) fun f k => hret _ _ _ f k ⟨_, hP, by rw [hl], _, N8.get (by k_mem)⟩
end
/-! ## NCP7 -/
section
theorem rec_at {recs : List Value} {kss : List (List Val)} {ds : List Val} {p : Int} (h : RecsAre recs kss) (hp : 0 ≤ p) (hk : kss[p.toNat]? = some ds) : ∃ t, recs[p.toNat]? = some (.bytes (byteArr (enc ds)) t) := by
  refine hide fun G99 hG99 => ?_
  obtain ⟨v, hv, t, rfl⟩ := RecsAre.at h hk
  refine hG99 ?_
  clear hG99 G99
  exact ⟨t, hv⟩
set_option maxHeartbeats 4000000 in
theorem ct_values {w : World} {mean mg mb} {x li lr : Addr} {p : Int} {tp : Tok} {recs : List Value} {kss : List (List Val)} {ds : List Val} (hr1 : RecsAre recs kss) (hp0 : 0 ≤ p) (hk1 : kss[p.toNat]? = some ds) (hl1 : kss.length ≤ 100) (hsm : ∀ d ∈ ds, Small d) (hd1 : ds.length ≤ 40) : Tell w mean mg mb 457 11 [.ref x] [] (fun h => IsCur w h x li lr (.int p tp) ∧ h.IsList lr (List.toArray recs)) (fun h r h' => ∃ l vs n, r = .ref l ∧ h'.get? l = some (PySem.W.listOf (List.toArray vs) n) ∧ ValsAre vs ds ∧ h.get? l = none) := by
  unfold Tell
  k_fill
  intro dp un gd cn cs a ccd cl outer A₀ base h₀ L m s Q E B F X N T hk hpre hd hu hret
  obtain ⟨p1, p2⟩ := hpre
  obtain ⟨tv, hv9⟩ := rec_at hr1 hp0 hk1
  have hp1 : p.toNat < kss.length := (List.getElem?_eq_some_iff.mp hk1).1
  ktr_enter
  rename KeepB _ _ _ => kg0
  have Ic := isCur_keep p1 fun b o e => kg0 b o e (by simp)
  have Il := isList_base kg0 p2
  refine cur_out p1 fun dx t1 t2 t3 t4 i1 i2 => ?_
  have Ix := inst_base kg0 (inst_of i1 i2)
  (repeat' ((fail_if_success (ktn_no "stop")); first | ((with_reducible show wpAny _ _ (PySem.call (Value.ref 241) _) _ _ _); k_dflt (refine useL (hp := by trivial) (C := ct_decode (by assumption) (by omega)) (ret := ?_)); intros; (rename Off _ _ => M9; dsimp only [List.map] at M9); ktn_no "aft") | ((with_reducible show wpAny _ _ (PySem.call (Value.ref 450) _) _ _ _); k_dflt (refine useE (hp := by exact ⟨by ktn_no "b_cur", by ktn_no "b_list"⟩) (C := ct_record (by assumption) (by omega) (by omega)) (ret := ?_)); intros; ktn_no "aft") | (k_unfold; (try dsimp only)) | walk1 | (dsimp only; walk1)))
  rename ValsAre _ _ => hv8
  rename News _ _ _ _ => N8
  exact back_intro (by assumption) fun f k => hret _ _ _ f k ⟨_, _, _, rfl, N8.get (by k_mem), hv8, (made kg0 N8 (by k_mem)).2⟩
set_option maxHeartbeats 4000000 in
theorem ct_kcmp {w : World} {mean mg mb} {x li lr lv : Addr} {p : Nat} {tp : Tok} {recs us : List Value} {kss : List (List Val)} {ds es : List Val} {bs : List Bool} (hr1 : RecsAre recs kss) (hk1 : kss[p]? = some ds) (hsm : ∀ d ∈ ds, Small d) (hd1 : ds.length ≤ 40) (hu1 : ValsAre us es) (he1 : es.length ≤ 40) (hb : bs.length ≤ 40) (hl1 : kss.length ≤ 100) : Tell w mean mg mb 436 12 [.ref x, .ref lv] [] (fun h => IsCur w h x li lr (.int (p : Int) tp) ∧ h.IsList lr (List.toArray recs) ∧ IsInfo w h li bs ∧ h.IsList lv (List.toArray us)) (fun _ r _ => IsI r (cmpK bs ds es)) := by
  unfold Tell
  k_fill
  intro dp un gd cn cs a ccd cl outer A₀ base h₀ L m s Q E B F X N T hk hpre hd hu hret
  refine hide fun G99 hG99 => ?_
  obtain ⟨p1, p2, p3, p4⟩ := hpre
  refine hG99 ?_
  clear hG99 G99
  ktr_enter
  rename KeepB _ _ _ => kg0
  have Ii := isInfo_keep p3 fun b o e => kg0 b o e (by simp)
  have Il := isList_base kg0 p2
  have Iv := isList_base kg0 p4
  have Ic := isCur_keep p1 fun b o e => kg0 b o e (by simp)
  refine cur_out p1 fun dx t1 t2 t3 t4 i1 i2 => ?_
  have Ix := inst_base kg0 (inst_of i1 i2)
  (repeat' ((fail_if_success (ktn_no "stop")); first | ((with_reducible show wpAny _ _ (PySem.call (Value.ref 345) _) _ _ _); k_dflt (refine useT (hp := by exact ⟨by ktn_no "b_cur", by ktn_no "b_list", isInfo_keep (by assumption) (Fr.keep (by assumption)), by ktn_no "b_list"⟩) (C := ct_cmpat (by assumption) (by assumption) (by assumption) (by omega) (by assumption) (by omega) (by omega) (by omega)) (ret := ?_)); intros; ktn_no "aft") | (k_unfold; (try dsimp only)) | walk1 | (dsimp only; walk1)))
  all_goals exact back_intro (by assumption) fun f k => hret _ _ _ f k (isI rfl)
end
/-! ## CG -/
section
open PySem PySem.Spec PySem.Calls PySem.W PyProof.Rows PyProof.Rows.LCg
open PySem.Sem (wp)
/-- how the turn of a comprehension ends -/
def CompTurned (h₀ : Heap) (L : Addr) (m : Str → Option Value) (s : Shared) (I : Addr) (oI : Obj) (C D : Addr) (ys : List Value) (J : List Value → List (Addr × Obj) → Prop) (zs : List Value) (s' : Shared) : Prop :=
  ∃ h' tk' oC' mC' news', s' = { s with heap := h', toks := tk' } ∧ Fr h₀ L h' m ∧ NsObj oC' mC' ∧ News h₀ L h' ((I, oI) :: (C, oC') :: (D, lst ys) :: news') ∧ Off3 I C D news' ∧ J zs news'
theorem CompTurned.intro {h₀ : Heap} {L : Addr} {m : Str → Option Value} {s : Shared} {I : Addr} {oI : Obj} {C D : Addr} {ys : List Value} {J : List Value → List (Addr × Obj) → Prop} {zs : List Value} {h' : Heap} {tk' : Nat} {oC : Obj} {mC : Str → Option Value} {all : List (Addr × Obj)} (news' : List (Addr × Obj))
    (F : Fr h₀ L h' m) (hoC : NsObj oC mC) (N : News h₀ L h' all) (sub : ∀ p ∈ (I, oI) :: (C, oC) :: (D, lst ys) :: news', p ∈ all) (off : Off3 I C D news') (j : J zs news') : CompTurned h₀ L m s I oI C D ys J zs { s with heap := h', toks := tk' } :=
  ⟨h', tk', oC, mC, news', rfl, F, hoC, fun p hp => N p (sub p hp), off, j⟩
theorem CompTurned.elim {h₀ : Heap} {L : Addr} {m : Str → Option Value} {s : Shared} {I : Addr} {oI : Obj} {C D : Addr} {ys : List Value} {J : List Value → List (Addr × Obj) → Prop} {zs : List Value} {s' : Shared} (H : CompTurned h₀ L m s I oI C D ys J zs s') {G : Prop}
    (k : ∀ h' tk' oC' mC' news', s' = { s with heap := h', toks := tk' } → Fr h₀ L h' m → NsObj oC' mC' → News h₀ L h' ((I, oI) :: (C, oC') :: (D, lst ys) :: news') → Off3 I C D news' → J zs news' → G) : G :=
  let ⟨h', tk', oC', mC', news', e, F, hoC, N, off, j⟩ := H
  k h' tk' oC' mC' news' e F hoC N off j
theorem of_ite_F {a b : Prop} (h : if false = true then a else b) : b := h
theorem of_ite_T {a b : Prop} (h : if true = true then a else b) : a := h
theorem ite_F {a b : Prop} (h : b) : if false = true then a else b := h
theorem ite_T {a b : Prop} (h : a) : if true = true then a else b := h
/-- one turn of a comprehension -/
def TurnC (prog : Program) (w : World) (A : Around) (h₀ : Heap) (L : Addr) (m : Str → Option Value) (elt target : Expr) (ifs : List Expr) (env : Addr → Env) (s : Shared) (J : List Value → List (Addr × Obj) → Prop) (v : Value) (ys : List Value) (n₁ : List (Addr × Obj)) : Prop :=
  ∀ (I : Addr) (mC : Str → Option Value) (h : Heap) (tk : Nat) (oI : Obj) (C : Addr) (oC : Obj) (D : Addr) (E1 : Value → Shared → Prop), Fr h₀ L h m → NsObj oC mC → News h₀ L h ((I, oI) :: (C, oC) :: (D, lst ys) :: n₁) → Off3 I C D n₁ → ((@Ne Nat I C) ∧ (@Ne Nat I D) ∧ (@Ne Nat C D)) →
    wpAny (model prog w) A (assign target (env C) v) (fun _ s₂' => wpAny (model prog w) A (forIn ifs true fun c r => if r = true then do let ok ← isTrue c (env C) (eval c (env C)); pure (ForInStep.yield ok) else pure (ForInStep.yield r)) (fun ok s₃ =>
      if ok = true then wpAny (model prog w) A (eval elt (env C)) (fun y s₄ => CompTurned h₀ L m s I oI C D ys J (ys ++ [y]) s₄) E1 s₃
      else CompTurned h₀ L m s I oI C D ys J ys s₃) E1 s₂') E1 { s with heap := h, toks := tk }
/-- what a comprehension goes over: its next value, its end, its start -/
def Src (prog : Program) (w : World) (A : Around) (h₀ : Heap) (L : Addr) (m : Str → Option Value) (elt target iter : Expr) (ifs : List Expr) (scope : Scope) (pos : Pos) (s : Shared) (I : Addr) (n : Nat) (Vi : Nat → Value → Prop) (It : Nat → Heap → Prop) (J : Nat → List Value → List (Addr × Obj) → Prop) : Prop :=
  (∀ i h tk (Q : Option Value → Shared → Prop) E1, It i h → Fr h₀ L h m → i < n → (∀ v h₂ tk₂ oI, Vi i v → h₂.get? I = some oI → ButI I h h₂ → LetOK prog w A target I v { s with heap := h₂, toks := tk₂ } →
      (∀ h₅ ys n₅, Fr h₀ L h₅ m → (∀ p ∈ n₅, h₅.get? p.1 = some p.2) → J (i + 1) ys n₅ → h₅.get? I = some oI → It (i + 1) h₅) → Q (some v) { s with heap := h₂, toks := tk₂ }) → wpAny (model prog w) A (pyNext (.ref I)) Q E1 { s with heap := h, toks := tk }) ∧
  (∀ h tk (Q : Option Value → Shared → Prop) E1, It n h → (∀ h₂ tk₂, ButI I h h₂ → Q none { s with heap := h₂, toks := tk₂ }) → wpAny (model prog w) A (pyNext (.ref I)) Q E1 { s with heap := h, toks := tk }) ∧
  (∀ h tk acc env (R : Result → Shared → Prop), It 0 h → codeAny (model prog w) A (.compLoop (.ListComp elt [⟨target, iter, ifs, 0⟩] scope pos) 0 (.ref I) acc env) R { s with heap := h, toks := tk } → codeAny (model prog w) A (.compStart (.ListComp elt [⟨target, iter, ifs, 0⟩] scope pos) 0 (.ref I) acc env) R { s with heap := h, toks := tk })
theorem exists_news {h₀ h : Heap} {L : Addr} {n : List (Addr × Obj)} (N : News h₀ L h n) : ∃ nw, nw = n ∧ News h₀ L h nw := ⟨_, rfl, N⟩
section
variable {prog : Program} {w : World} {A : Around} {s : Shared}
theorem compLoop_own {elt target iter : Expr} {ifs : List Expr} {scope : Scope} {pos : Pos} {it acc : Value} {env : Env} {R : Result → Shared → Prop} (I : Nat → Shared → Prop)
    (turn : ∀ n s, I n s → wpAny (model prog w) A (pyNext it) (fun r s₁ => match r with
      | none => R (.ok .next) s₁
      | some v => wpAny (model prog w) A (letOwnedTupleGo target it v) (fun _ s₁' => wpAny (model prog w) A (assign target env v) (fun _ s₂ =>
          wpAny (model prog w) A (forIn ifs true fun c r => if r = true then do let ok ← isTrue c env (eval c env); pure (ForInStep.yield ok) else pure (ForInStep.yield r)) (fun ok s₃ =>
            if ok = true then wpAny (model prog w) A (eval elt env) (fun x s₄ =>
              wpAny (model prog w) A (call (.builtin "list.append") [acc, x]) (fun _ s₅ => ∃ m, m < n ∧ I m s₅) (notedBy (model prog w) A env fun e s' => R (.error e) s') s₄) (notedBy (model prog w) A env fun e s' => R (.error e) s') s₃
            else ∃ m, m < n ∧ I m s₃) (notedBy (model prog w) A env fun e s' => R (.error e) s') s₂) (notedBy (model prog w) A env fun e s' => R (.error e) s') s₁') (notedBy (model prog w) A env fun e s' => R (.error e) s') s₁) (notedBy (model prog w) A env fun e s' => R (.error e) s') s)
    (n : Nat) (h : I n s) : codeAny (model prog w) A (.compLoop (.ListComp elt [⟨target, iter, ifs, 0⟩] scope pos) 0 it acc env) R s := by
  refine codeAny_loop rfl I (fun n s hI => ?_) n h
  show wpAny _ A ((compTurn (.ListComp elt [⟨target, iter, ifs, 0⟩] scope pos) 0 it acc env).onRaise (fun x => do noteFrame x env; theTreesLotGoes x)) _ _ s
  refine wpAny_noted ?_
  rw [compTurn_list]
  refine wpAny_bind (wpAny_standAt (wpAny_bind (wpAny_mono (turn n s hI) (fun r s₁ h₁ => ?_) fun _ _ h' => h')))
  cases r with
  | none => exact wpAny_pure h₁
  | some v =>
    refine wpAny_bind (wpAny_mono h₁ (fun _ s₁' h₁' => ?_) fun _ _ h' => h')
    refine wpAny_bind (wpAny_mono h₁' (fun _ s₂ h₂ => wpAny_bind (wpAny_mono h₂ (fun ok s₃ h₃ => ?_) fun _ _ h' => h')) fun _ _ h' => h')
    cases ok with
    | false => exact wpAny_pure ⟨rfl, h₃⟩
    | true => exact wpAny_bind (wpAny_bind (wpAny_mono h₃ (fun x s₄ h₄ => wpAny_bind (wpAny_mono h₄ (fun _ s₅ h₅ => wpAny_pure (wpAny_pure ⟨rfl, h₅⟩)) fun _ _ h' => h')) fun _ _ h' => h'))
theorem news_I {I C D : Addr} {oC oD : Obj} {h₀ h h₂ : Heap} {L : Addr} {n₁ : List (Addr × Obj)} (N : News h₀ L h ((C, oC) :: (D, oD) :: n₁)) (nIC : @Ne Nat I C) (nID : @Ne Nat I D) (off : Off3 I C D n₁) (k : ButI I h h₂) : News h₀ L h₂ ((C, oC) :: (D, oD) :: n₁) := fun p hp => by
  have z := N p hp
  refine ⟨k _ _ ?_ z.1, z.2⟩
  rcases List.mem_cons.mp hp with rfl | hp
  · exact Ne.symm nIC
  · rcases List.mem_cons.mp hp with rfl | hp
    · exact Ne.symm nID
    · exact (off.mem p hp).1
theorem news_D {I C D : Addr} {oI oC oD oD' : Obj} {h₀ h h₂ : Heap} {L : Addr} {n₁ : List (Addr × Obj)} (N : News h₀ L h ((I, oI) :: (C, oC) :: (D, oD) :: n₁)) (nDC : @Ne Nat C D) (off : Off3 I C D n₁) (k : ButI D h h₂) (e : h₂.get? D = some oD') : News h₀ L h₂ ((C, oC) :: (D, oD') :: n₁) := fun p hp => by
  rcases List.mem_cons.mp hp with rfl | hp
  · have q := N (C, oC) (.tail _ (.head _))
    exact ⟨k _ _ nDC q.1, q.2⟩
  · rcases List.mem_cons.mp hp with rfl | hp
    · exact ⟨e, (N (D, oD) (.tail _ (.tail _ (.head _)))).2⟩
    · have q := N p (.tail _ (.tail _ (.tail _ hp)))
      exact ⟨k _ _ (off.mem p hp).2.2 q.1, q.2⟩
/-- a comprehension, started, by what holds between the turns -/
theorem comp_start {elt target iter : Expr} {ifs : List Expr} {scope : Scope} {pos : Pos} {env : Addr → Env} {I C D : Addr} {h₀ : Heap} {L : Addr} {m : Str → Option Value} {n : Nat} {R : Result → Shared → Prop} {Vi : Nat → Value → Prop} {It : Nat → Heap → Prop} {J : Nat → List Value → List (Addr × Obj) → Prop}
    (S : Src prog w A h₀ L m elt target iter ifs scope pos s I n Vi It J) (hlen : n ≤ 1000) (hIL : L ≠ I) (hI₀ : h₀.get? I = none) {h₁ : Heap} {tk₁ : Nat} {oC₁ : Obj} {mC₁ : Str → Option Value} {news : List (Addr × Obj)}
    (hit : It 0 h₁) (F : Fr h₀ L h₁ m) (hoC : NsObj oC₁ mC₁) (N : News h₀ L h₁ ((C, oC₁) :: (D, lst []) :: news)) (off : Off3 I C D news) (ne : (@Ne Nat I C) ∧ (@Ne Nat I D) ∧ (@Ne Nat C D)) (hj : J 0 [] news)
    (turn : ∀ i v ys n₁, i < n → Vi i v → J i ys n₁ → TurnC prog w A h₀ L m elt target ifs env s (J (i + 1)) v ys n₁)
    (hR : ∀ h tk m' ys news', Fr h₀ L h m → News h₀ L h ((D, lst ys) :: news') → Off1 D news' → h.Ns C m' → (∀ p ∈ news', p.1 ≠ C) → J n ys news' → R (.ok .next) { s with heap := h, toks := tk }) :
    codeAny (model prog w) A (.compStart (.ListComp elt [⟨target, iter, ifs, 0⟩] scope pos) 0 (.ref I) (.ref D) (env C)) R { s with heap := h₁, toks := tk₁ } := by
  refine S.2.2 _ _ _ _ _ hit (compLoop_own (fun k s' => ∀ G : Prop, (∀ h' tk i ys mC oC n₁, s' = { s with heap := h', toks := tk } → i ≤ n → k = n - i → ys.length ≤ i → It i h' → Fr h₀ L h' m → NsObj oC mC →
    News h₀ L h' ((C, oC) :: (D, lst ys) :: n₁) → Off3 I C D n₁ → J i ys n₁ → G) → G) ?_ n (fun G g => g h₁ tk₁ 0 [] mC₁ oC₁ news rfl (Nat.zero_le _) rfl (Nat.le_refl _) hit F hoC N off hj))
  intro k s' hS
  refine hS _ fun h' tk i ys mC oC n₁ e hi hk hyl hit' F' hoC' N' off' hJ => ?_
  subst e hk
  by_cases hlt : i < n
  · refine S.1 i h' tk _ _ hit' F' hlt fun v h₂ tk₂ oI hV eI hb hlet back => hlet _ _ ?_
    refine wpAny_mono (turn i v ys n₁ hlt hV hJ I mC h₂ tk₂ oI C oC D _ (Mine.fr_but F' hI₀ hIL hb) hoC' (List.forall_mem_cons.mpr ⟨⟨eI, Ne.symm hIL, hI₀⟩, news_I N' ne.1 ne.2.1 off' hb⟩) off' ne) (fun _ s₃ h₃ => wpAny_mono h₃ (fun ok s₄ h₄ => ?_) fun _ _ e => e) fun _ _ e => e
    have lt' : n - (i + 1) < n - i := Nat.sub_lt_sub_left hlt (Nat.lt_succ_self i)
    cases ok with
    | false =>
      refine ite_F ((of_ite_F h₄).elim fun h₅ tk₅ oC' mC' n₅ e F₅ hoC₅ N₅ off₅ J₅ => ⟨n - (i + 1), lt', fun G g => ?_⟩)
      exact g h₅ tk₅ (i + 1) ys mC' oC' n₅ e hlt rfl (Nat.le_succ_of_le hyl) (back h₅ ys n₅ F₅ (fun p hp => (N₅ p (.tail _ (.tail _ (.tail _ hp)))).1) J₅ (N₅ _ (.head _)).1) F₅ hoC₅ (fun p hp => N₅ p (.tail _ hp)) off₅ J₅
    | true =>
      refine ite_T (wpAny_mono (of_ite_T h₄) (fun y s₅ h₅ => ?_) fun _ _ e => e)
      refine h₅.elim fun h₅ tk₅ oC' mC' n₅ e F₅ hoC₅ N₅ off₅ J₅ => ?_
      subst e
      have zD := N₅ (D, lst ys) (.tail _ (.tail _ (.head _)))
      refine append_at (hsz := by rw [List.size_toArray, sizeLine_eq]; omega) zD.1 fun h₆ hs₆ hD₆ => ⟨n - (i + 1), lt', fun G g => ?_⟩
      exact g h₆ tk₅ (i + 1) (ys ++ [y]) mC' oC' n₅ rfl hlt rfl (by rw [List.length_append]; exact Nat.succ_le_succ hyl) (back h₆ _ n₅ (F₅.change hs₆ zD.2.1 zD.2.2) (fun p hp => hs₆.extBut _ _ (off₅.mem p hp).2.2 (N₅ p (.tail _ (.tail _ (.tail _ hp)))).1) J₅ (hs₆.extBut _ _ ne.2.1 (N₅ _ (.head _)).1)) (F₅.change hs₆ zD.2.1 zD.2.2) hoC₅ (news_D N₅ ne.2.2 off₅ (fun b o hb e => hs₆.extBut b o hb e) (hD₆.trans (congrArg some (lst_snoc ys y)))) off₅ J₅
  · have e : i = n := Nat.le_antisymm hi (Nat.le_of_not_lt hlt)
    refine S.2.1 h' tk _ _ (e ▸ hit') fun h₂ tk₂ hb => ?_
    have N2 := news_I N' ne.1 ne.2.1 off' hb
    exact hR h₂ tk₂ mC ys n₁ (Mine.fr_but F' hI₀ hIL hb) (fun p hp => N2 p (.tail _ hp)) off'.one (hoC'.ns (N2 _ (.head _)).1) (fun p hp => (off'.mem p hp).2.1) (e ▸ hJ)
theorem list_src {elt target iter : Expr} {ifs : List Expr} {scope : Scope} {pos : Pos} {I l : Addr} {vs : List Value} {h₀ : Heap} {L : Addr} {m : Str → Option Value} {J : Nat → List Value → List (Addr × Obj) → Prop} (hh : A.handled = none) (hlI : l ≠ I)
    (hlet : ∀ (I : Addr) (j : Nat) (h : Heap) (v : Value) (tk : Nat) (Q : Unit → Shared → Prop) (E1 : Value → Shared → Prop), h.IsListIter I l j → v ∈ vs → Q () { s with heap := h, toks := tk } → wpAny (model prog w) A (letOwnedTupleGo target (.ref I) v) Q E1 { s with heap := h, toks := tk })
    (hkeep : (∃ o, h₀.get? l = some o) ∨ (∀ i ys n₁, J i ys n₁ → ∃ o, (l, o) ∈ n₁ ∧ o.cls = .type "list" ∧ ∃ k, o.data = .seq vs.toArray k)) :
    Src prog w A h₀ L m elt target iter ifs scope pos s I vs.length (fun i v => vs[i]? = some v) (fun i h => h.IsListIter I l i ∧ h.IsList l vs.toArray) J :=
  ⟨fun i h tk Q E1 hi F hlt k => by
    have hv : vs[i]? = some vs[i] := List.getElem?_eq_getElem hlt
    refine wpAny_pyNext_list_item (x := vs[i]) hi.1 hi.2 (by rw [List.getElem?_toArray]; exact hv) fun h₂ hit₂ hs₂ => ?_
    refine let ⟨oI, eI, cI, dI⟩ := id hit₂; k _ h₂ tk oI hv eI (fun b o hb e => hs₂.extBut b o hb e) (fun Q E1 q => hlet I _ h₂ _ tk Q E1 hit₂ (List.mem_of_getElem? hv) q) fun h₅ ys n₅ F₅ N₅ J₅ e₅ => ⟨⟨oI, e₅, cI, dI⟩, ?_⟩
    exact hkeep.elim (fun ⟨o₀, e₀⟩ => let ⟨oo, eo, r⟩ := hi.2; ⟨o₀, F₅.keep _ _ e₀, Option.some.inj (eo.symm.trans (F.keep _ _ e₀)) ▸ r⟩) fun hk => let ⟨o₁, hm, r⟩ := hk _ _ _ J₅; ⟨o₁, N₅ _ hm, r⟩,
  fun h tk Q E1 hi k => wpAny_pyNext_list_end hh hi.1 hi.2 (by rw [List.getElem?_toArray]; exact List.getElem?_eq_none (Nat.le_refl _)) fun h₂ he => k h₂ tk fun b o hb e => he b o hb e,
  fun h tk acc env R hi loop => codeAny_compStart_list loop ((Walks.list hh I l hlI vs.toArray).self 0 _ _ _ hi loop)⟩
theorem range_src {elt target iter : Expr} {ifs : List Expr} {scope : Scope} {pos : Pos} {I : Addr} {a₀ : Int} {n : Nat} {h₀ : Heap} {L : Addr} {m : Str → Option Value} {J : Nat → List Value → List (Addr × Obj) → Prop} (hh : A.handled = none) (hlet : ∀ it v, letOwnedTupleGo target it v = pure ()) :
    Src prog w A h₀ L m elt target iter ifs scope pos s I n (fun i v => ∃ t, v = .int (a₀ + (i : Int)) t) (fun i h => IsRangeIter h I (a₀ + (i : Int) * 1) ((n : Int) - (i : Nat)) 1) J :=
  ⟨fun i h tk Q E1 hi F hlt k => by
    refine (Walks.range (prog := prog) (w := w) hh I a₀ 1 n).item i _ _ _ hlt hi fun v h₂ tk₂ hP hit₂ hk => ?_
    exact k v h₂ tk₂ _ (let ⟨t, e⟩ := hP; ⟨t, by rw [e, Int.mul_one]⟩) hit₂ (fun b o hb e => hk b o (fun q => hb (List.mem_singleton.mp q)) e) (fun Q E1 q => by rw [hlet]; exact wpAny_pure q) fun h₅ ys n₅ _ _ _ e₅ => e₅,
  fun h tk Q E1 hi k => (Walks.range (prog := prog) (w := w) hh I a₀ 1 n).done _ _ _ hi fun h₂ tk₂ hk => k h₂ tk₂ fun b o hb e => hk b o (fun q => hb (List.mem_singleton.mp q)) e,
  fun h tk acc env R hi loop => codeAny_compStart_list loop ((Walks.range (prog := prog) (w := w) hh I a₀ 1 n).self 0 _ _ _ hi loop)⟩
theorem fresh_ge {h₀ h : Heap} {L : Addr} {m : Str → Option Value} (F : Fr h₀ L h m) {a : Addr} (ha : @LE.le Nat _ h.objs.size a) : h₀.get? a = none := by
  cases e : h₀.get? a with
  | none => rfl
  | some o' => exact absurd (Heap.lt_size (F.keep a o' e)) (Nat.not_lt_of_le ha)
/-- the frame of a comprehension without cells of its own -/
theorem enter_G {E : Value → Shared → Prop} {env : Env} {e : Expr} {scope : Scope} {cl : List (Str × Addr)} {I : Addr} {h₀ : Heap} {L : Addr} {m : Str → Option Value} {news : List (Addr × Obj)} {RR : Value → Addr → Result → Shared → Prop}
    (hcell : ∀ y ∈ scope.names, y.2 ≠ .cell) (hkind : scope.kind = .function) (F : Fr h₀ L s.heap m) (N : News h₀ L s.heap news) (hI : @LT.lt Nat _ I s.heap.objs.size) (off : ∀ p ∈ news, p.1 ≠ I)
    (k : ∀ D C h₁ tk₁ oC mC, (∀ b o, s.heap.get? b = some o → h₁.get? b = some o) → Fr h₀ L h₁ m → NsObj oC mC → News h₀ L h₁ ((C, oC) :: (D, lst []) :: news) → Off3 I C D news → ((@Ne Nat I C) ∧ (@Ne Nat I D) ∧ (@Ne Nat C D)) →
      codeAny (model prog w) A (.compStart e 0 (.ref I) (.ref D) (compEnvC scope cl C env)) (RR (.ref D) C) { s with heap := h₁, toks := tk₁ }) :
    wpAny (model prog w) A (newList []) (fun acc s₃ => wpAny (model prog w) A (newFunctionEnv scope env.globals cl [] env.qual none .none (some env)) (fun cenv s₄ =>
      codeAny (model prog w) A (.compStart e 0 (.ref I) acc { cenv with scope := relabel scope env }) (RR acc cenv.locals) s₄) E s₃) E s := by
  refine wpAny_newObj_type (wpAny_newFunctionEnv hcell (by intro y hy; cases hy) (fun h₁ hns₁ hsb₁ => ?_) hkind)
  have hsz : @Eq Nat (s.heap.push (lst [])).objs.size (s.heap.objs.size + 1) := Heap.size_push ..
  have lC : ∀ {b : Addr}, @LT.lt Nat _ b s.heap.objs.size → @Ne Nat b (s.heap.push (lst [])).objs.size := fun h => hsz ▸ Nat.ne_of_lt (Nat.lt_succ_of_lt h)
  have old : ∀ b o, s.heap.get? b = some o → h₁.get? b = some o := fun b o e => hsb₁.extBut b o (lC (Heap.lt_size e)) (Heap.get?_push_of_some _ (Heap.get?_push_of_some _ e))
  have nDC : @Ne Nat s.heap.objs.size (s.heap.push (lst [])).objs.size := hsz ▸ Nat.ne_of_lt (Nat.lt_succ_self _)
  refine let ⟨oC, eC, nC⟩ := ns_obj hns₁; k s.heap.objs.size (s.heap.push (lst [])).objs.size h₁ _ oC _ old (F.keeps old) nC ?_ (Off3.of fun p hp => ⟨off p hp, lC (Heap.lt_size (N p hp).1), Nat.ne_of_lt (Heap.lt_size (N p hp).1)⟩) ⟨lC hI, Nat.ne_of_lt hI, Ne.symm nDC⟩
  exact List.forall_mem_cons.mpr ⟨⟨eC, (lC F.ns.lt).symm, fresh_ge F (hsz ▸ Nat.le_succ _)⟩, List.forall_mem_cons.mpr ⟨⟨hsb₁.extBut _ _ nDC (Heap.get?_push_of_some _ (Heap.get?_push_size _ rfl)), (Nat.ne_of_lt F.ns.lt).symm, fresh_ge F (Nat.le_refl _)⟩, N.grown old⟩⟩
/-- .. with one cell -/
theorem enter_K {E : Value → Shared → Prop} {env : Env} {e : Expr} {scope : Scope} {cl : List (Str × Addr)} {I : Addr} {h₀ : Heap} {L : Addr} {m : Str → Option Value} {news : List (Addr × Obj)} {RR : Value → Addr → Result → Shared → Prop}
    {xk : Str} (hcf : ∀ n, cellsFrom n scope.names cl = (xk, n) :: cl) (hpc : ∀ h : Heap, pushCells h scope.names = h.push ({ cls := .type "cell", data := .cell none } : Obj)) (F : Fr h₀ L s.heap m) (N : News h₀ L s.heap news) (hI : @LT.lt Nat _ I s.heap.objs.size) (off : ∀ p ∈ news, p.1 ≠ I)
    (k : ∀ K D C h₁ tk₁ oC mC, (∀ b o, s.heap.get? b = some o → h₁.get? b = some o) → Fr h₀ L h₁ m → NsObj oC mC → News h₀ L h₁ ((C, oC) :: (D, lst []) :: (K, ({ cls := .type "cell", data := .cell none } : Obj)) :: news) → Off3 I C D ((K, ({ cls := .type "cell", data := .cell none } : Obj)) :: news) → ((@Ne Nat I C) ∧ (@Ne Nat I D) ∧ (@Ne Nat C D)) → (∀ p ∈ news, p.1 ≠ K) →
      codeAny (model prog w) A (.compStart e 0 (.ref I) (.ref D) (compEnvC scope ((xk, K) :: cl) C env)) (RR (.ref D) C) { s with heap := h₁, toks := tk₁ }) :
    wpAny (model prog w) A (newList []) (fun acc s₃ => wpAny (model prog w) A (newFunctionEnv scope env.globals cl [] env.qual none .none (some env)) (fun cenv s₄ =>
      codeAny (model prog w) A (.compStart e 0 (.ref I) acc { cenv with scope := relabel scope env }) (RR acc cenv.locals) s₄) E s₃) E s := by
  refine wpAny_newObj_type ?_
  obtain ⟨H2, hH2⟩ : ∃ H2, H2 = s.heap.push (lst []) := ⟨_, rfl⟩
  show wpAny _ _ _ _ _ { s with heap := s.heap.push (lst []) }
  rw [← hH2]
  simp only [newFunctionEnv, Option.isSome_some, if_true]
  refine wpAny_bind (wpAny_alloc ?_)
  refine wpAny_bind (wpAny_layCells _ (fun name kind cells => by cases hkc : kind == NameKind.cell <;> simp [hkc]) _ _ _ _ ?_)
  refine wpAny_bind ?_
  rw [List.forIn_nil]
  refine wpAny_pure (wpAny_pure ?_)
  rw [hcf, hpc]
  have z0 : @Eq Nat H2.objs.size (s.heap.objs.size + 1) := hH2 ▸ Heap.size_push ..
  have z1 : @Eq Nat (H2.push { cls := .type "dict", data := .dict #[] }).objs.size (s.heap.objs.size + 2) := (Heap.size_push ..).trans (congrArg (· + 1) z0)
  have old : ∀ b o, H2.get? b = some o → ((H2.push { cls := .type "dict", data := .dict #[] }).push ({ cls := .type "cell", data := .cell none } : Obj)).get? b = some o := fun b o e => Heap.get?_push_of_some _ (Heap.get?_push_of_some _ e)
  have up : ∀ b o, s.heap.get? b = some o → H2.get? b = some o := fun b o e => hH2 ▸ Heap.get?_push_of_some _ e
  have lC : ∀ {b : Addr}, @LT.lt Nat _ b s.heap.objs.size → @Ne Nat b H2.objs.size := fun h => z0 ▸ Nat.ne_of_lt (Nat.lt_succ_of_lt h)
  have lK : ∀ {b : Addr}, @LT.lt Nat _ b s.heap.objs.size → @Ne Nat b (H2.push { cls := .type "dict", data := .dict #[] }).objs.size := fun h => z1 ▸ Nat.ne_of_lt (Nat.lt_succ_of_lt (Nat.lt_succ_of_lt h))
  have nDC : @Ne Nat s.heap.objs.size H2.objs.size := z0 ▸ Nat.ne_of_lt (Nat.lt_succ_self _)
  have nKC : @Ne Nat (H2.push { cls := .type "dict", data := .dict #[] }).objs.size H2.objs.size := z1 ▸ z0 ▸ (Nat.ne_of_lt (Nat.lt_succ_self _)).symm
  have nKD : @Ne Nat (H2.push { cls := .type "dict", data := .dict #[] }).objs.size s.heap.objs.size := z1 ▸ (Nat.ne_of_lt (Nat.lt_succ_of_lt (Nat.lt_succ_self _))).symm
  have hns₁ : Heap.Ns ((H2.push { cls := .type "dict", data := .dict #[] }).push ({ cls := .type "cell", data := .cell none } : Obj)) H2.objs.size (fun _ => none) := (Heap.Ns.new H2 (.type "dict")).keeps fun b o e => Heap.get?_push_of_some _ e
  refine let ⟨oC, eC, nC⟩ := ns_obj hns₁; k (H2.push { cls := .type "dict", data := .dict #[] }).objs.size s.heap.objs.size H2.objs.size _ _ oC _ (fun b o e => old b o (up b o e)) (F.keeps fun b o e => old b o (up b o e)) nC ?_ (Off3.of (List.forall_mem_cons.mpr ⟨⟨(lK hI).symm, nKC, nKD⟩, fun p hp => ⟨off p hp, lC (Heap.lt_size (N p hp).1), Nat.ne_of_lt (Heap.lt_size (N p hp).1)⟩⟩)) ⟨lC hI, Nat.ne_of_lt hI, Ne.symm nDC⟩ fun p hp => lK (Heap.lt_size (N p hp).1)
  exact List.forall_mem_cons.mpr ⟨⟨eC, (lC F.ns.lt).symm, fresh_ge F (z0 ▸ Nat.le_succ _)⟩, List.forall_mem_cons.mpr ⟨⟨old _ _ (hH2 ▸ Heap.get?_push_size _ rfl), (Nat.ne_of_lt F.ns.lt).symm, fresh_ge F (Nat.le_refl _)⟩, List.forall_mem_cons.mpr ⟨⟨Heap.get?_push_size _ rfl, (lK F.ns.lt).symm, fresh_ge F (z1 ▸ Nat.le_succ_of_le (Nat.le_succ _))⟩, N.grown fun b o e => old b o (up b o e)⟩⟩⟩
/-- how a list comprehension in an expression goes on -/
def FinJ (h₀ : Heap) (L : Addr) (m : Str → Option Value) (s : Shared) (J : List Value → List (Addr × Obj) → Prop) (Q : Value → Shared → Prop) : Prop :=
  ∀ D h tk ys news, J ys news → Fr h₀ L h m → News h₀ L h ((D, lst ys) :: news) → Off1 D news → Q (.ref D) { s with heap := h, toks := tk }
/-- a comprehension's source, and all that is to be shown of it -/
def CompAt (prog : Program) (w : World) (A : Around) (h₀ : Heap) (L : Addr) (m : Str → Option Value) (env : Env) (elt target : Expr) (ifs : List Expr) (scope : Scope) (cl : List (Str × Addr)) (Fin : Shared → (List Value → List (Addr × Obj) → Prop) → Prop) (xv : Value) (s₁ : Shared) : Prop :=
  ∀ G : Prop, (∀ (l : Addr) (vs : List Value) (news : List (Addr × Obj)) (J : Nat → List Value → List (Addr × Obj) → Prop), xv = .ref l → A.handled = none → s₁.heap.IsList l vs.toArray → vs.length ≤ 1000 →
    ((∃ o, h₀.get? l = some o) ∨ (∀ i ys n₁, J i ys n₁ → ∃ o, (l, o) ∈ n₁ ∧ o.cls = .type "list" ∧ ∃ k, o.data = .seq vs.toArray k)) → Fr h₀ L s₁.heap m → News h₀ L s₁.heap news → J 0 [] news → (∀ (I : Addr) (j : Nat) (h : Heap) (v : Value) (tk : Nat) (Q : Unit → Shared → Prop) (E1 : Value → Shared → Prop), h.IsListIter I l j → v ∈ vs → Q () { s₁ with heap := h, toks := tk } → wpAny (model prog w) A (letOwnedTupleGo target (.ref I) v) Q E1 { s₁ with heap := h, toks := tk }) →
    (∀ i v ys n₁, vs[i]? = some v → J i ys n₁ → TurnC prog w A h₀ L m elt target ifs (fun C => compEnvC scope cl C env) s₁ (J (i + 1)) v ys n₁) → Fin s₁ (J vs.length) → G) → G
theorem listComp_G {E : Value → Shared → Prop} {env : Env} {elt iter target : Expr} {ifs : List Expr} {scope : Scope} {cl : List (Str × Addr)} {pos : Pos} {Q : Value → Shared → Prop} {h₀ : Heap} {L : Addr} {m : Str → Option Value}
    (_F₀ : Fr h₀ L s.heap m) (hclos : closureFor scope env = pure cl) (hcell : ∀ y ∈ scope.names, y.2 ≠ .cell) (hkind : scope.kind = .function)
    (hnames : ∀ y ∈ scope.names, y.2 = .local → scope.names.lookup y.1 = some .local)
    (h : wpAny (model prog w) A (eval iter env) (CompAt prog w A h₀ L m env elt target ifs scope cl (fun s₂ J => FinJ h₀ L m s₂ J Q)) E s)
    (hs : ∀ x, foldedSetIterable iter env x = pure x := by intro _; rfl) :
    wpAny (model prog w) A (eval (.ListComp elt [⟨target, iter, ifs, 0⟩] scope pos) env) Q E s := by
  rw [eval_ListComp]
  refine wpAny_comprehension_free (use := none) rfl hs hclos hkind hnames (wpAny_mono h (fun xv s₁ h₁ => ?_) fun _ _ e => e)
  refine h₁ _ fun l vs news J e hh hl hlen hkeep F N hj hlet turn r3 => ?_
  subst e
  refine wpAny_pyIter_list hl ?_
  have up : ∀ b o, s₁.heap.get? b = some o → (s₁.heap.push { cls := .type "list_iterator", data := .fields #[.ref l, .int 0 0] }).get? b = some o := fun b o e => Heap.get?_push_of_some _ e
  have hlt : l < s₁.heap.objs.size := let ⟨_, e, _⟩ := hl; Heap.lt_size e
  refine enter_G hcell hkind (F.keeps up) (N.grown up) (by rw [Heap.size_push]; exact Nat.lt_succ_self _) (fun p hp => Nat.ne_of_lt (Heap.lt_size (N p hp).1)) fun D C h₁ tk₁ oC mC old F1 hoC N1 off1 ne => ?_
  have zC := (N1 _ (.head _)).2
  refine comp_start (s := s₁) (env := fun C => compEnvC scope cl C env) (list_src hh (Nat.ne_of_lt hlt) hlet hkeep) hlen (Nat.ne_of_lt F.ns.lt) (next_is_new F) ⟨⟨_, old _ _ (Heap.get?_push_size _ rfl), rfl, rfl⟩, let ⟨o, e, r⟩ := hl; ⟨o, old _ _ (up _ _ e), r⟩⟩ F1 hoC N1 off1 ne hj (fun i v ys n₁ _ hv hJ => turn i v ys n₁ hv hJ) fun h tk m' ys news' F' N' o1 hn offC fin => ?_
  refine ⟨m', hn, fun h'' hs'' => r3 D h'' tk ys news' fin (F'.change hs'' zC.1 zC.2) (fun p hp => ?_) o1⟩
  refine ⟨hs''.extBut _ _ ?_ (N' p hp).1, (N' p hp).2⟩
  rcases List.mem_cons.mp hp with rfl | hp
  · exact Ne.symm ne.2.2
  · exact offC p hp
/-- a comprehension's source, and all that is to be shown of it -/
def CompAtK (xk : Str) (prog : Program) (w : World) (A : Around) (h₀ : Heap) (L : Addr) (m : Str → Option Value) (env : Env) (elt target : Expr) (ifs : List Expr) (scope : Scope) (cl : List (Str × Addr)) (Fin : Shared → (List Value → List (Addr × Obj) → Prop) → Prop) (xv : Value) (s₁ : Shared) : Prop :=
  ∀ G : Prop, (∀ (l : Addr) (vs : List Value) (news : List (Addr × Obj)) (J : Addr → Nat → List Value → List (Addr × Obj) → Prop), xv = .ref l → A.handled = none → s₁.heap.IsList l vs.toArray → vs.length ≤ 1000 →
    ((∃ o, h₀.get? l = some o) ∨ (∀ K i ys n₁, J K i ys n₁ → ∃ o, (l, o) ∈ n₁ ∧ o.cls = .type "list" ∧ ∃ k, o.data = .seq vs.toArray k)) → Fr h₀ L s₁.heap m → News h₀ L s₁.heap news → (∀ K, (∀ p ∈ news, p.1 ≠ K) → J K 0 [] ((K, ({ cls := .type "cell", data := .cell none } : Obj)) :: news)) → (∀ (I : Addr) (j : Nat) (h : Heap) (v : Value) (tk : Nat) (Q : Unit → Shared → Prop) (E1 : Value → Shared → Prop), h.IsListIter I l j → v ∈ vs → Q () { s₁ with heap := h, toks := tk } → wpAny (model prog w) A (letOwnedTupleGo target (.ref I) v) Q E1 { s₁ with heap := h, toks := tk }) →
    (∀ K i v ys n₁, vs[i]? = some v → J K i ys n₁ → TurnC prog w A h₀ L m elt target ifs (fun C => compEnvC scope ((xk, K) :: cl) C env) s₁ (J K (i + 1)) v ys n₁) → (∀ K, Fin s₁ (J K vs.length)) → G) → G
theorem listComp_K {E : Value → Shared → Prop} {env : Env} {elt iter target : Expr} {ifs : List Expr} {scope : Scope} {cl : List (Str × Addr)} {pos : Pos} {Q : Value → Shared → Prop} {h₀ : Heap} {L : Addr} {m : Str → Option Value}
    (_F₀ : Fr h₀ L s.heap m) (hclos : closureFor scope env = pure cl) {xk : Str} (hcf : ∀ n, cellsFrom n scope.names cl = (xk, n) :: cl) (hpc : ∀ h : Heap, pushCells h scope.names = h.push ({ cls := .type "cell", data := .cell none } : Obj)) (hkind : scope.kind = .function)
    (hnames : ∀ y ∈ scope.names, y.2 = .local → scope.names.lookup y.1 = some .local)
    (h : wpAny (model prog w) A (eval iter env) (CompAtK xk prog w A h₀ L m env elt target ifs scope cl (fun s₂ J => FinJ h₀ L m s₂ J Q)) E s)
    (hs : ∀ x, foldedSetIterable iter env x = pure x := by intro _; rfl) :
    wpAny (model prog w) A (eval (.ListComp elt [⟨target, iter, ifs, 0⟩] scope pos) env) Q E s := by
  rw [eval_ListComp]
  refine wpAny_comprehension_free (use := none) rfl hs hclos hkind hnames (wpAny_mono h (fun xv s₁ h₁ => ?_) fun _ _ e => e)
  refine h₁ _ fun l vs news J e hh hl hlen hkeep F N hj hlet turn r3 => ?_
  subst e
  refine wpAny_pyIter_list hl ?_
  have up : ∀ b o, s₁.heap.get? b = some o → (s₁.heap.push { cls := .type "list_iterator", data := .fields #[.ref l, .int 0 0] }).get? b = some o := fun b o e => Heap.get?_push_of_some _ e
  have hlt : l < s₁.heap.objs.size := let ⟨_, e, _⟩ := hl; Heap.lt_size e
  refine enter_K hcf hpc (F.keeps up) (N.grown up) (by rw [Heap.size_push]; exact Nat.lt_succ_self _) (fun p hp => Nat.ne_of_lt (Heap.lt_size (N p hp).1)) fun K D C h₁ tk₁ oC mC old F1 hoC N1 off1 ne offK => ?_
  have zC := (N1 _ (.head _)).2
  refine comp_start (s := s₁) (env := fun C => compEnvC scope ((xk, K) :: cl) C env) (list_src hh (Nat.ne_of_lt hlt) hlet (hkeep.imp id fun x => x K)) hlen (Nat.ne_of_lt F.ns.lt) (next_is_new F) ⟨⟨_, old _ _ (Heap.get?_push_size _ rfl), rfl, rfl⟩, let ⟨o, e, r⟩ := hl; ⟨o, old _ _ (up _ _ e), r⟩⟩ F1 hoC N1 off1 ne (hj K offK) (fun i v ys n₁ _ hv hJ => turn K i v ys n₁ hv hJ) fun h tk m' ys news' F' N' o1 hn offC fin => ?_
  refine ⟨m', hn, fun h'' hs'' => r3 K D h'' tk ys news' fin (F'.change hs'' zC.1 zC.2) (fun p hp => ?_) o1⟩
  refine ⟨hs''.extBut _ _ ?_ (N' p hp).1, (N' p hp).2⟩
  rcases List.mem_cons.mp hp with rfl | hp
  · exact Ne.symm ne.2.2
  · exact offC p hp
/-- how a list comprehension given to a name goes on -/
def FinJA (h₀ : Heap) (L : Addr) (m : Str → Option Value) (s : Shared) (y : Str) (J : List Value → List (Addr × Obj) → Prop) (Q : Flow → Shared → Prop) : Prop :=
  ∀ D h tk ys news, J ys news → Fr h₀ L h (fun z => if z = y then some (.ref D) else m z) → News h₀ L h ((D, lst ys) :: news) → Off1 D news → Q .next { s with heap := h, toks := tk }
theorem listComp_A {E : Value → Shared → Prop} {env : Env} {elt iter target : Expr} {ifs : List Expr} {scope : Scope} {cl : List (Str × Addr)} {pos spos py : Pos} {y : Str} {Q : Flow → Shared → Prop} {h₀ : Heap} {L : Addr} {m : Str → Option Value}
    (hLe : env.locals = L) (hsw : swapsWith (.ListComp elt [⟨target, iter, ifs, 0⟩] scope pos) (some (.Name y py)) spos.line env = pure true)
    (hy : env.kindOf y = some .local) (hp : (env.scope.kind == .class || (env.scope.kind == .module && env.locals != env.globals)) = false)
    (_F₀ : Fr h₀ L s.heap m) (hclos : closureFor scope env = pure cl) (hcell : ∀ y ∈ scope.names, y.2 ≠ .cell) (hkind : scope.kind = .function)
    (hnames : ∀ y ∈ scope.names, y.2 = .local → scope.names.lookup y.1 = some .local)
    (h : wpAny (model prog w) A (eval iter env) (CompAt prog w A h₀ L m env elt target ifs scope cl (fun s₂ J => FinJA h₀ L m s₂ y J Q)) E s)
    (hs : ∀ x, foldedSetIterable iter env x = pure x := by intro _; rfl) :
    wpAny (model prog w) A (exec (.Assign [.Name y py] (.ListComp elt [⟨target, iter, ifs, 0⟩] scope pos) spos) env) Q E s := by
  subst hLe
  rw [exec_Assign_Name_used _ _ _ _ hsw]
  refine wpAny_bind (wpAny_standAt (wpAny_bind ?_))
  show wpAny _ A (do let _ ← comprehension (.ListComp elt [⟨target, iter, ifs, 0⟩] scope pos) scope env _ (newList []) false (eval iter env) (some (assign (.Name y py) env))) _ _ s
  refine wpAny_bind (wpAny_mono (wpAny_comprehension_free (use := some (assign (.Name y py) env)) (Q := fun _ s' => Q .next s') rfl hs hclos hkind hnames
    (wpAny_mono h (fun xv s₁ h₁ => ?_) fun _ _ e => e)) (fun _ s' hq => wpAny_pure (wpAny_pure hq)) fun _ _ e => e)
  refine h₁ _ fun l vs news J e hh hl hlen hkeep F N hj hlet turn r3 => ?_
  subst e
  refine wpAny_pyIter_list hl ?_
  have up : ∀ b o, s₁.heap.get? b = some o → (s₁.heap.push { cls := .type "list_iterator", data := .fields #[.ref l, .int 0 0] }).get? b = some o := fun b o e => Heap.get?_push_of_some _ e
  have hlt : l < s₁.heap.objs.size := let ⟨_, e, _⟩ := hl; Heap.lt_size e
  refine enter_G hcell hkind (F.keeps up) (N.grown up) (by rw [Heap.size_push]; exact Nat.lt_succ_self _) (fun p hp => Nat.ne_of_lt (Heap.lt_size (N p hp).1)) fun D C h₁ tk₁ oC mC old F1 hoC N1 off1 ne => ?_
  have zC := (N1 _ (.head _)).2
  refine comp_start (s := s₁) (env := fun C => compEnvC scope cl C env) (list_src hh (Nat.ne_of_lt hlt) hlet hkeep) hlen (Nat.ne_of_lt F.ns.lt) (next_is_new F) ⟨⟨_, old _ _ (Heap.get?_push_size _ rfl), rfl, rfl⟩, let ⟨o, e, r⟩ := hl; ⟨o, old _ _ (up _ _ e), r⟩⟩ F1 hoC N1 off1 ne hj (fun i v ys n₁ _ hv hJ => turn i v ys n₁ hv hJ) fun h tk m' ys news' F' N' o1 hn offC fin => ?_
  show wpAny _ A (assign (.Name y py) env (.ref D)) _ _ _
  refine wpAny_assign_Name (wpAny_storeName_local hy F'.ns (fun h₂ hn₂ hs₂ => ?_) hp)
  have hL₀ : h₀.get? env.locals = none := Heap.get?_none_of_le F'.above
  have F₂ : Fr h₀ env.locals h₂ (fun z => if z = y then some (.ref D) else m z) := ⟨hn₂, fun b o e => hs₂.extBut b o (fun q => by rw [q, hL₀] at e; cases e) (F'.keep b o e), F'.above⟩
  refine ⟨m', hn.sameBut hs₂ zC.1, fun h'' hs'' => r3 D h'' _ ys news' fin (F₂.change hs'' zC.1 zC.2) (fun p hp => ?_) o1⟩
  refine ⟨hs''.extBut _ _ ?_ (hs₂.extBut _ _ (N' p hp).2.1 (N' p hp).1), (N' p hp).2⟩
  rcases List.mem_cons.mp hp with rfl | hp
  · exact Ne.symm ne.2.2
  · exact offC p hp
/-- a comprehension's source, and all that is to be shown of it -/
def CompAtR (prog : Program) (w : World) (A : Around) (h₀ : Heap) (L : Addr) (m : Str → Option Value) (env : Env) (elt target : Expr) (ifs : List Expr) (scope : Scope) (cl : List (Str × Addr)) (Fin : Shared → (List Value → List (Addr × Obj) → Prop) → Prop) (xv : Value) (s₁ : Shared) : Prop :=
  ∀ G : Prop, (∀ (r : Addr) (a₀ b₀ : Int) (tR uR vR : Tok) (nR : Nat) (news : List (Addr × Obj)) (J : Nat → List Value → List (Addr × Obj) → Prop), xv = .ref r → A.handled = none → IsRange s₁.heap r a₀ b₀ 1 tR uR vR → Builtin.Range.small a₀ b₀ 1 = true → Builtin.Range.rangeSize a₀ b₀ 1 = (nR : Int) → nR ≤ 1000 → Fr h₀ L s₁.heap m → News h₀ L s₁.heap news → J 0 [] news →
    (∀ i t ys n₁, i < nR → J i ys n₁ → TurnC prog w A h₀ L m elt target ifs (fun C => compEnvC scope cl C env) s₁ (J (i + 1)) (.int (a₀ + (i : Int)) t) ys n₁) → Fin s₁ (J nR) → G) → G
theorem listComp_AR {E : Value → Shared → Prop} {env : Env} {elt iter target : Expr} {ifs : List Expr} {scope : Scope} {cl : List (Str × Addr)} {pos spos py : Pos} {y : Str} {Q : Flow → Shared → Prop} {h₀ : Heap} {L : Addr} {m : Str → Option Value}
    (hLe : env.locals = L) (hsw : swapsWith (.ListComp elt [⟨target, iter, ifs, 0⟩] scope pos) (some (.Name y py)) spos.line env = pure true)
    (hy : env.kindOf y = some .local) (hp : (env.scope.kind == .class || (env.scope.kind == .module && env.locals != env.globals)) = false)
    (_F₀ : Fr h₀ L s.heap m) (hclos : closureFor scope env = pure cl) (hcell : ∀ y ∈ scope.names, y.2 ≠ .cell) (hkind : scope.kind = .function)
    (hnames : ∀ y ∈ scope.names, y.2 = .local → scope.names.lookup y.1 = some .local)
    (h : wpAny (model prog w) A (eval iter env) (CompAtR prog w A h₀ L m env elt target ifs scope cl (fun s₂ J => FinJA h₀ L m s₂ y J Q)) E s)
    (hlet : ∀ it v, letOwnedTupleGo target it v = pure () := by intro _ _; rfl) (hs : ∀ x, foldedSetIterable iter env x = pure x := by intro _; rfl) :
    wpAny (model prog w) A (exec (.Assign [.Name y py] (.ListComp elt [⟨target, iter, ifs, 0⟩] scope pos) spos) env) Q E s := by
  subst hLe
  rw [exec_Assign_Name_used _ _ _ _ hsw]
  refine wpAny_bind (wpAny_standAt (wpAny_bind ?_))
  show wpAny _ A (do let _ ← comprehension (.ListComp elt [⟨target, iter, ifs, 0⟩] scope pos) scope env _ (newList []) false (eval iter env) (some (assign (.Name y py) env))) _ _ s
  refine wpAny_bind (wpAny_mono (wpAny_comprehension_free (use := some (assign (.Name y py) env)) (Q := fun _ s' => Q .next s') rfl hs hclos hkind hnames
    (wpAny_mono h (fun xv s₁ h₁ => ?_) fun _ _ e => e)) (fun _ s' hq => wpAny_pure (wpAny_pure hq)) fun _ _ e => e)
  refine h₁ _ fun r a₀ b₀ tR uR vR nR news J e hh hr hsmall hn hlen F N hj turn r3 => ?_
  subst e
  refine wpAny_pyIter_range hr hsmall ?_
  rw [hn]
  have up : ∀ b o, s₁.heap.get? b = some o → (s₁.heap.push { cls := .type "range_iterator", data := .fields #[rawInt a₀, rawInt (nR : Int), rawInt 1] }).get? b = some o := fun b o e => Heap.get?_push_of_some _ e
  refine enter_G hcell hkind (F.keeps up) (N.grown up) (by rw [Heap.size_push]; exact Nat.lt_succ_self _) (fun p hp => Nat.ne_of_lt (Heap.lt_size (N p hp).1)) fun D C h₁ tk₁ oC mC old F1 hoC N1 off1 ne => ?_
  have zC := (N1 _ (.head _)).2
  refine comp_start (s := s₁) (env := fun C => compEnvC scope cl C env) (range_src hh hlet) hlen (Nat.ne_of_lt F.ns.lt) (next_is_new F) (by have z : IsRangeIter h₁ s₁.heap.objs.size a₀ (nR : Int) 1 := old _ _ (Heap.get?_push_size _ rfl); simpa using z) F1 hoC N1 off1 ne hj (fun i v ys n₁ hi hv hJ => hv.elim fun t e => e ▸ turn i t ys n₁ hi hJ) fun h tk m' ys news' F' N' o1 hn offC fin => ?_
  show wpAny _ A (assign (.Name y py) env (.ref D)) _ _ _
  refine wpAny_assign_Name (wpAny_storeName_local hy F'.ns (fun h₂ hn₂ hs₂ => ?_) hp)
  have hL₀ : h₀.get? env.locals = none := Heap.get?_none_of_le F'.above
  have F₂ : Fr h₀ env.locals h₂ (fun z => if z = y then some (.ref D) else m z) := ⟨hn₂, fun b o e => hs₂.extBut b o (fun q => by rw [q, hL₀] at e; cases e) (F'.keep b o e), F'.above⟩
  refine ⟨m', hn.sameBut hs₂ zC.1, fun h'' hs'' => r3 D h'' _ ys news' fin (F₂.change hs'' zC.1 zC.2) (fun p hp => ?_) o1⟩
  refine ⟨hs''.extBut _ _ ?_ (hs₂.extBut _ _ (N' p hp).2.1 (N' p hp).1), (N' p hp).2⟩
  rcases List.mem_cons.mp hp with rfl | hp
  · exact Ne.symm ne.2.2
  · exact offC p hp
/-- the store of a comprehension's own name -/
theorem comp_store {E : Value → Shared → Prop} {env : Env} {scope : Scope} {cl : List (Str × Addr)} {h₀ : Heap} {L I C D : Addr} {m mC : Str → Option Value} {oI oC oD : Obj} {n₁ : List (Addr × Obj)} {x : Str} {px : Pos} {v : Value} {Q : Unit → Shared → Prop}
    (hx : scope.names.lookup x = some .local) (hkind : scope.kind = .function) (F : Fr h₀ L s.heap m) (hoC : NsObj oC mC) (N : News h₀ L s.heap ((I, oI) :: (C, oC) :: (D, oD) :: n₁)) (off : Off3 I C D n₁) (ne : (@Ne Nat I C) ∧ (@Ne Nat I D) ∧ (@Ne Nat C D))
    (h : ∀ h' oC' m₂, Fr h₀ L h' m → NsObj oC' m₂ → m₂ x = some v → (∀ z, z ≠ x → m₂ z = mC z) → News h₀ L h' ((I, oI) :: (C, oC') :: (D, oD) :: n₁) → Q () { s with heap := h', toks := s.toks + 1 }) :
    wpAny (model prog w) A (assign (.Name x px) (compEnvC scope cl C env) v) Q E s := by
  have zC := N (C, oC) (.tail _ (.head _))
  refine wpAny_assign_Name (wpAny_storeName_local (lookup_relabel_local hx) (hoC.ns zC.1) (fun h₃ hn₃ hs₃ => ?_) (by simp [compEnvC, relabel, hkind]))
  obtain ⟨oC', eC', hoC'⟩ := ns_obj hn₃
  have offm := off.mem
  refine h h₃ oC' _ (F.change hs₃ zC.2.1 zC.2.2) hoC' (if_pos rfl) (fun z hz => if_neg hz) fun p hp => ?_
  rcases List.mem_cons.mp hp with rfl | hp
  · have q := N _ (List.mem_cons_self ..)
    exact ⟨hs₃.extBut _ _ ne.1 q.1, q.2⟩
  · rcases List.mem_cons.mp hp with rfl | hp
    · exact ⟨eC', zC.2⟩
    · have q := N p (.tail _ (.tail _ hp))
      refine ⟨hs₃.extBut _ _ ?_ q.1, q.2⟩
      rcases List.mem_cons.mp hp with rfl | hp
      · exact Ne.symm ne.2.2
      · exact (offm p hp).2.1
end
end
/-! ## CGC -/
section
open PySem PySem.Spec PySem.Calls PySem.W PyProof.Rows PyProof.Rows.LCg
open PySem.Sem (wp)
section
variable {prog : Program} {w : World} {A₀ A : Around} {s : Shared} {base h₀ : Heap} {outer : List Env} {L : Addr} {m mg mb : Str → Option Value} {env : Env} {xs : List (Addr × Obj)} {K : Frag} {p : Program} {loose : List Str} {mean : ExcName → Option Value}
  {R : Result → Shared → Prop} {name qual : Str} {params : Arguments} {body : List Stmt} {scope : Scope} {dV kV doc pm cdv ct oc : Value} {an od : Option Addr} {osl : Array (Option Value)} {f : Addr} {args : Args} {binds : List (Str × Value)}
/-- as enterH, of a def with cells -/
theorem enterHC (B : Below A₀ base outer h₀) (F : Fr h₀ L s.heap m) (X₀ : K.In h₀) (N : News h₀ L s.heap xs) (T : Top p loose mean mg mb h₀) (hA : A.frames = some (env :: outer)) (hf : env.frame = some L) (hke : env.scope.kind = .function)
    (ho : K.lookup f = some ⟨oc, od, .func (fnOf name qual params body scope dV kV doc pm an cdv ct), osl⟩) (hcd : codeIn K cdv qual = true) (hroom : A.depth < recursionLimit)
    (hbind : BindsTo s (fnOf name qual params body scope dV kV doc pm an cdv ct) args binds) (hkind : (binds.all fun y => scope.names.lookup y.1 == some .local || scope.names.lookup y.1 == some .cell) = true)
    (hnd : ((cellsFrom 0 scope.names []).map (·.1)).Nodup)
    (h : ∀ g L' h₁ tk cells, KeepB xs s.heap g → Fr g L' h₁ (bindL (envOfC qual scope L' f cdv).kindOf binds fun _ => none) → News g L' h₁ (cells ++ xs) →
      CellsAre (bindC (envOfC qual scope L' f cdv).kindOf binds fun _ => none) (cellsFrom (L' + 1) scope.names []) cells → Below A base (env :: outer) g → K.In g → Top p loose mean mg mb g → (∀ p ∈ xs, p.1 < L') →
      wpAny (model prog w) (A.deeper (envOfC qual scope L' f cdv)) (execs body (envOfC qual scope L' f cdv))
        (fun fl s' => Back h₀ L m xs s.heap g L' R (match fl with | .ret v => v | _ => .none) s')
        (fun e s' => wpAny (model prog w) (A.deeper (envOfC qual scope L' f cdv)) (leaving (envOfC qual scope L' f cdv) e) (fun _ s'' => R (.error e) s'') (fun e' s'' => R (.error e') s'') s')
        { s with heap := h₁, toks := tk })
    (hco : scope.isCoroutine = false) (hgen : scope.isGenerator = false) (hk : scope.kind = .function) : codeAny (model prog w) A (.call (.ref f) args) R s := by
  refine hide fun G99 hG99 => ?_
  obtain ⟨FG, BG, st, -⟩ := groundX (R := R) B F N hA hf hke
  refine hG99 ?_
  clear hG99 G99
  refine codeAny_call_function hroom ((X₀.keeps F.keep) _ _ ho) rfl hco hgen rfl (codeRec_of (X₀.keeps F.keep) hcd) (hbind _ _ _ _ ?_)
  refine wpAny_newFunctionEnv_cells hk (kindsX hkind _) fun env' he s' x => ?_
  subst he
  refine ⟨(T.nolimit.keeps F.keep).keeps x.toInCall.keep, codeAny_func ?_⟩
  refine hide fun G99 hG99 => ?_
  obtain ⟨h₁, tk, rfl, _⟩ := x.done
  refine hG99 ?_
  clear hG99 G99
  have hk₁ := x.toInCall.keep
  obtain ⟨cells, NC, Y⟩ := Cl.news (h₀ := s.heap) (Nat.le_refl _) fun n c hm => ⟨x.cell n c (lookup_of_mem_nodup (cellsFrom_names scope.names 0 (s.heap.objs.size + 1) [] [] rfl ▸ hnd) hm), x.above n c hm⟩
  have kb : KeepB xs s.heap (hideAll s.heap (xs.map (·.1))) := fun b o e nb => hideAll_get _ e nb
  refine wpAny_mono (h _ s.heap.objs.size h₁ tk cells kb ⟨x.toInCall.ns, fun b o e => hk₁ b o (of_hideAll _ e), Nat.le_of_eq (hideAll_size _ _)⟩ (fun p hp => ?_) Y BG (X₀.keeps st) (T.keeps st) (fun p hp => Heap.lt_size (N p hp).1)) (fun fl s' hl => ?_) fun _ _ y => y
  · rcases List.mem_append.mp hp with hp | hp
    · refine ⟨(NC p hp).1, (NC p hp).2.1, ?_⟩
      cases q : (hideAll s.heap (xs.map (·.1))).get? p.1 with
      | none => rfl
      | some o => have := of_hideAll _ q; rw [(NC p hp).2.2] at this; cases this
    · exact ⟨hk₁ _ _ (N p hp).1, Nat.ne_of_lt (Heap.lt_size (N p hp).1), hideAll_none _ (List.mem_map_of_mem hp)⟩
  · obtain ⟨m', F', k⟩ := hl
    refine hide fun G99 hG99 => ?_
    obtain ⟨⟨oL, es, ep, hL, r⟩, _, _⟩ := FG
    refine hG99 ?_
    clear hG99 G99
    exact k ⟨⟨oL, es, ep, F'.keep _ _ hL, r⟩, fun b o e => F'.keep _ _ (st b o e), F.above⟩ (fun b o e nb => F'.keep _ _ (kb b o e nb))
end
end
/-! ## NCI1 -/
section
local macro_rules | `(tactic| ktn_no "ep?") => `(tactic| skip)
abbrev tabD (w : World) (t1 t2 t3 t4 t5 t6 t7 t8 : Tok) (nm rt lc rp l1 l2 sq l3 : Value) : Obj := dictOf [entW w "name" t1 nm, entW w "root" t2 rt, entW w "columns" t3 lc, entW w "rowid_place" t4 rp, entW w "indexes" t5 l1, entW w "checks" t6 l2, entW w "sql" t7 sq, entW w "primary" t8 l3] 8
def TabX (w : World) (X : Obj) (lc : Addr) (rp : Val) : Prop := ∃ t1 t2 t3 t4 t5 t6 t7 t8 tn rt rpv l1 l2 sq l3, X = tabD w t1 t2 t3 t4 t5 t6 t7 t8 (.str (Str.ofString "t") tn) rt (.ref lc) rpv l1 l2 sq l3 ∧ IsVal rpv rp
def IsTab (w : World) (h : Heap) (x lc : Addr) (rp : Val) : Prop := ∃ dx X, h.get? x = some (instObj 568 dx) ∧ h.get? dx = some X ∧ TabX w X lc rp
theorem isTab_keep {w : World} {h h' : Heap} {x lc : Addr} {rp : Val} (I : IsTab w h x lc rp) (hk : ∀ b o, h.get? b = some o → h'.get? b = some o) : IsTab w h' x lc rp :=
  let ⟨dx, X, a, b, c⟩ := I; ⟨dx, X, hk _ _ a, hk _ _ b, c⟩
theorem tab_out {G : Prop} {w : World} {h : Heap} {x lc : Addr} {rp : Val} (I : IsTab w h x lc rp) (k : ∀ dx t1 t2 t3 t4 t5 t6 t7 t8 tn rt rpv l1 l2 sq l3, h.get? x = some (instObj 568 dx) → h.get? dx = some (tabD w t1 t2 t3 t4 t5 t6 t7 t8 (.str (Str.ofString "t") tn) rt (.ref lc) rpv l1 l2 sq l3) → IsVal rpv rp → G) : G := by
  refine hide fun G99 hG99 => ?_
  obtain ⟨dx, X, a, b, c⟩ := I
  refine hG99 ?_
  clear hG99 G99
  refine hide fun G99 hG99 => ?_
  obtain ⟨t1, t2, t3, t4, t5, t6, t7, t8, tn, rt, rpv, l1, l2, sq, l3, e, v⟩ := c
  refine hG99 ?_
  clear hG99 G99
  exact k dx t1 t2 t3 t4 t5 t6 t7 t8 tn rt rpv l1 l2 sq l3 a (e ▸ b) v
/-- the value of a column -/
def rowVal (rp : Val) (p : Int) (rid : Int) (ds : List Val) : Val := if p = -1 then some rid else if rp = some p then some rid else if p < ds.length then ds.getD p.toNat none else none
set_option maxHeartbeats 4000000 in
theorem ct_rowval {w : World} {mean mg mb} {x lc lv : Addr} {rp : Val} {p rid : Int} {tp tr : Tok} {vs : List Value} {ds : List Val} (hp : -1 ≤ p) (hv1 : ValsAre vs ds) (hd1 : ds.length ≤ 40) : Tell w mean mg mb 305 4 [.ref x, .int p tp, .int rid tr, .ref lv] [] (fun h => IsTab w h x lc rp ∧ h.IsList lv (List.toArray vs)) (fun _ r _ => IsVal r (rowVal rp p rid ds)) := by
  revert w mean mg mb x lc lv rp p rid tp tr vs ds hp hv1 hd1
  ((refine @all8 _ _ _ _ _ _ _ _ (by ktn_no "ne") (by ktn_no "ne") (by ktn_no "ne") (by ktn_no "ne") (by ktn_no "ne") (by ktn_no "ne") (by ktn_no "ne") (by ktn_no "ne") _ ?_; generalize E8a _ _ _ _ _ _ _ _ _ = w, E8b _ _ _ _ _ _ _ _ _ = mean, E8c _ _ _ _ _ _ _ _ _ = mg, E8d _ _ _ _ _ _ _ _ _ = mb, E8e _ _ _ _ _ _ _ _ _ = x, E8f _ _ _ _ _ _ _ _ _ = lc, E8g _ _ _ _ _ _ _ _ _ = lv, E8h _ _ _ _ _ _ _ _ _ = rp); (refine @all6 _ _ _ _ _ _ (by ktn_no "ne") (by ktn_no "ne") (by ktn_no "ne") (by ktn_no "ne") (by ktn_no "ne") (by ktn_no "ne") _ ?_; generalize E6a _ _ _ _ _ _ _ = p, E6b _ _ _ _ _ _ _ = rid, E6c _ _ _ _ _ _ _ = tp, E6d _ _ _ _ _ _ _ = tr, E6e _ _ _ _ _ _ _ = vs, E6f _ _ _ _ _ _ _ = ds; intro hp hv1 hd1))
  (refine tell_in _ _ _ _ _ _ _ _ _ _ ?_; k_fill; generalize TX.dp (tx _ _ _ _ _ _ _ _ _ _) = dp, TX.un (tx _ _ _ _ _ _ _ _ _ _) = un, TX.gd (tx _ _ _ _ _ _ _ _ _ _) = gd, TX.cn (tx _ _ _ _ _ _ _ _ _ _) = cn, TX.cs (tx _ _ _ _ _ _ _ _ _ _) = cs, TX.a (tx _ _ _ _ _ _ _ _ _ _) = a, TX.ccd (tx _ _ _ _ _ _ _ _ _ _) = ccd, TX.cl (tx _ _ _ _ _ _ _ _ _ _) = cl, TX.outer (tx _ _ _ _ _ _ _ _ _ _) = outer, TX.A₀ (tx _ _ _ _ _ _ _ _ _ _) = A₀, TX.base (tx _ _ _ _ _ _ _ _ _ _) = base, TX.h₀ (tx _ _ _ _ _ _ _ _ _ _) = h₀, TX.L (tx _ _ _ _ _ _ _ _ _ _) = L, TX.m (tx _ _ _ _ _ _ _ _ _ _) = m, TX.s (tx _ _ _ _ _ _ _ _ _ _) = s, TX.Q (tx _ _ _ _ _ _ _ _ _ _) = Q, TX.E (tx _ _ _ _ _ _ _ _ _ _) = E; intro B F X N T hk hpre hd hu hret)
  (refine cur2 ?_ (hpre); intro p1 p2)
  have hvl := ValsAre.length hv1
  ktr_enter
  rename KeepB _ _ _ => kg0
  refine tab_out p1 ?_
  ((refine all8 ?_; generalize E8a _ _ _ _ _ _ _ _ _ = dx, E8b _ _ _ _ _ _ _ _ _ = t1, E8c _ _ _ _ _ _ _ _ _ = t2, E8d _ _ _ _ _ _ _ _ _ = t3, E8e _ _ _ _ _ _ _ _ _ = t4, E8f _ _ _ _ _ _ _ _ _ = t5, E8g _ _ _ _ _ _ _ _ _ = t6, E8h _ _ _ _ _ _ _ _ _ = t7); (refine all8 ?_; generalize E8a _ _ _ _ _ _ _ _ _ = t8, E8b _ _ _ _ _ _ _ _ _ = tn, E8c _ _ _ _ _ _ _ _ _ = rt, E8d _ _ _ _ _ _ _ _ _ = rpv, E8e _ _ _ _ _ _ _ _ _ = l1, E8f _ _ _ _ _ _ _ _ _ = l2, E8g _ _ _ _ _ _ _ _ _ = sq, E8h _ _ _ _ _ _ _ _ _ = l3; intro i1 i2 i3))
  have Ix := inst_base kg0 (inst_of i1 i2)
  have Iv := isList_base kg0 p2
  cases rp with
  | none =>
    cases i3
    by_cases h1 : p = -1
    · have e9 : rowVal none p rid ds = some rid := by simp [rowVal, h1]
      (repeat' ((fail_if_success (ktn_no "stop")); first | (k_unfold; (try dsimp only)) | walk1 | (dsimp only; walk1)))
      all_goals exact back_intro (by assumption) fun f k => hret _ _ _ f k (by rw [e9]; exact ⟨_, rfl⟩)
    · skip
      by_cases h2 : p < (vs.length : Int)
      · (refine ex1 ((⟨vs[p.toNat]'(by omega), List.getElem?_eq_getElem (by omega)⟩ : ∃ v, vs[p.toNat]? = some v)) ?_; generalize X1a _ _ = v; intro hv9)
        (refine ex1 (ValsAre.at hv1 hv9) ?_; generalize X1a _ _ = d; refine cur2 ?_; intro hd9 hvd)
        have e9 : rowVal none p rid ds = d := by
          unfold rowVal
          rw [if_neg h1, if_neg (by simp), if_pos (by omega), List.getD_eq_getElem?_getD, hd9]; rfl
        (repeat' ((fail_if_success (ktn_no "stop")); first | (k_unfold; (try dsimp only)) | walk1 | (dsimp only; walk1)))
        all_goals exact back_intro (by assumption) fun f k => hret _ _ _ f k (by rw [e9]; exact hvd)
      · have e9 : rowVal none p rid ds = none := by
          unfold rowVal
          rw [if_neg h1, if_neg (by simp), if_neg (by omega)]
        (repeat' ((fail_if_success (ktn_no "stop")); first | (k_unfold; (try dsimp only)) | walk1 | (dsimp only; walk1)))
        all_goals exact back_intro (by assumption) fun f k => hret _ _ _ f k (by rw [e9]; exact rfl)
  | some q =>
    (refine ex1 (i3) ?_; generalize X1a _ _ = tq; intro q90; subst q90)
    by_cases h1 : p = -1
    · have e9 : rowVal (some q) p rid ds = some rid := by simp [rowVal, h1]
      (repeat' ((fail_if_success (ktn_no "stop")); first | (k_unfold; (try dsimp only)) | walk1 | (dsimp only; walk1)))
      all_goals exact back_intro (by assumption) fun f k => hret _ _ _ f k (by rw [e9]; exact ⟨_, rfl⟩)
    · by_cases h3 : p = q
      · have e9 : rowVal (some q) p rid ds = some rid := by simp [rowVal, h3]
        (repeat' ((fail_if_success (ktn_no "stop")); first | (k_unfold; (try dsimp only)) | walk1 | (dsimp only; walk1)))
        all_goals exact back_intro (by assumption) fun f k => hret _ _ _ f k (by rw [e9]; exact ⟨_, rfl⟩)
      by_cases h2 : p < (vs.length : Int)
      · (refine ex1 ((⟨vs[p.toNat]'(by omega), List.getElem?_eq_getElem (by omega)⟩ : ∃ v, vs[p.toNat]? = some v)) ?_; generalize X1a _ _ = v; intro hv9)
        (refine ex1 (ValsAre.at hv1 hv9) ?_; generalize X1a _ _ = d; refine cur2 ?_; intro hd9 hvd)
        have e9 : rowVal (some q) p rid ds = d := by
          unfold rowVal
          rw [if_neg h1, if_neg (fun e => h3 (Option.some.inj e).symm), if_pos (by omega), List.getD_eq_getElem?_getD, hd9]; rfl
        (repeat' ((fail_if_success (ktn_no "stop")); first | (k_unfold; (try dsimp only)) | walk1 | (dsimp only; walk1)))
        all_goals exact back_intro (by assumption) fun f k => hret _ _ _ f k (by rw [e9]; exact hvd)
      · have e9 : rowVal (some q) p rid ds = none := by
          unfold rowVal
          rw [if_neg h1, if_neg (fun e => h3 (Option.some.inj e).symm), if_neg (by omega)]
        (repeat' ((fail_if_success (ktn_no "stop")); first | (k_unfold; (try dsimp only)) | walk1 | (dsimp only; walk1)))
        all_goals exact back_intro (by assumption) fun f k => hret _ _ _ f k (by rw [e9]; exact rfl)
end
/-! ## CGK -/
/-! ## CGR -/
/-! ## NCG -/
section
open PySem PySem.Spec PySem.Calls PySem.W PyProof.Rows PyProof.Rows.LCg
/-- what holds between the turns of a comprehension, in passing style -/
def UnC (S : (List (Addr × Obj) → Prop) → Prop) : List (Addr × Obj) → Prop := fun n => ∀ k : List (Addr × Obj) → Prop, S k → k n
theorem off_1 {D : Addr} : ∀ {n : List (Addr × Obj)}, Off1 D n → Off D (n.map (·.1))
  | [], _ => fun _ h => nomatch h
  | _ :: _, h => fun a m => by
    rcases List.mem_cons.mp m with rfl | m
    · exact h.1
    · exact off_1 h.2 a m
section
variable {prog : Program} {w : World} {A : Around} {s₁ : Shared}
theorem compGS {env : Env} {elt target : Expr} {ifs : List Expr} {scope : Scope} {cl : List (Str × Addr)} {Q : Value → Shared → Prop} {h₀ : Heap} {L l : Addr} {m : Str → Option Value} {news : List (Addr × Obj)} {vs : List Value} (J : Nat → List Value → (List (Addr × Obj) → Prop) → Prop)
    (hh : A.handled = none) (hl : s₁.heap.IsList l vs.toArray) (hlen : vs.length ≤ 1000) (hkeep : (∃ o, h₀.get? l = some o) ∨ ∀ i ys, J i ys fun n₁ => ∃ o, (l, o) ∈ n₁ ∧ o.cls = .type "list" ∧ ∃ k, o.data = .seq vs.toArray k) (F : Fr h₀ L s₁.heap m) (N : News h₀ L s₁.heap news) (hj : ∀ k : List (Addr × Obj) → Prop, J 0 [] k → k news)
    (hlet : ∀ (I : Addr) (j : Nat) (h : Heap) (v : Value) (tk : Nat) (Q : Unit → Shared → Prop) (E1 : Value → Shared → Prop), h.IsListIter I l j → v ∈ vs → Q () { s₁ with heap := h, toks := tk } → wpAny (model prog w) A (letOwnedTupleGo target (.ref I) v) Q E1 { s₁ with heap := h, toks := tk })
    (turn : ∀ (i : Nat) (v : Value), vs[i]? = some v → ∀ ys, J i ys fun n₁ => ∀ (I : Addr) (mC : Str → Option Value) (h : Heap) (tk : Nat) (oI : Obj) (C : Addr) (oC : Obj) (D : Addr) (E1 : Value → Shared → Prop), Fr h₀ L h m → NsObj oC mC → News h₀ L h ((I, oI) :: (C, oC) :: (D, lst ys) :: n₁) → Off3 I C D n₁ → ((@Ne Nat I C) ∧ (@Ne Nat I D) ∧ (@Ne Nat C D)) →
      wpAny (model prog w) A (assign target (compEnvC scope cl C env) v) (fun _ s₂' =>
        wpAny (model prog w) A (forIn ifs true fun c r => if r = true then do let ok ← isTrue c (compEnvC scope cl C env) (eval c (compEnvC scope cl C env)); pure (ForInStep.yield ok) else pure (ForInStep.yield r)) (fun ok s₃ =>
          if ok = true then wpAny (model prog w) A (eval elt (compEnvC scope cl C env)) (fun y s₄ => CompTurned h₀ L m s₁ I oI C D ys (fun zs => UnC (J (i + 1) zs)) (ys ++ [y]) s₄) E1 s₃
          else CompTurned h₀ L m s₁ I oI C D ys (fun zs => UnC (J (i + 1) zs)) ys s₃) E1 s₂') E1 { s₁ with heap := h, toks := tk })
    (done : ∀ ys, J vs.length ys fun n₁ => ∀ D h tk, Fr h₀ L h (m) → News h₀ L h ((D, lst ys) :: n₁) → Off D (n₁.map (·.1)) → Q (.ref D) { s₁ with heap := h, toks := tk }) :
    CompAt prog w A h₀ L m env elt target ifs scope cl (fun s₂ J => FinJ h₀ L m s₂ J Q) (.ref l) s₁ :=
  fun G g => g l vs news (fun i ys => UnC (J i ys)) rfl hh hl hlen (hkeep.imp id fun x i ys n₁ hJ => hJ _ (x i ys)) F N hj hlet (fun i v ys n₁ hv hJ => hJ (TurnC prog w A h₀ L m elt target ifs (fun C => compEnvC scope cl C env) s₁ (fun zs => UnC (J (i + 1) zs)) v ys) (turn i v hv ys)) fun D h tk ys n₁ hJ F N off => hJ _ (done ys) D h tk F N (off_1 off)
theorem compAS {env : Env} {elt target : Expr} {ifs : List Expr} {scope : Scope} {cl : List (Str × Addr)} {Q : Flow → Shared → Prop} {h₀ : Heap} {L l : Addr} {m : Str → Option Value} {news : List (Addr × Obj)} {y : Str} {vs : List Value} (J : Nat → List Value → (List (Addr × Obj) → Prop) → Prop)
    (hh : A.handled = none) (hl : s₁.heap.IsList l vs.toArray) (hlen : vs.length ≤ 1000) (hkeep : (∃ o, h₀.get? l = some o) ∨ ∀ i ys, J i ys fun n₁ => ∃ o, (l, o) ∈ n₁ ∧ o.cls = .type "list" ∧ ∃ k, o.data = .seq vs.toArray k) (F : Fr h₀ L s₁.heap m) (N : News h₀ L s₁.heap news) (hj : ∀ k : List (Addr × Obj) → Prop, J 0 [] k → k news)
    (hlet : ∀ (I : Addr) (j : Nat) (h : Heap) (v : Value) (tk : Nat) (Q : Unit → Shared → Prop) (E1 : Value → Shared → Prop), h.IsListIter I l j → v ∈ vs → Q () { s₁ with heap := h, toks := tk } → wpAny (model prog w) A (letOwnedTupleGo target (.ref I) v) Q E1 { s₁ with heap := h, toks := tk })
    (turn : ∀ (i : Nat) (v : Value), vs[i]? = some v → ∀ ys, J i ys fun n₁ => ∀ (I : Addr) (mC : Str → Option Value) (h : Heap) (tk : Nat) (oI : Obj) (C : Addr) (oC : Obj) (D : Addr) (E1 : Value → Shared → Prop), Fr h₀ L h m → NsObj oC mC → News h₀ L h ((I, oI) :: (C, oC) :: (D, lst ys) :: n₁) → Off3 I C D n₁ → ((@Ne Nat I C) ∧ (@Ne Nat I D) ∧ (@Ne Nat C D)) →
      wpAny (model prog w) A (assign target (compEnvC scope cl C env) v) (fun _ s₂' =>
        wpAny (model prog w) A (forIn ifs true fun c r => if r = true then do let ok ← isTrue c (compEnvC scope cl C env) (eval c (compEnvC scope cl C env)); pure (ForInStep.yield ok) else pure (ForInStep.yield r)) (fun ok s₃ =>
          if ok = true then wpAny (model prog w) A (eval elt (compEnvC scope cl C env)) (fun y s₄ => CompTurned h₀ L m s₁ I oI C D ys (fun zs => UnC (J (i + 1) zs)) (ys ++ [y]) s₄) E1 s₃
          else CompTurned h₀ L m s₁ I oI C D ys (fun zs => UnC (J (i + 1) zs)) ys s₃) E1 s₂') E1 { s₁ with heap := h, toks := tk })
    (done : ∀ ys, J vs.length ys fun n₁ => ∀ D h tk, Fr h₀ L h (fun z => if z = y then some (.ref D) else m z) → News h₀ L h ((D, lst ys) :: n₁) → Off D (n₁.map (·.1)) → Q .next { s₁ with heap := h, toks := tk }) :
    CompAt prog w A h₀ L m env elt target ifs scope cl (fun s₂ J => FinJA h₀ L m s₂ y J Q) (.ref l) s₁ :=
  fun G g => g l vs news (fun i ys => UnC (J i ys)) rfl hh hl hlen (hkeep.imp id fun x i ys n₁ hJ => hJ _ (x i ys)) F N hj hlet (fun i v ys n₁ hv hJ => hJ (TurnC prog w A h₀ L m elt target ifs (fun C => compEnvC scope cl C env) s₁ (fun zs => UnC (J (i + 1) zs)) v ys) (turn i v hv ys)) fun D h tk ys n₁ hJ F N off => hJ _ (done ys) D h tk F N (off_1 off)
theorem compKS {env : Env} {elt target : Expr} {ifs : List Expr} {scope : Scope} {cl : List (Str × Addr)} {Q : Value → Shared → Prop} {h₀ : Heap} {L l : Addr} {m : Str → Option Value} {news : List (Addr × Obj)} {xk : Str} {vs : List Value} (J : Addr → Nat → List Value → (List (Addr × Obj) → Prop) → Prop)
    (hh : A.handled = none) (hl : s₁.heap.IsList l vs.toArray) (hlen : vs.length ≤ 1000) (hkeep : (∃ o, h₀.get? l = some o) ∨ ∀ K i ys, J K i ys fun n₁ => ∃ o, (l, o) ∈ n₁ ∧ o.cls = .type "list" ∧ ∃ k, o.data = .seq vs.toArray k) (F : Fr h₀ L s₁.heap m) (N : News h₀ L s₁.heap news) (hj : ∀ K, (∀ p ∈ news, p.1 ≠ K) → ∀ k : List (Addr × Obj) → Prop, J K 0 [] k → k ((K, ({ cls := .type "cell", data := .cell none } : Obj)) :: news))
    (hlet : ∀ (I : Addr) (j : Nat) (h : Heap) (v : Value) (tk : Nat) (Q : Unit → Shared → Prop) (E1 : Value → Shared → Prop), h.IsListIter I l j → v ∈ vs → Q () { s₁ with heap := h, toks := tk } → wpAny (model prog w) A (letOwnedTupleGo target (.ref I) v) Q E1 { s₁ with heap := h, toks := tk })
    (turn : ∀ (K : Addr) (i : Nat) (v : Value), vs[i]? = some v → ∀ ys, J K i ys fun n₁ => ∀ (I : Addr) (mC : Str → Option Value) (h : Heap) (tk : Nat) (oI : Obj) (C : Addr) (oC : Obj) (D : Addr) (E1 : Value → Shared → Prop), Fr h₀ L h m → NsObj oC mC → News h₀ L h ((I, oI) :: (C, oC) :: (D, lst ys) :: n₁) → Off3 I C D n₁ → ((@Ne Nat I C) ∧ (@Ne Nat I D) ∧ (@Ne Nat C D)) →
      wpAny (model prog w) A (assign target (compEnvC scope ((xk, K) :: cl) C env) v) (fun _ s₂' =>
        wpAny (model prog w) A (forIn ifs true fun c r => if r = true then do let ok ← isTrue c (compEnvC scope ((xk, K) :: cl) C env) (eval c (compEnvC scope ((xk, K) :: cl) C env)); pure (ForInStep.yield ok) else pure (ForInStep.yield r)) (fun ok s₃ =>
          if ok = true then wpAny (model prog w) A (eval elt (compEnvC scope ((xk, K) :: cl) C env)) (fun y s₄ => CompTurned h₀ L m s₁ I oI C D ys (fun zs => UnC (J K (i + 1) zs)) (ys ++ [y]) s₄) E1 s₃
          else CompTurned h₀ L m s₁ I oI C D ys (fun zs => UnC (J K (i + 1) zs)) ys s₃) E1 s₂') E1 { s₁ with heap := h, toks := tk })
    (done : ∀ K ys, J K vs.length ys fun n₁ => ∀ D h tk, Fr h₀ L h (m) → News h₀ L h ((D, lst ys) :: n₁) → Off D (n₁.map (·.1)) → Q (.ref D) { s₁ with heap := h, toks := tk }) :
    CompAtK xk prog w A h₀ L m env elt target ifs scope cl (fun s₂ J => FinJ h₀ L m s₂ J Q) (.ref l) s₁ :=
  fun G g => g l vs news (fun K i ys => UnC (J K i ys)) rfl hh hl hlen (hkeep.imp id fun x K i ys n₁ hJ => hJ _ (x K i ys)) F N hj hlet (fun K i v ys n₁ hv hJ => hJ (TurnC prog w A h₀ L m elt target ifs (fun C => compEnvC scope ((xk, K) :: cl) C env) s₁ (fun zs => UnC (J K (i + 1) zs)) v ys) (turn K i v hv ys)) fun K D h tk ys n₁ hJ F N off => hJ _ (done K ys) D h tk F N (off_1 off)
theorem compRS {env : Env} {elt target : Expr} {ifs : List Expr} {scope : Scope} {cl : List (Str × Addr)} {Q : Flow → Shared → Prop} {h₀ : Heap} {L l : Addr} {m : Str → Option Value} {news : List (Addr × Obj)} {y : Str} {a₀ b₀ : Int} {tR uR vR : Tok} {nR : Nat} (J : Nat → List Value → (List (Addr × Obj) → Prop) → Prop)
    (hh : A.handled = none) (hr : IsRange s₁.heap l a₀ b₀ 1 tR uR vR) (hsm : Builtin.Range.small a₀ b₀ 1 = true) (hsz : Builtin.Range.rangeSize a₀ b₀ 1 = (nR : Int)) (hlen : nR ≤ 1000) (F : Fr h₀ L s₁.heap m) (N : News h₀ L s₁.heap news) (hj : ∀ k : List (Addr × Obj) → Prop, J 0 [] k → k news)
    (turn : ∀ (i : Nat) (t : Tok), i < nR → ∀ ys, J i ys fun n₁ => ∀ (I : Addr) (mC : Str → Option Value) (h : Heap) (tk : Nat) (oI : Obj) (C : Addr) (oC : Obj) (D : Addr) (E1 : Value → Shared → Prop), Fr h₀ L h m → NsObj oC mC → News h₀ L h ((I, oI) :: (C, oC) :: (D, lst ys) :: n₁) → Off3 I C D n₁ → ((@Ne Nat I C) ∧ (@Ne Nat I D) ∧ (@Ne Nat C D)) →
      wpAny (model prog w) A (assign target (compEnvC scope cl C env) (.int (a₀ + (i : Int)) t)) (fun _ s₂' =>
        wpAny (model prog w) A (forIn ifs true fun c r => if r = true then do let ok ← isTrue c (compEnvC scope cl C env) (eval c (compEnvC scope cl C env)); pure (ForInStep.yield ok) else pure (ForInStep.yield r)) (fun ok s₃ =>
          if ok = true then wpAny (model prog w) A (eval elt (compEnvC scope cl C env)) (fun y s₄ => CompTurned h₀ L m s₁ I oI C D ys (fun zs => UnC (J (i + 1) zs)) (ys ++ [y]) s₄) E1 s₃
          else CompTurned h₀ L m s₁ I oI C D ys (fun zs => UnC (J (i + 1) zs)) ys s₃) E1 s₂') E1 { s₁ with heap := h, toks := tk })
    (done : ∀ ys, J nR ys fun n₁ => ∀ D h tk, Fr h₀ L h (fun z => if z = y then some (.ref D) else m z) → News h₀ L h ((D, lst ys) :: n₁) → Off D (n₁.map (·.1)) → Q .next { s₁ with heap := h, toks := tk }) :
    CompAtR prog w A h₀ L m env elt target ifs scope cl (fun s₂ J => FinJA h₀ L m s₂ y J Q) (.ref l) s₁ :=
  fun G g => g l a₀ b₀ tR uR vR nR news (fun i ys => UnC (J i ys)) rfl hh hr hsm hsz hlen F N hj (fun i t ys n₁ hi hJ => hJ (TurnC prog w A h₀ L m elt target ifs (fun C => compEnvC scope cl C env) s₁ (fun zs => UnC (J (i + 1) zs)) (.int (a₀ + (i : Int)) t) ys) (turn i t hi ys)) fun D h tk ys n₁ hJ F N off => hJ _ (done ys) D h tk F N (off_1 off)
theorem tests_nilT {A : Around} {E : Value → Shared → Prop} {s : Shared} {env : Env} {P R : Shared → Prop} (h : P s) :
    wpAny (model prog w) A (forIn ([] : List Expr) true fun c r => if r = true then do let ok ← isTrue c env (eval c env); pure (ForInStep.yield ok) else pure (ForInStep.yield r)) (fun ok s₃ => if ok = true then P s₃ else R s₃) E s :=
  wpAny_tests_nil (by rw [if_pos rfl]; exact h)
end
end
/-! ## NCI2 -/
section
open PySem PySem.Spec PySem.Calls PySem.W PyProof.Rows PyProof.Rows.LCg
local macro_rules | `(tactic| ktn_no "ep?") => `(tactic| skip)
abbrev idxD (w : World) (t1 t2 t3 t4 t5 t6 t7 : Tok) (nm tb rt lc un og sq : Value) : Obj := dictOf [entW w "name" t1 nm, entW w "table" t2 tb, entW w "root" t3 rt, entW w "columns" t4 lc, entW w "unique" t5 un, entW w "origin" t6 og, entW w "sql" t7 sq] 7
def ColsAre (h : Heap) : List Value → List (Int × Bool) → Prop
  | [], [] => True
  | v :: vs, c :: cs => (∃ a t1 t2, v = .ref a ∧ IsTup h a #[.int c.1 t1, .str (Str.ofString "binary") t2, .bool c.2]) ∧ ColsAre h vs cs
  | _, _ => False
theorem ColsAre.length {h : Heap} : ∀ {vs : List Value} {ds : List (Int × Bool)}, ColsAre h vs ds → vs.length = ds.length
  | [], [], _ => rfl
  | _ :: _, _ :: _, h => by rw [List.length_cons, List.length_cons, ColsAre.length h.2]
theorem ColsAre.at {h : Heap} : ∀ {vs : List Value} {ds : List (Int × Bool)}, ColsAre h vs ds → ∀ {i : Nat} {v : Value}, vs[i]? = some v → ∃ c, ds[i]? = some c ∧ ∃ a t1 t2, v = .ref a ∧ IsTup h a #[.int c.1 t1, .str (Str.ofString "binary") t2, .bool c.2]
  | [], [], _, _, _, e => by simp at e
  | _ :: _, d :: _, h, 0, v, e => by cases e; exact ⟨d, rfl, h.1⟩
  | _ :: _, _ :: _, h, i + 1, v, e => by
    obtain ⟨d, hd, hv⟩ := ColsAre.at h.2 (i := i) (v := v) (by simpa using e)
    exact ⟨d, by simpa using hd, hv⟩
theorem ColsAre.keep {h h' : Heap} (hk : ∀ b o, h.get? b = some o → h'.get? b = some o) : ∀ {vs : List Value} {ds : List (Int × Bool)}, ColsAre h vs ds → ColsAre h' vs ds
  | [], [], _ => trivial
  | _ :: _, _ :: _, x => ⟨(let ⟨a, t1, t2, e, i⟩ := x.1; ⟨a, t1, t2, e, i.keeps hk⟩), ColsAre.keep hk x.2⟩
def IdxX (w : World) (X : Obj) (lc : Addr) (uq : Bool) : Prop := ∃ t1 t2 t3 t4 t5 t6 t7 tn tb rt og sq, X = idxD w t1 t2 t3 t4 t5 t6 t7 (.str (Str.ofString "i") tn) tb rt (.ref lc) (.bool uq) og sq
def IsIdx (w : World) (h : Heap) (x lc : Addr) (cvs : List Value) (cols : List (Int × Bool)) (uq : Bool) : Prop := ∃ dx X, h.get? x = some (instObj 526 dx) ∧ h.get? dx = some X ∧ IdxX w X lc uq ∧
  h.IsList lc (List.toArray cvs) ∧ ColsAre h cvs cols
theorem isIdx_keep {w : World} {h h' : Heap} {x lc : Addr} {cvs : List Value} {cols : List (Int × Bool)} {uq : Bool} (I : IsIdx w h x lc cvs cols uq) (hk : ∀ b o, h.get? b = some o → h'.get? b = some o) : IsIdx w h' x lc cvs cols uq :=
  let ⟨dx, X, a, b, c, d, e⟩ := I; ⟨dx, X, hk _ _ a, hk _ _ b, c, (let ⟨o, e, r⟩ := d; ⟨o, hk _ _ e, r⟩), e.keep hk⟩
theorem idx_out {G : Prop} {w : World} {h : Heap} {x lc : Addr} {cvs : List Value} {cols : List (Int × Bool)} {uq : Bool} (I : IsIdx w h x lc cvs cols uq) (k : ∀ dx t1 t2 t3 t4 t5 t6 t7 tn tb rt og sq, h.get? x = some (instObj 526 dx) → h.get? dx = some (idxD w t1 t2 t3 t4 t5 t6 t7 (.str (Str.ofString "i") tn) tb rt (.ref lc) (.bool uq) og sq) →
    h.IsList lc (List.toArray cvs) → ColsAre h cvs cols → G) : G := by
  refine hide fun G99 hG99 => ?_
  obtain ⟨dx, X, a, b, c, d, e⟩ := I
  refine hG99 ?_
  clear hG99 G99
  refine hide fun G99 hG99 => ?_
  obtain ⟨t1, t2, t3, t4, t5, t6, t7, tn, tb, rt, og, sq, q⟩ := c
  refine hG99 ?_
  clear hG99 G99
  exact k dx t1 t2 t3 t4 t5 t6 t7 tn tb rt og sq a (q ▸ b) d e
def keyOf (rp : Val) (cols : List (Int × Bool)) (rid : Int) (ds : List Val) : List Val := cols.map (fun c => rowVal rp c.1 rid ds) ++ [some rid]
theorem vals_step {ys : List Value} {v : Value} {rp : Val} {cols : List (Int × Bool)} {i : Nat} {c : Int × Bool} {rid : Int} {ds : List Val} (hc9 : cols[i]? = some c) (hys : ValsAre ys ((cols.take i).map fun c => rowVal rp c.1 rid ds)) (hv : IsVal v (rowVal rp c.1 rid ds)) : ValsAre (ys ++ [v]) ((cols.take (i + 1)).map fun c => rowVal rp c.1 rid ds) := by
  rw [List.take_add_one, hc9, List.map_append]
  exact valsAre_snoc hys hv
set_option maxHeartbeats 4000000 in
theorem ct_ikey {w : World} {mean mg mb} {xt lct xi lci lv : Addr} {rp : Val} {rid : Int} {tr : Tok} {cvs vs : List Value} {cols : List (Int × Bool)} {uq : Bool} {ds : List Val} (hv1 : ValsAre vs ds) (hd1 : ds.length ≤ 40) (hc1 : cols.length ≤ 40) (hc2 : ∀ c ∈ cols, -1 ≤ c.1) : Tell w mean mg mb 310 6 [.ref xt, .ref xi, .int rid tr, .ref lv] [] (fun h => IsTab w h xt lct rp ∧ IsIdx w h xi lci cvs cols uq ∧ h.IsList lv (List.toArray vs)) (fun h r h' => ∃ l ws n, r = .ref l ∧ h'.get? l = some (PySem.W.listOf (List.toArray ws) n) ∧ ValsAre ws (keyOf rp cols rid ds) ∧ h.get? l = none) := by
  revert w mean mg mb xt lct xi lci lv rp rid tr cvs vs cols uq ds hv1 hd1 hc1 hc2
  ((refine @all8 _ _ _ _ _ _ _ _ (by ktn_no "ne") (by ktn_no "ne") (by ktn_no "ne") (by ktn_no "ne") (by ktn_no "ne") (by ktn_no "ne") (by ktn_no "ne") (by ktn_no "ne") _ ?_; generalize E8a _ _ _ _ _ _ _ _ _ = w, E8b _ _ _ _ _ _ _ _ _ = mean, E8c _ _ _ _ _ _ _ _ _ = mg, E8d _ _ _ _ _ _ _ _ _ = mb, E8e _ _ _ _ _ _ _ _ _ = xt, E8f _ _ _ _ _ _ _ _ _ = lct, E8g _ _ _ _ _ _ _ _ _ = xi, E8h _ _ _ _ _ _ _ _ _ = lci); (refine @all8 _ _ _ _ _ _ _ _ (by ktn_no "ne") (by ktn_no "ne") (by ktn_no "ne") (by ktn_no "ne") (by ktn_no "ne") (by ktn_no "ne") (by ktn_no "ne") (by ktn_no "ne") _ ?_; generalize E8a _ _ _ _ _ _ _ _ _ = lv, E8b _ _ _ _ _ _ _ _ _ = rp, E8c _ _ _ _ _ _ _ _ _ = rid, E8d _ _ _ _ _ _ _ _ _ = tr, E8e _ _ _ _ _ _ _ _ _ = cvs, E8f _ _ _ _ _ _ _ _ _ = vs, E8g _ _ _ _ _ _ _ _ _ = cols, E8h _ _ _ _ _ _ _ _ _ = uq); (refine @all1 _ (by ktn_no "ne") _ ?_; generalize E1a _ _ = ds; intro hv1 hd1 hc1 hc2))
  (refine tell_in _ _ _ _ _ _ _ _ _ _ ?_; k_fill; generalize TX.dp (tx _ _ _ _ _ _ _ _ _ _) = dp, TX.un (tx _ _ _ _ _ _ _ _ _ _) = un, TX.gd (tx _ _ _ _ _ _ _ _ _ _) = gd, TX.cn (tx _ _ _ _ _ _ _ _ _ _) = cn, TX.cs (tx _ _ _ _ _ _ _ _ _ _) = cs, TX.a (tx _ _ _ _ _ _ _ _ _ _) = a, TX.ccd (tx _ _ _ _ _ _ _ _ _ _) = ccd, TX.cl (tx _ _ _ _ _ _ _ _ _ _) = cl, TX.outer (tx _ _ _ _ _ _ _ _ _ _) = outer, TX.A₀ (tx _ _ _ _ _ _ _ _ _ _) = A₀, TX.base (tx _ _ _ _ _ _ _ _ _ _) = base, TX.h₀ (tx _ _ _ _ _ _ _ _ _ _) = h₀, TX.L (tx _ _ _ _ _ _ _ _ _ _) = L, TX.m (tx _ _ _ _ _ _ _ _ _ _) = m, TX.s (tx _ _ _ _ _ _ _ _ _ _) = s, TX.Q (tx _ _ _ _ _ _ _ _ _ _) = Q, TX.E (tx _ _ _ _ _ _ _ _ _ _) = E; intro B F X N T hk hpre hd hu hret)
  (refine cur3 ?_ (hpre); intro p1 p2 p3)
  have hvl := ValsAre.length hv1
  (refine wpAny_call ?_; k_dflt (refine' enterHC ?k1 ?k2 ?k3 ?k4 ?k5 ?kA ?kF ?kK ?k6 ?k7 ?k8 ?k9 ?kB ?kD ?_ ?c2 ?c3 ?c4; (case k1 => assumption); (case k2 => assumption); (case k3 => assumption); (case k4 => assumption); (case k5 => assumption); (case kA => exact rfl); (case kF => exact rfl); (case kK => assumption); (case k6 => k_is); (case k7 => k_is); (case k8 => ktr_room); (case k9 => first | exact BindsTo.of_eq rfl | exact binds_K (Frag.In.keeps (by assumption) (Fr.keep (by assumption))) rfl (by k_is) rfl rfl rfl); (case kB => exact rfl); (case kD => decide +kernel); (case c2 => exact rfl); (case c3 => exact rfl); (case c4 => exact rfl); k_whole; refine all5 ?_; generalize E5a _ _ _ _ _ _ = g', E5b _ _ _ _ _ _ = L', E5c _ _ _ _ _ _ = h', E5d _ _ _ _ _ _ = tk', E5e _ _ _ _ _ _ = cells'; intro kg' F' N' Y' B' X' T' l1; (try (replace l1 := allLt_of l1; dsimp only [AllLt] at l1)); refine ex3 (CellsAre.three Y') ?_; generalize X3a _ _ _ _ = o', X3b _ _ _ _ = o2', X3c _ _ _ _ = o3'; intro q9; generalize q9.1 = e9, q9.2.1 = d1', q9.2.2.1 = d2', q9.2.2.2 = d3'; subst e9; clear q9 Y'; (try simp only [List.cons_append, List.nil_append] at N'); (try dsimp only)))
  rename KeepB _ _ _ => kg0
  have It := isTab_keep p1 fun b o e => kg0 b o e (by simp)
  have Ii := isIdx_keep p2 fun b o e => kg0 b o e (by simp)
  have Iv := isList_base kg0 p3
  refine idx_out Ii ?_
  ((refine all8 ?_; generalize E8a _ _ _ _ _ _ _ _ _ = dx, E8b _ _ _ _ _ _ _ _ _ = t1, E8c _ _ _ _ _ _ _ _ _ = t2, E8d _ _ _ _ _ _ _ _ _ = t3, E8e _ _ _ _ _ _ _ _ _ = t4, E8f _ _ _ _ _ _ _ _ _ = t5, E8g _ _ _ _ _ _ _ _ _ = t6, E8h _ _ _ _ _ _ _ _ _ = t7); (refine all5 ?_; generalize E5a _ _ _ _ _ _ = tn, E5b _ _ _ _ _ _ = tb, E5c _ _ _ _ _ _ = rt, E5d _ _ _ _ _ _ = og, E5e _ _ _ _ _ _ = sq; intro i1 i2 i3 i4))
  have Ix := inst_of i1 i2
  have hcl := ColsAre.length i4
  (repeat' ((fail_if_success (ktn_no "stop")); (fail_if_success (with_reducible show wpAny _ _ (exec (Stmt.Assign _ (Expr.ListComp _ _ _ _) _) _) _ _ _)); (fail_if_success (with_reducible show wpAny _ _ (eval (Expr.ListComp _ _ _ _) _) _ _ _)); (fail_if_success (with_reducible show CompTurned _ _ _ _ _ _ _ _ _ _ _ _)); first | (k_unfold; (try dsimp only)) | walk1 | (dsimp only; walk1)))
  with_reducible rename News _ _ _ _ => N1
  with_reducible rename Fr _ _ _ _ => F1
  refine listComp_A (by exact rfl) (by with_unfolding_all rfl) rfl rfl F1 (by with_unfolding_all rfl) (by decide) rfl (by decide) ?_
  (repeat' ((fail_if_success (ktn_no "stop")); (fail_if_success (with_reducible show wpAny _ _ (exec (Stmt.Assign _ (Expr.ListComp _ _ _ _) _) _) _ _ _)); (fail_if_success (with_reducible show wpAny _ _ (eval (Expr.ListComp _ _ _ _) _) _ _ _)); (fail_if_success (with_reducible show CompTurned _ _ _ _ _ _ _ _ _ _ _ _)); first | (k_unfold; (try dsimp only)) | walk1 | (dsimp only; walk1)))
  refine compAS (vs := cvs) (fun i ys k => ValsAre ys ((cols.take i).map fun c => rowVal rp c.1 rid ds) → k _) rfl (by ktn_no "b_list") (by omega) (.inl (let ⟨o, e, _⟩ := i3; ⟨o, e⟩)) F1 N1 (fun k hk => hk trivial) (fun I j h v tk Q E1 _ _ q => wpAny_pure q) ?_ ?_
  · ((refine all2 ?_; generalize E2a _ _ _ = i, E2b _ _ _ = v; intro hv); (refine all1 ?_; generalize E1a _ _ = ys; intro hys); (refine all8 ?_; generalize E8a _ _ _ _ _ _ _ _ _ = I, E8b _ _ _ _ _ _ _ _ _ = mC, E8c _ _ _ _ _ _ _ _ _ = h9, E8d _ _ _ _ _ _ _ _ _ = tk, E8e _ _ _ _ _ _ _ _ _ = oI, E8f _ _ _ _ _ _ _ _ _ = C, E8g _ _ _ _ _ _ _ _ _ = oC, E8h _ _ _ _ _ _ _ _ _ = D); (refine all1 ?_; generalize E1a _ _ = E1; intro F5 hoC N5 off5 ne5))
    clear N1 F1
    (refine ex1 (ColsAre.at i4 hv) ?_; generalize X1a _ _ = c; refine cur2 ?_; intro hc9 r91; refine ex3 (r91) ?_; generalize X3a _ _ _ _ = a, X3b _ _ _ _ = ta, X3c _ _ _ _ = tb; refine cur2 ?_; intro z93_0 ia; subst z93_0)
    have hcp := hc2 c (List.mem_of_getElem? hc9)
    refine comp_store rfl rfl F5 hoC N5 off5 ne5 ?_
    ((refine all3 ?_; generalize E3a _ _ _ _ = h', E3b _ _ _ _ = oC', E3c _ _ _ _ = m₂; intro F6 hoC' hx6 _ N6))
    clear N5 F5 hoC
    (have z99 := off5; simp only [Off3, and_true] at z99; try clear off5; have off5 := z99; clear z99)
    refine tests_nilT ?_
    (repeat' ((fail_if_success (ktn_no "stop")); (fail_if_success (with_reducible show wpAny _ _ (exec (Stmt.Assign _ (Expr.ListComp _ _ _ _) _) _) _ _ _)); (fail_if_success (with_reducible show wpAny _ _ (eval (Expr.ListComp _ _ _ _) _) _ _ _)); (fail_if_success (with_reducible show CompTurned _ _ _ _ _ _ _ _ _ _ _ _)); first | ((with_reducible show wpAny _ _ (PySem.call (Value.ref 305) _) _ _ _); k_dflt (refine useR (hp := by exact ⟨isTab_keep (by assumption) (Fr.keep (by assumption)), by ktn_no "b_list"⟩) (C := ct_rowval (by omega) (by assumption) (by omega)) (ret := ?_)); intros; ktn_no "aft") | (k_unfold; (try dsimp only)) | walk1 | (dsimp only; walk1)))
    with_reducible rename IsVal _ _ => hv6
    with_reducible rename Fr _ _ _ _ => F7
    with_reducible rename News _ _ _ _ => N7
    exact CompTurned.intro _ F7 hoC' N7 (fun p hp => hp) (by simp only [Off3, and_true]; exact off5) fun k hk => hk (vals_step hc9 hys hv6)
  · ((refine all1 ?_; generalize E1a _ _ = ys; intro hys); (refine all3 ?_; generalize E3a _ _ _ _ = D, E3b _ _ _ _ = h9, E3c _ _ _ _ = tk; intro F5 N5 off5))
    clear N1 F1
    dsimp only [List.map] at off5
    (have z99 := hys; rw [hcl, List.take_length] at z99; clear hys; have hys := z99; clear z99)
    have hyl := ValsAre.length hys
    (have z99 := hyl; rw [List.length_map] at z99; clear hyl; have hyl := z99; clear z99)
    (repeat' ((fail_if_success (ktn_no "stop")); (fail_if_success (with_reducible show wpAny _ _ (exec (Stmt.Assign _ (Expr.ListComp _ _ _ _) _) _) _ _ _)); (fail_if_success (with_reducible show wpAny _ _ (eval (Expr.ListComp _ _ _ _) _) _ _ _)); (fail_if_success (with_reducible show CompTurned _ _ _ _ _ _ _ _ _ _ _ _)); first | (k_unfold; (try dsimp only)) | walk1 | (dsimp only; walk1)))
    rename News _ _ _ _ => N8
    try simp only [List.push_toArray] at N8
    exact back_intro (by assumption) fun f k => hret _ _ _ f k ⟨_, _, _, rfl, N8.get (by k_mem), valsAre_snoc hys ⟨_, rfl⟩, (made kg0 N8 (by k_mem)).2⟩
end
/-! ## CM -/
section
open PySem.Sem (wp)
section
variable {prog : Program} {w : World} {A : Around} {E : Value → Shared → Prop} {s : Shared} {K : Frag} {C L : Addr} {h₀ : Heap} {m : Str → Option Value} {xs : List (Addr × Obj)} {Q : Value → Shared → Prop}
/-- a class called: all that stood stays -/
theorem make_enter {pos : List Value} {fI : Addr} (F : Fr h₀ L s.heap m) (X₀ : K.In h₀) (N : News h₀ L s.heap xs) (hm : makesIn K C = true) (hi : findIn K (.ref C) "__init__" = some (some (.ref fI))) (hf : isFn K (.ref fI) = true)
    (h : ∀ x dx h', Fr h₀ L h' m → News h₀ L h' ((x, instObj C dx) :: (dx, dictOf [] 0) :: xs) → (∀ b o, s.heap.get? b = some o → h'.get? b = some o) → s.heap.get? x = none → s.heap.get? dx = none → @Ne Nat x dx →
      codeAny (model prog w) (A.under (.builtin "type.__call__" ⟨.ref C :: pos, []⟩)) (.call (.ref fI) ⟨.ref x :: pos, []⟩) (InitBack x fun r s' => match r with | .ok (.ret v) => Q v s' | .ok _ => False | .error e => E e s') { s with heap := h' }) :
    wpAny (model prog w) A (call (.ref C) pos) Q E s := by
  have X := X₀.keeps F.keep
  refine wpAny_call ?_
  refine hide fun G99 hG99 => ?_
  obtain ⟨hh, g, d, t, os⟩ := s
  refine hG99 ?_
  clear hG99 G99
  have N' := (N.push F emptyDict).push (F.push _) (instObj C hh.objs.size)
  rw [Heap.size_push] at N'
  refine make_core (makes_of X hm) (looks_findIn X hi) (fun self => bind_fn X self (beq_iff_eq.mp hf)) (.inl rfl) (h _ hh.objs.size _ ((F.push _).push _) N' (fun b o e => Heap.get?_push_of_some _ (Heap.get?_push_of_some _ e)) ?_ ?_ (Nat.succ_ne_self _))
  · exact Heap.get?_none_of_le (Nat.le_succ _)
  · exact Heap.get?_none_of_le (Nat.le_refl _)
end
theorem keep_made {xs : List (Addr × Obj)} {h h' h'' : Heap} {x dx : Addr} {o₁ o₂ : Obj} (k : KeepB ((x, o₁) :: (dx, o₂) :: xs) h' h'') (up : ∀ b o, h.get? b = some o → h'.get? b = some o) (hx : h.get? x = none) (hdx : h.get? dx = none) : KeepB xs h h'' :=
  fun b o e nb => k b o (up b o e) (by
    intro hm
    rcases List.mem_cons.mp hm with q | hm
    · have q' : b = x := q
      rw [q', hx] at e; cases e
    · rcases List.mem_cons.mp hm with q | hm
      · have q' : b = dx := q
        rw [q', hdx] at e; cases e
      · exact nb hm)
theorem not_two {h : Heap} {x dx b : Addr} {o o₁ o₂ : Obj} (e : h.get? b = some o) (hx : h.get? x = none) (hdx : h.get? dx = none) : b ∉ List.map (fun p : Addr × Obj => p.1) [(x, o₁), (dx, o₂)] := fun hm => by
  rcases List.mem_cons.mp hm with q | hm
  · have q' : b = x := q
    rw [q', hx] at e; cases e
  · rcases List.mem_cons.mp hm with q | hm
    · have q' : b = dx := q
      rw [q', hdx] at e; cases e
    · cases hm
end
/-! ## NCK1 -/
section
open PySem PySem.Spec PySem.Calls PySem.W PyProof.Rows PyProof.Rows.LCg
local macro_rules | `(tactic| ktn_no "ep?") => `(tactic| skip)
end
local macro_rules | `(tactic| ktn_no "ktr_enter0") => `(tactic| (ktn_no "ent"; refine all3 ?_; ktn_no "g3"; intro _ _ _ _ _ _; (try dsimp only)))
local macro_rules | `(tactic| ktn_no "ktr_make") => `(tactic| (k_dflt (refine' make_enter (by assumption) (by assumption) (by assumption) (by k_is) (by k_is) (by k_is) ?_)))
section
open PySem PySem.Spec PySem.Calls PySem.W PyProof.Rows PyProof.Rows.LCg
local macro_rules | `(tactic| ktn_no "ep?") => `(tactic| skip)
set_option maxHeartbeats 4000000 in
theorem ct_KeyInfo {w : World} {mean mg mb} {lc ld : Addr} {css : List Value} {bs : List Bool} (hc : AllBin css) (hl : css.length = bs.length) (hb : bs.length ≤ 30) : Tell w mean mg mb 286 5 [.ref lc, .ref ld] [] (fun h => IsTup h lc (List.toArray css) ∧ IsTup h ld (List.toArray (bs.map Value.bool))) (fun h r h' => ∃ a dx t1 t2, r = .ref a ∧ h'.get? a = some (instObj 286 dx) ∧ h'.get? dx = some (dictOf [entW w "collations" t1 (.ref lc), entW w "descending" t2 (.ref ld)] 2) ∧ h.get? a = none ∧ h.get? dx = none ∧ @Ne Nat a dx) := by
  revert w mean mg mb lc ld css bs hc hl hb
  ((refine @all8 _ _ _ _ _ _ _ _ (by ktn_no "ne") (by ktn_no "ne") (by ktn_no "ne") (by ktn_no "ne") (by ktn_no "ne") (by ktn_no "ne") (by ktn_no "ne") (by ktn_no "ne") _ ?_; generalize E8a _ _ _ _ _ _ _ _ _ = w, E8b _ _ _ _ _ _ _ _ _ = mean, E8c _ _ _ _ _ _ _ _ _ = mg, E8d _ _ _ _ _ _ _ _ _ = mb, E8e _ _ _ _ _ _ _ _ _ = lc, E8f _ _ _ _ _ _ _ _ _ = ld, E8g _ _ _ _ _ _ _ _ _ = css, E8h _ _ _ _ _ _ _ _ _ = bs; intro hc hl hb))
  (refine tell_in _ _ _ _ _ _ _ _ _ _ ?_; k_fill; generalize TX.dp (tx _ _ _ _ _ _ _ _ _ _) = dp, TX.un (tx _ _ _ _ _ _ _ _ _ _) = un, TX.gd (tx _ _ _ _ _ _ _ _ _ _) = gd, TX.cn (tx _ _ _ _ _ _ _ _ _ _) = cn, TX.cs (tx _ _ _ _ _ _ _ _ _ _) = cs, TX.a (tx _ _ _ _ _ _ _ _ _ _) = a, TX.ccd (tx _ _ _ _ _ _ _ _ _ _) = ccd, TX.cl (tx _ _ _ _ _ _ _ _ _ _) = cl, TX.outer (tx _ _ _ _ _ _ _ _ _ _) = outer, TX.A₀ (tx _ _ _ _ _ _ _ _ _ _) = A₀, TX.base (tx _ _ _ _ _ _ _ _ _ _) = base, TX.h₀ (tx _ _ _ _ _ _ _ _ _ _) = h₀, TX.L (tx _ _ _ _ _ _ _ _ _ _) = L, TX.m (tx _ _ _ _ _ _ _ _ _ _) = m, TX.s (tx _ _ _ _ _ _ _ _ _ _) = s, TX.Q (tx _ _ _ _ _ _ _ _ _ _) = Q, TX.E (tx _ _ _ _ _ _ _ _ _ _) = E; intro B F X N T hk hpre hd hu hret)
  (refine cur2 ?_ (hpre); intro p1 p2)
  ktn_no "ktr_make"
  ((refine all3 ?_; generalize E3a _ _ _ _ = x, E3b _ _ _ _ = dx, E3c _ _ _ _ = h1; intro F1 N1 up nx ndx nxd))
  clear N F
  ktn_no "ktr_enter0"
  rename KeepB _ _ _ => kg0
  have I1 : IsTup _ lc (List.toArray css) := let ⟨o, e, r⟩ := p1; ⟨o, kg0 _ _ (up _ _ e) (not_two e nx ndx), r⟩
  have I2 : IsTup _ ld (List.toArray (bs.map Value.bool)) := let ⟨o, e, r⟩ := p2; ⟨o, kg0 _ _ (up _ _ e) (not_two e nx ndx), r⟩
  have hll : (css.length : Int) = ((bs.map Value.bool).length : Int) := by rw [List.length_map, hl]
  (repeat' ((fail_if_success (ktn_no "stop")); first | ((with_reducible show wpAny _ _ (call (Value.type "tuple") [Value.ref _]) _ _ _); k_dflt (refine' call_tuple_same ?l ?_; (case l => (with_unfolding_all show IsTup _ _ _; ktn_no "b_tup")))) | ((with_reducible show wpAny _ _ (setAttr (Value.ref _) _ _) _ _ _); k_dflt (refine' set_dict (by k_asm) (by k_asm) (by k_asm) (by k_inst) (by exact rfl) (by k_is) (by k_is) (by k_is) (by k_is) (by k_get) (by k_put) (by k_upd) (by exact Nat.le_of_ble_eq_true rfl) ?_; k_whole); ktn_no "k12"; (try k_sweep)) | (k_unfold; (try dsimp only)) | walk1 | (dsimp only; walk1)))
  rename News _ _ _ _ => N8
  rename Fr _ _ _ _ => F8
  exact back_intro (by assumption) fun f k => ⟨rfl, hret _ _ _ f (keep_made k up nx ndx) ⟨_, _, _, _, rfl, N8.get (by k_mem), N8.get (by k_mem), nx, ndx, nxd⟩⟩
end
/-! ## NCI3 -/
section
open PySem PySem.Spec PySem.Calls PySem.W PyProof.Rows PyProof.Rows.LCg
local macro_rules | `(tactic| ktn_no "ep?") => `(tactic| skip)
theorem allBin_snoc {cs : List Value} {t : Tok} (h : AllBin cs) : AllBin (cs ++ [.str (Str.ofString "binary") t]) := by
  intro i v e
  by_cases hi : i < cs.length
  · rw [List.getElem?_append_left hi] at e; exact h i v e
  · (have z99 := e; rw [List.getElem?_append_right (by omega)] at z99; try clear e; have e := z99; clear z99)
    rcases hq : i - cs.length with _ | q
    · rw [hq] at e; exact ⟨t, (Option.some.inj e).symm⟩
    · rw [hq] at e; simp at e
section
variable {prog : Program} {w : World} {A : Around} {E : Value → Shared → Prop} {s : Shared} {h₀ : Heap} {L : Addr} {m : Str → Option Value} {news : List (Addr × Obj)}
theorem add_tup {t b : Addr} {vs ws : List Value} {Q : Value → Shared → Prop} (F : Fr h₀ L s.heap m) (N : News h₀ L s.heap news) (ht : IsTup s.heap t vs.toArray) (hb : IsTup s.heap b ws.toArray) (hv : 0 < vs.length) (hw : 0 < ws.length) (hz : vs.length + ws.length ≤ 1000)
    (h : ∀ D h', Fr h₀ L h' m → News h₀ L h' ((D, ({ cls := .type "tuple", data := .seq (vs ++ ws).toArray } : Obj)) :: news) → (∀ p ∈ news, p.1 < D) → Q (.ref D) { s with heap := h' }) : wpAny (model prog w) A (binaryOp .Add (.ref t) (.ref b)) Q E s :=
  add_tuples F N ht hb (fun e => by rw [e] at hv; simp at hv) (fun _ e => by rw [e] at hw; simp at hw) (fun _ _ h' F' N' => h _ h' F' N' fun p hp => Heap.lt_size (N p hp).1) (by rw [sizeLine_eq]; omega)
end
section
variable {prog : Program} {w : World} {A : Around} {s : Shared} {E : Value → Shared → Prop} {env : Env} {scope : Scope} {cl : List (Str × Addr)} {h₀ : Heap} {L I C D : Addr} {m mC : Str → Option Value} {oI oC oD : Obj} {n₁ : List (Addr × Obj)} {x1 x2 x3 : Str} {p1 p2 p3 tp : Pos} {k : Nat} {a : Addr} {v1 v2 v3 : Value} {Q : Unit → Shared → Prop}
theorem comp_store3 (hx1 : scope.names.lookup x1 = some .local) (hx2 : scope.names.lookup x2 = some .local) (hx3 : scope.names.lookup x3 = some .local) (n12 : x2 ≠ x1) (n13 : x3 ≠ x1) (n23 : x3 ≠ x2) (hkind : scope.kind = .function) (hh : A.handled = none) (ha : IsTup s.heap a #[v1, v2, v3])
    (F : Fr h₀ L s.heap m) (hoC : NsObj oC mC) (N : News h₀ L s.heap ((I, oI) :: (C, oC) :: (D, oD) :: n₁)) (off : Off3 I C D n₁) (ne : (@Ne Nat I C) ∧ (@Ne Nat I D) ∧ (@Ne Nat C D))
    (h : ∀ h' oC' m₂ tk', Fr h₀ L h' m → NsObj oC' m₂ → m₂ x1 = some v1 → m₂ x2 = some v2 → m₂ x3 = some v3 → News h₀ L h' ((I, oI) :: (C, oC') :: (D, oD) :: n₁) → Q () { s with heap := h', toks := tk' }) {kk} :
    wpAny (model prog w) A (assign (.Tuple [.Name x1 p1, .Name x2 p2, .Name x3 p3] kk tp) (compEnvC scope cl C env) (.ref a)) Q E s := by
  refine assign_Tuple_tuple hh ha rfl rfl fun h₅ he => ?_
  have he' : ∀ b o, s.heap.get? b = some o → h₅.get? b = some o := fun b o e => he b o (Nat.ne_of_lt (Heap.lt_size e)) e
  have F5 : Fr h₀ L h₅ m := F.keeps he'
  have N5 : News h₀ L h₅ ((I, oI) :: (C, oC) :: (D, oD) :: n₁) := N.grown he'
  refine assignInOrder_cons (comp_store hx1 hkind F5 hoC N5 off ne fun h6 o6 m6 F6 c6 e6 k6 N6 => ?_)
  refine assignInOrder_cons (comp_store hx2 hkind F6 c6 N6 off ne fun h7 o7 m7 F7 c7 e7 k7 N7 => ?_)
  refine assignInOrder_cons (comp_store hx3 hkind F7 c7 N7 off ne fun h8 o8 m8 F8 c8 e8 k8 N8 => ?_)
  refine assignInOrder_nil ?_
  exact h h8 o8 m8 _ F8 c8 (by rw [k8 _ (Ne.symm n13), k7 _ (Ne.symm n12)]; exact e6) (by rw [k8 _ (Ne.symm n23)]; exact e7) e8 N8
end
theorem cols_let {prog : Program} {w : World} {A : Around} {s : Shared} {H : Heap} {cvs : List Value} {cols : List (Int × Bool)} {l : Addr} {elts : List PySem.Expr} {x1} {pos : Pos} (c : ColsAre H cvs cols) (I : Addr) (j : Nat) (h : Heap) (v : Value) (tk : Nat) (Q : Unit → Shared → Prop) (E1 : Value → Shared → Prop) (hI : h.IsListIter I l j) (hv : v ∈ cvs)
    (q : Q () { s with heap := h, toks := tk }) : wpAny (model prog w) A (letOwnedTupleGo (.Tuple elts x1 pos) (.ref I) v) Q E1 { s with heap := h, toks := tk } := by
  obtain ⟨i, hi⟩ := List.getElem?_of_mem hv
  obtain ⟨c, hc9, a, ta, tb, rfl, ia⟩ := ColsAre.at c hi
  exact wpAny_letOwnedTupleGo_listiter hI q
set_option maxHeartbeats 4000000 in
theorem ct_info {w : World} {mean mg mb} {x lci : Addr} {cvs : List Value} {cols : List (Int × Bool)} {uq : Bool} (hc0 : 0 < cols.length) (hc1 : cols.length ≤ 20) : Tell w mean mg mb 518 8 [.ref x] [] (fun h => IsIdx w h x lci cvs cols uq) (fun h r h' => ∀ k : Value → Prop, (∀ a dx lc ld t1 t2 cs, h'.get? a = some (instObj 286 dx) → h'.get? dx = some (dictOf [entW w "collations" t1 (.ref lc), entW w "descending" t2 (.ref ld)] 2) → h'.get? lc = some ({ cls := .type "tuple", data := .seq (List.toArray cs) } : Obj) → h'.get? ld = some ({ cls := .type "tuple", data := .seq (List.toArray ((cols.map (·.2) ++ [false]).map Value.bool)) } : Obj) → AllBin cs → cs.length = (cols.map (·.2) ++ [false]).length → h.get? a = none → h.get? dx = none → h.get? lc = none → h.get? ld = none → @Ne Nat a dx → @Ne Nat lc a → @Ne Nat ld a → @Ne Nat lc dx → @Ne Nat ld dx → @Ne Nat lc ld → k (.ref a)) → k r) := by
  revert w mean mg mb x lci cvs cols uq hc0 hc1
  ((refine @all8 _ _ _ _ _ _ _ _ (by ktn_no "ne") (by ktn_no "ne") (by ktn_no "ne") (by ktn_no "ne") (by ktn_no "ne") (by ktn_no "ne") (by ktn_no "ne") (by ktn_no "ne") _ ?_; generalize E8a _ _ _ _ _ _ _ _ _ = w, E8b _ _ _ _ _ _ _ _ _ = mean, E8c _ _ _ _ _ _ _ _ _ = mg, E8d _ _ _ _ _ _ _ _ _ = mb, E8e _ _ _ _ _ _ _ _ _ = x, E8f _ _ _ _ _ _ _ _ _ = lci, E8g _ _ _ _ _ _ _ _ _ = cvs, E8h _ _ _ _ _ _ _ _ _ = cols); (refine @all1 _ (by ktn_no "ne") _ ?_; generalize E1a _ _ = uq; intro hc0 hc1))
  (refine tell_in _ _ _ _ _ _ _ _ _ _ ?_; k_fill; generalize TX.dp (tx _ _ _ _ _ _ _ _ _ _) = dp, TX.un (tx _ _ _ _ _ _ _ _ _ _) = un, TX.gd (tx _ _ _ _ _ _ _ _ _ _) = gd, TX.cn (tx _ _ _ _ _ _ _ _ _ _) = cn, TX.cs (tx _ _ _ _ _ _ _ _ _ _) = cs, TX.a (tx _ _ _ _ _ _ _ _ _ _) = a, TX.ccd (tx _ _ _ _ _ _ _ _ _ _) = ccd, TX.cl (tx _ _ _ _ _ _ _ _ _ _) = cl, TX.outer (tx _ _ _ _ _ _ _ _ _ _) = outer, TX.A₀ (tx _ _ _ _ _ _ _ _ _ _) = A₀, TX.base (tx _ _ _ _ _ _ _ _ _ _) = base, TX.h₀ (tx _ _ _ _ _ _ _ _ _ _) = h₀, TX.L (tx _ _ _ _ _ _ _ _ _ _) = L, TX.m (tx _ _ _ _ _ _ _ _ _ _) = m, TX.s (tx _ _ _ _ _ _ _ _ _ _) = s, TX.Q (tx _ _ _ _ _ _ _ _ _ _) = Q, TX.E (tx _ _ _ _ _ _ _ _ _ _) = E; intro B F X N T hk hpre hd hu hret)
  ktr_enter
  rename KeepB _ _ _ => kg0
  have Ii := isIdx_keep hpre fun b o e => kg0 b o e (by simp)
  refine idx_out Ii ?_
  ((refine all8 ?_; generalize E8a _ _ _ _ _ _ _ _ _ = dx, E8b _ _ _ _ _ _ _ _ _ = t1, E8c _ _ _ _ _ _ _ _ _ = t2, E8d _ _ _ _ _ _ _ _ _ = t3, E8e _ _ _ _ _ _ _ _ _ = t4, E8f _ _ _ _ _ _ _ _ _ = t5, E8g _ _ _ _ _ _ _ _ _ = t6, E8h _ _ _ _ _ _ _ _ _ = t7); (refine all5 ?_; generalize E5a _ _ _ _ _ _ = tn, E5b _ _ _ _ _ _ = tb, E5c _ _ _ _ _ _ = rt, E5d _ _ _ _ _ _ = og, E5e _ _ _ _ _ _ = sq; intro i1 i2 i3 i4))
  have Ix := inst_of i1 i2
  have hcl := ColsAre.length i4
  (repeat' ((fail_if_success (ktn_no "stop")); (fail_if_success (with_reducible show wpAny _ _ (exec (Stmt.Assign _ (Expr.ListComp _ _ _ _) _) _) _ _ _)); (fail_if_success (with_reducible show wpAny _ _ (eval (Expr.ListComp _ _ _ _) _) _ _ _)); (fail_if_success (with_reducible show CompTurned _ _ _ _ _ _ _ _ _ _ _ _)); first | (k_unfold; (try dsimp only)) | walk1 | (dsimp only; walk1)))
  with_reducible rename News _ _ _ _ => N1
  with_reducible rename Fr _ _ _ _ => F1
  refine listComp_G F1 (by with_unfolding_all rfl) (by decide) rfl (by decide) ?_
  (repeat' ((fail_if_success (ktn_no "stop")); (fail_if_success (with_reducible show wpAny _ _ (exec (Stmt.Assign _ (Expr.ListComp _ _ _ _) _) _) _ _ _)); (fail_if_success (with_reducible show wpAny _ _ (eval (Expr.ListComp _ _ _ _) _) _ _ _)); (fail_if_success (with_reducible show CompTurned _ _ _ _ _ _ _ _ _ _ _ _)); first | (k_unfold; (try dsimp only)) | walk1 | (dsimp only; walk1)))
  refine compGS (vs := cvs) (fun i ys k => AllBin ys → ys.length = i → k _) rfl (by ktn_no "b_list") (by omega) (.inl (let ⟨o, e, _⟩ := i3; ⟨o, e⟩)) F1 N1 (fun k hk => hk (fun i v e => by simp at e) rfl) (cols_let i4) ?_ ?_
  · ((refine all2 ?_; generalize E2a _ _ _ = i, E2b _ _ _ = v; intro hv); (refine all1 ?_; generalize E1a _ _ = ys; intro hys hyl); (refine all8 ?_; generalize E8a _ _ _ _ _ _ _ _ _ = I, E8b _ _ _ _ _ _ _ _ _ = mC, E8c _ _ _ _ _ _ _ _ _ = h9, E8d _ _ _ _ _ _ _ _ _ = tk, E8e _ _ _ _ _ _ _ _ _ = oI, E8f _ _ _ _ _ _ _ _ _ = C, E8g _ _ _ _ _ _ _ _ _ = oC, E8h _ _ _ _ _ _ _ _ _ = D); (refine all1 ?_; generalize E1a _ _ = E1; intro F5 hoC N5 off5 ne5))
    (refine ex1 (ColsAre.at i4 hv) ?_; generalize X1a _ _ = c; refine cur2 ?_; intro hc9 r91; refine ex3 (r91) ?_; generalize X3a _ _ _ _ = a, X3b _ _ _ _ = ta, X3c _ _ _ _ = tb; refine cur2 ?_; intro z93_0 ia; subst z93_0)
    clear N1 F1
    refine comp_store3 rfl rfl rfl (by decide) (by decide) (by decide) rfl rfl (F5.tup ia) F5 hoC N5 off5 ne5 ?_
    ((refine all4 ?_; generalize E4a _ _ _ _ _ = h', E4b _ _ _ _ _ = oC', E4c _ _ _ _ _ = m₂, E4d _ _ _ _ _ = tk6; intro F6 hoC' hx6 hx7 hx8 N6))
    clear N5 F5 hoC
    refine tests_nilT ?_
    (repeat' ((fail_if_success (ktn_no "stop")); (fail_if_success (with_reducible show wpAny _ _ (exec (Stmt.Assign _ (Expr.ListComp _ _ _ _) _) _) _ _ _)); (fail_if_success (with_reducible show wpAny _ _ (eval (Expr.ListComp _ _ _ _) _) _ _ _)); (fail_if_success (with_reducible show CompTurned _ _ _ _ _ _ _ _ _ _ _ _)); first | (k_unfold; (try dsimp only)) | walk1 | (dsimp only; walk1)))
    rename Fr _ _ _ _ => F7
    rename News _ _ _ _ => N7
    refine CompTurned.intro _ F7 hoC' N7 (fun p hp => hp) (by exact off5) ?_
    exact fun k hk => hk (allBin_snoc hys) (by rw [List.length_append, hyl]; rfl)
  ((refine all1 ?_; generalize E1a _ _ = ys; intro hys hyl); (refine all3 ?_; generalize E3a _ _ _ _ = D, E3b _ _ _ _ = h9, E3c _ _ _ _ = tk; intro F5 N5 off5))
  clear N1 F1
  dsimp only [List.map] at off5
  (have z99 := hyl; rw [hcl] at z99; try clear hyl; have hyl := z99; clear z99)
  (repeat' ((fail_if_success (ktn_no "stop")); (fail_if_success (with_reducible show wpAny _ _ (exec (Stmt.Assign _ (Expr.ListComp _ _ _ _) _) _) _ _ _)); (fail_if_success (with_reducible show wpAny _ _ (eval (Expr.ListComp _ _ _ _) _) _ _ _)); (fail_if_success (with_reducible show CompTurned _ _ _ _ _ _ _ _ _ _ _ _)); first | ((with_reducible show wpAny _ _ (call (Value.type "tuple") [Value.ref _]) _ _ _); k_dflt (refine' tuple_ofL ?F ?N ?l ?_ ?z; (case F => k_asm); (case N => k_asm); (case l => ktn_no "b_list"); (case z => (rw [sizeLine_eq]; omega))); (refine all2 ?_; ktn_no "g2"; intro _ _ _); (try k_sweep)) | (k_unfold; (try dsimp only)) | walk1 | (dsimp only; walk1)))
  with_reducible rename News _ _ _ _ => N1
  with_reducible rename Fr _ _ _ _ => F1
  refine listComp_G F1 (by with_unfolding_all rfl) (by decide) rfl (by decide) ?_
  (repeat' ((fail_if_success (ktn_no "stop")); (fail_if_success (with_reducible show wpAny _ _ (exec (Stmt.Assign _ (Expr.ListComp _ _ _ _) _) _) _ _ _)); (fail_if_success (with_reducible show wpAny _ _ (eval (Expr.ListComp _ _ _ _) _) _ _ _)); (fail_if_success (with_reducible show CompTurned _ _ _ _ _ _ _ _ _ _ _ _)); first | (k_unfold; (try dsimp only)) | walk1 | (dsimp only; walk1)))
  refine compGS (vs := cvs) (fun i ys k => ys = ((cols.take i).map fun c => Value.bool c.2) → k _) rfl (by ktn_no "b_list") (by omega) (.inl (let ⟨o, e, _⟩ := i3; ⟨o, e⟩)) F1 N1 (fun k hk => hk rfl) (cols_let i4) ?_ ?_
  · ((refine all2 ?_; generalize E2a _ _ _ = i, E2b _ _ _ = v; intro hv); (refine all1 ?_; generalize E1a _ _ = zs; intro hys); (refine all8 ?_; generalize E8a _ _ _ _ _ _ _ _ _ = I, E8b _ _ _ _ _ _ _ _ _ = mC, E8c _ _ _ _ _ _ _ _ _ = h9, E8d _ _ _ _ _ _ _ _ _ = tk, E8e _ _ _ _ _ _ _ _ _ = oI, E8f _ _ _ _ _ _ _ _ _ = C, E8g _ _ _ _ _ _ _ _ _ = oC, E8h _ _ _ _ _ _ _ _ _ = D); (refine all1 ?_; generalize E1a _ _ = E1; intro F5 hoC N5 off5 ne5))
    (refine ex1 (ColsAre.at i4 hv) ?_; generalize X1a _ _ = c; refine cur2 ?_; intro hc9 r91; refine ex3 (r91) ?_; generalize X3a _ _ _ _ = a, X3b _ _ _ _ = ta, X3c _ _ _ _ = tb; refine cur2 ?_; intro z93_0 ia; subst z93_0)
    clear N1 F1
    refine comp_store3 rfl rfl rfl (by decide) (by decide) (by decide) rfl rfl (F5.tup ia) F5 hoC N5 off5 ne5 ?_
    ((refine all4 ?_; generalize E4a _ _ _ _ _ = h', E4b _ _ _ _ _ = oC', E4c _ _ _ _ _ = m₂, E4d _ _ _ _ _ = tk6; intro F6 hoC' hx6 hx7 hx8 N6))
    clear N5 F5 hoC
    refine tests_nilT ?_
    (repeat' ((fail_if_success (ktn_no "stop")); (fail_if_success (with_reducible show wpAny _ _ (exec (Stmt.Assign _ (Expr.ListComp _ _ _ _) _) _) _ _ _)); (fail_if_success (with_reducible show wpAny _ _ (eval (Expr.ListComp _ _ _ _) _) _ _ _)); (fail_if_success (with_reducible show CompTurned _ _ _ _ _ _ _ _ _ _ _ _)); first | (k_unfold; (try dsimp only)) | walk1 | (dsimp only; walk1)))
    rename Fr _ _ _ _ => F7
    rename News _ _ _ _ => N7
    refine CompTurned.intro _ F7 hoC' N7 (fun p hp => hp) (by exact off5) fun k hk => hk ?_
    rw [hys, List.take_add_one, hc9, List.map_append]; rfl
  ((refine all1 ?_; generalize E1a _ _ = zs; intro hzs); (refine all3 ?_; generalize E3a _ _ _ _ = D2, E3b _ _ _ _ = h9, E3c _ _ _ _ = tk; intro F5 N5 off6))
  clear N1 F1
  dsimp only [List.map] at off6
  (have z99 := hzs; rw [hcl, List.take_length] at z99; try clear hzs; have hzs := z99; clear z99)
  have hzl : zs.length = cols.length := by rw [hzs, List.length_map]
  (repeat' ((fail_if_success (ktn_no "stop")); (fail_if_success (with_reducible show wpAny _ _ (exec (Stmt.Assign _ (Expr.ListComp _ _ _ _) _) _) _ _ _)); (fail_if_success (with_reducible show wpAny _ _ (eval (Expr.ListComp _ _ _ _) _) _ _ _)); (fail_if_success (with_reducible show CompTurned _ _ _ _ _ _ _ _ _ _ _ _)); first | ((with_reducible show wpAny _ _ (binaryOp _ (Value.ref _) (Value.ref _)) _ _ _); k_dflt (refine' add_tup ?F ?N ?a ?b ?v ?w ?z ?_; (case F => k_asm); (case N => k_asm); (case a => ktn_no "b_tup"); (case b => ktn_no "b_tup"); (case v => first | omega | (simp; done)); (case w => first | omega | (simp; done)); (case z => (simp only [List.length_cons, List.length_nil]; omega))); (refine all2 ?_; generalize E2a _ _ _ = D', E2b _ _ _ = h'; intro F' N' l1); (try k_lt l1); (try k_sweep)) | ((with_reducible show wpAny _ _ (call (Value.type "tuple") [Value.ref _]) _ _ _); k_dflt (refine' tuple_ofL ?F ?N ?l ?_ ?z; (case F => k_asm); (case N => k_asm); (case l => ktn_no "b_list"); (case z => (rw [sizeLine_eq]; omega))); (refine all2 ?_; ktn_no "g2"; intro _ _ _); (try k_sweep)) | (k_unfold; (try dsimp only)) | walk1 | (dsimp only; walk1)))
  refine' tell_use0 (ct_KeyInfo (css := ys ++ [Value.str (Str.ofString "binary") _]) (bs := cols.map (·.2) ++ [false]) ?q1 ?q2 ?q3) ?k1 ?k2 ?k3 ?k4 ?k5 ?kK ?kp ?kd ?ku ?_
  (case k1 => k_asm)
  (case k2 => k_asm)
  (case k3 => k_asm)
  (case k4 => k_asm)
  (case k5 => k_asm)
  (case kK => first | exact rfl | assumption)
  (case kp =>
    subst hzs
    refine ⟨?_, ?_⟩
    · ktn_no "b_tup"
    · rw [show List.map Value.bool (List.map (fun x : Int × Bool => x.2) cols ++ [false]) = (List.map (fun c => Value.bool c.2) cols) ++ [Value.bool false] by simp]
      ktn_no "b_tup")
  (case q1 => exact allBin_snoc hys)
  (case q2 => simp only [List.length_append, List.length_map, List.length_cons, List.length_nil]; first | omega | rw [hyl])
  (case q3 => simp only [List.length_append, List.length_map, List.length_cons, List.length_nil]; omega)
  (case kd => ktr_room)
  (case ku => ktr_units)
  ((refine all3 ?_; generalize E3a _ _ _ _ = r9, E3b _ _ _ _ = h9, E3c _ _ _ _ = tk9; intro F9 N9 K9 R9))
  (refine ex4 (R9) ?_; generalize X4a _ _ _ _ _ = a9, X4b _ _ _ _ _ = d9, X4c _ _ _ _ _ = t8, X4d _ _ _ _ _ = t9; refine cur6 ?_; intro e9 o1 o2 f1 f2 na)
  subst e9
  have M1 := newOff (by assumption) f1
  have M2 := newOff (by assumption) f2
  with_reducible rename Fr _ _ _ _ => F9
  have hld : (cols.map (·.2) ++ [false]).map Value.bool = (cols.map fun c => Value.bool c.2) ++ [Value.bool false] := by simp
  dsimp only [List.map] at M1 M2
  have N10 := news_new (by assumption) (news_new (by assumption) N9 o2 f2) o1 f1
  clear N9 K9
  (repeat' ((fail_if_success (ktn_no "stop")); (fail_if_success (with_reducible show wpAny _ _ (exec (Stmt.Assign _ (Expr.ListComp _ _ _ _) _) _) _ _ _)); (fail_if_success (with_reducible show wpAny _ _ (eval (Expr.ListComp _ _ _ _) _) _ _ _)); (fail_if_success (with_reducible show CompTurned _ _ _ _ _ _ _ _ _ _ _ _)); first | (k_unfold; (try dsimp only)) | walk1 | (dsimp only; walk1)))
  refine' back_intro (by assumption) fun f k => hret _ _ _ f k (fun _ hk => hk a9 d9 _ _ _ _ (ys ++ [Value.str (Str.ofString "binary") _]) o1 o2 (N10.get ?m1) (N10.get ?m2) ?b ?l ((made kg0 N10 ?m3).2) ((made kg0 N10 ?m4).2) ((made kg0 N10 ?m5).2) ((made kg0 N10 ?m6).2) na ?z1 ?z2 ?z3 ?z4 ?z5)
  case m1 => k_mem
  case m2 => rw [hld, ← hzs]; k_mem
  case m3 => exact .head _
  case m4 => exact .tail _ (.head _)
  case m5 => k_mem
  case m6 => rw [← hzs] at hld; k_mem
  case b => exact allBin_snoc hys
  case l => simp only [List.length_append, List.length_map, List.length_cons, List.length_nil]; rw [hyl]
  case z1 => k_ne
  case z2 => k_ne
  case z3 => k_ne
  case z4 => k_ne
  case z5 => k_ne
section
variable {w : World} {mean : ExcName → Option Value} {mg mb : Str → Option Value}
  {dp un : Nat} {gd : Option (List Code)} {cn : Str} {cs : Scope} {a : Addr} {ccd : Value} {cl : List (Str × Addr)} {outer : List Env} {A₀ : Around} {base h₀ : Heap} {L : Addr} {m : Str → Option Value} {news : List (Addr × Obj)} {s : Shared} {Q E : Value → Shared → Prop}
theorem use_info {x lci : Addr} {cvs : List Value} {cols : List (Int × Bool)} {uq : Bool} {bs : List Bool} (S : Site w mean mg mb dp un 8 cs outer A₀ base h₀ L m s news := by ktn_no "site") (hbs : bs = cols.map (·.2) ++ [false]) (hc0 : 0 < cols.length) (hc1 : cols.length ≤ 20) (hp : IsIdx w s.heap x lci cvs cols uq)
    (ret : ∀ a d lc ld t1 t2 css h' tk', Fr h₀ L h' m → News h₀ L h' ((a, instObj 286 d) :: (d, dictOf [entW w "collations" t1 (.ref lc), entW w "descending" t2 (.ref ld)] 2) :: (lc, ({ cls := .type "tuple", data := .seq (List.toArray css) } : Obj)) :: (ld, ({ cls := .type "tuple", data := .seq (List.toArray (bs.map Value.bool)) } : Obj)) :: news) →
      AllBin css → css.length = bs.length → Off a (news.map (·.1)) → Off d (news.map (·.1)) → Off lc (news.map (·.1)) → Off ld (news.map (·.1)) → @Ne Nat a d → @Ne Nat lc a → @Ne Nat ld a → @Ne Nat lc d → @Ne Nat ld d → @Ne Nat lc ld → Q (.ref a) { s with heap := h', toks := tk' }) :
    wpAny (model PySem.Challenge.rw_nt0120_01.row.prog w) (ktrTop dp un gd cn cs L a ccd cl outer) (call (.ref 518) [.ref x]) Q E s :=
  tell_use0 (ct_info (uq := uq) hc0 hc1) S.B S.F S.X S.N S.T S.hk hp S.hd S.hu fun _ h' tk' F' N' _ R' => R' (fun r => Q r { s with heap := h', toks := tk' }) fun a d lc ld t1 t2 css o1 o2 o3 o4 hb hcl f1 f2 f3 f4 n1 n2 n3 n4 n5 n6 => by
    (have z99 := o4; rw [← hbs] at z99; try clear o4; have o4 := z99; clear z99)
    (have z99 := hcl; rw [← hbs] at z99; try clear hcl; have hcl := z99; clear z99)
    exact ret a d lc ld t1 t2 css h' tk' F' (news_new S.F (news_new S.F (news_new S.F (news_new S.F N' o4 f4) o3 f3) o2 f2) o1 f1) hb hcl (newOff S.N f1) (newOff S.N f2) (newOff S.N f3) (newOff S.N f4) n1 n2 n3 n4 n5 n6
end
end
/-! ## EQV -/
section
open PySem PySem.Spec PySem.Calls PySem.W PyProof.Rows PySem.SeqAt
def isNoneV : Value → Bool
  | .none => true
  | _ => false
theorem any_none : ∀ {vs : List Value} {ds : List Val}, ValsAre vs ds → vs.any isNoneV = ds.any (·.isNone)
  | [], [], _ => rfl
  | v :: vs, d :: ds, h => by
    rw [List.any_cons, List.any_cons, any_none h.2]
    cases d with
    | none => have := h.1; cases this; rfl
    | some i => obtain ⟨t, rfl⟩ := h.1; rfl
section
variable {prog : Program} {w : World} {A : Around} {E : Value → Shared → Prop} {s : Shared}
theorem none_notin {l : Addr} {vs : List Value} {ds : List Val} {Q : Value → Shared → Prop} (hl : s.heap.IsList l vs.toArray) (hv : ValsAre vs ds) (h : Q (.bool (!ds.any (·.isNone))) s) :
    wpAny (model prog w) A (compareOp .NotIn .none (.ref l)) Q E s := by
  refine notIn_listAt isNoneV hl (fun y hy => ?_) ?_
  · obtain ⟨i, hi⟩ := List.getElem?_of_mem (by simpa using hy : y ∈ vs)
    obtain ⟨d, _, hd⟩ := ValsAre.at hv hi
    cases d with
    | none => cases hd; exact EqAt.same .none
    | some i => obtain ⟨t, rfl⟩ := hd; exact EqAt.int_none i t
  · rw [List.any_toArray, any_none hv]; exact h
end
end
/-! ## NCX1 -/
section
open PySem PySem.Spec PySem.Calls PySem.W PyProof.Rows PyProof.Rows.LCg
local macro_rules | `(tactic| ktn_no "ep?") => `(tactic| skip)
local macro_rules | `(tactic| k_inst) => `(tactic| exact inst_of (Fr.keep (by assumption) _ _ (by assumption)) (News.get (by assumption) (by k_mem)))
def RowAre (h : Heap) (v : Value) (r : Int × List Val) : Prop := ∃ a lv t vs, v = .ref a ∧ IsTup h a #[.int r.1 t, .ref lv] ∧ h.IsList lv (List.toArray vs) ∧ ValsAre vs r.2
def RowsAre (h : Heap) (vs : List Value) (rows : List (Int × List Val)) : Prop := vs.length = rows.length ∧ ∀ (i : Nat) (v : Value), vs[i]? = some v → ∃ r, rows[i]? = some r ∧ RowAre h v r
theorem rowsAre_keep {h h' : Heap} {vs : List Value} {rows : List (Int × List Val)} (x : RowsAre h vs rows) (hk : ∀ b o, h.get? b = some o → h'.get? b = some o) : RowsAre h' vs rows :=
  ⟨x.1, fun i v e => let ⟨r, e1, a, lv, t, ws, e2, e3, e4, e5⟩ := x.2 i v e; ⟨r, e1, a, lv, t, ws, e2, e3.keeps hk, (let ⟨o, q, z⟩ := e4; ⟨o, hk _ _ q, z⟩), e5⟩⟩
/-- the key is among the records -/
def Hit (bs : List Bool) (kss : List (List Val)) (es : List Val) : Prop := ∃ p ks, PlaceIs bs kss es p ∧ kss[p]? = some ks ∧ cmpK bs ks es = 0
theorem placeIs_uniq {bs : List Bool} {kss : List (List Val)} {es : List Val} {p q : Nat} (hp : PlaceIs bs kss es p) (hq : PlaceIs bs kss es q) : p = q := by
  rcases Nat.lt_trichotomy p q with h | h | h
  · have hl : p < kss.length := Nat.lt_of_lt_of_le h hq.1
    exact absurd (hq.2.1 p _ (List.getElem?_eq_getElem hl) h) (hp.2.2 p _ (List.getElem?_eq_getElem hl) (Nat.le_refl _))
  · exact h
  · have hl : q < kss.length := Nat.lt_of_lt_of_le h hp.1
    exact absurd (hp.2.1 q _ (List.getElem?_eq_getElem hl) h) (hq.2.2 q _ (List.getElem?_eq_getElem hl) (Nat.le_refl _))
theorem all_step {A : Prop} {P : Int × List Val → Prop} {rows : List (Int × List Val)} {i : Nat} {r0 : Int × List Val} (h : A ↔ ∀ (j : Nat) (r : Int × List Val), j < i → rows[j]? = some r → P r) (hi : rows[i]? = some r0) (hp : P r0) : A ↔ ∀ (j : Nat) (r : Int × List Val), j < i + 1 → rows[j]? = some r → P r := by
  rw [h]
  refine ⟨fun x j r hj hr => ?_, fun x j r hj hr => x j r (by omega) hr⟩
  rcases Nat.lt_succ_iff_lt_or_eq.mp hj with q | q
  · exact x j r q hr
  · subst q
    rw [hi] at hr; cases hr; exact hp
theorem all_fail {P : Int × List Val → Prop} {rows : List (Int × List Val)} {i : Nat} {r0 : Int × List Val} {l : List Value} {v : Value} (hi : rows[i]? = some r0) (hp : ¬ P r0) : (l ++ [v] = []) ↔ ∀ (j : Nat) (r : Int × List Val), j < i + 1 → rows[j]? = some r → P r :=
  ⟨fun e => by simp at e, fun x => absurd (x i r0 (Nat.lt_succ_self i) hi) hp⟩
/-- no key stands twice among the first i -/
def NoDup (uq : Bool) (bs : List Bool) (nc : Nat) (kss : List (List Val)) (i : Nat) : Prop := ∀ (j : Nat) (prev cur : List Val), j + 1 < i → kss[j]? = some prev → kss[j + 1]? = some cur → uq = true → (cur.take nc).any (·.isNone) = false → cmpK bs (prev.take nc) (cur.take nc) ≠ 0
def AllHit (bs : List Bool) (kss : List (List Val)) (rp : Val) (cols : List (Int × Bool)) (rows : List (Int × List Val)) : Prop := ∀ (j : Nat) (r : Int × List Val), j < rows.length → rows[j]? = some r → Hit bs kss (keyOf rp cols r.1 r.2)
theorem valsAre_takeE : ∀ {n k : Nat} {vs : List Value} {ds : List Val}, n = k → ValsAre vs ds → ValsAre (vs.take n) (ds.take k)
  | 0, _, _, _, rfl, _ => trivial
  | _ + 1, _, [], [], rfl, _ => trivial
  | n + 1, _, _ :: _, _ :: _, rfl, h => ⟨h.1, valsAre_takeE (n := n) rfl h.2⟩
theorem isInfo_news {w : World} {h : Heap} {a dx lc ld : Addr} {t1 t2 : Tok} {cs : List Value} {bs : List Bool} (e1 : h.get? a = some (instObj 286 dx)) (e2 : h.get? dx = some (dictOf [entW w "collations" t1 (.ref lc), entW w "descending" t2 (.ref ld)] 2)) (e3 : h.get? lc = some ({ cls := .type "tuple", data := .seq (List.toArray cs) } : Obj)) (e4 : h.get? ld = some ({ cls := .type "tuple", data := .seq (List.toArray (bs.map Value.bool)) } : Obj)) (hb : AllBin cs) (hl : cs.length = bs.length) : IsInfo w h a bs :=
  ⟨dx, lc, ld, t1, t2, cs, e1, e2, ⟨_, e3, rfl, _, rfl⟩, hb, hl, ⟨_, e4, rfl, _, rfl⟩⟩
theorem fr_ahead {h₀ h : Heap} {L D : Addr} {m : Str → Option Value} (_ : Fr h₀ L h m) (_ : m (Str.ofString "ahead") = some (.ref D)) : ∃ D', D' = D := ⟨D, rfl⟩
theorem noDup_step {uq : Bool} {bs : List Bool} {nc : Nat} {kss : List (List Val)} {i : Nat} {prev cur : List Val} (hi0 : 0 < i) (hprev : kss[i - 1]? = some prev) (hcur : kss[i]? = some cur) :
    NoDup uq bs nc kss (i + 1) ↔ NoDup uq bs nc kss i ∧ (uq = true → (cur.take nc).any (·.isNone) = false → cmpK bs (prev.take nc) (cur.take nc) ≠ 0) := by
  constructor
  · intro h
    refine ⟨fun j p c hj => h j p c (by omega), ?_⟩
    have := h (i - 1) prev cur (by omega) hprev (by rw [Nat.sub_add_cancel hi0]; exact hcur)
    exact this
  · rintro ⟨h1, h2⟩ j p c hj hp hc
    by_cases e : j + 1 = i
    · have e' : j = i - 1 := by omega
      subst e'
      (have z99 := hc; rw [Nat.sub_add_cancel hi0] at z99; clear hc; have hc := z99; clear z99)
      rw [hprev] at hp; rw [hcur] at hc
      cases hp; cases hc
      exact h2
    · exact h1 j p c (by omega) hp hc
theorem gs_ok {α : Type} {gs : List α} {H : Prop} {uq : Bool} {bs : List Bool} {nc : Nat} {kss : List (List Val)} {i : Nat} {prev cur : List Val} (h : gs = [] ↔ H ∧ NoDup uq bs nc kss i) (hi0 : 0 < i) (hprev : kss[i - 1]? = some prev) (hcur : kss[i]? = some cur)
    (hp : uq = true → (cur.take nc).any (·.isNone) = false → cmpK bs (prev.take nc) (cur.take nc) ≠ 0) : gs = [] ↔ H ∧ NoDup uq bs nc kss (i + 1) := by
  rw [h, noDup_step hi0 hprev hcur]
  exact ⟨fun x => ⟨x.1, x.2, hp⟩, fun x => ⟨x.1, x.2.1⟩⟩
theorem gs_bad {α : Type} {gs : List α} {v : α} {H : Prop} {bs : List Bool} {nc : Nat} {kss : List (List Val)} {i : Nat} {prev cur : List Val} (hi0 : 0 < i) (hprev : kss[i - 1]? = some prev) (hcur : kss[i]? = some cur)
    (hn : (cur.take nc).any (·.isNone) = false) (hz : cmpK bs (prev.take nc) (cur.take nc) = 0) : (gs ++ [v] = []) ↔ H ∧ NoDup true bs nc kss (i + 1) := by
  rw [noDup_step hi0 hprev hcur]
  exact ⟨fun e => by simp at e, fun x => absurd hz (x.2.2 rfl hn)⟩
theorem gs_one {α : Type} {gs : List α} {H : Prop} {uq : Bool} {bs : List Bool} {nc : Nat} {kss : List (List Val)} (h : gs = [] ↔ H ∧ NoDup uq bs nc kss 0) : gs = [] ↔ H ∧ NoDup uq bs nc kss (0 + 1) := by
  rw [h]
  exact ⟨fun x => ⟨x.1, fun j p c hj => by omega⟩, fun x => ⟨x.1, fun j p c hj => by omega⟩⟩
section
variable {prog : Program} {w : World} {A : Around} {E : Value → Shared → Prop} {s : Shared}
theorem none_notin_t {l : Addr} {vs : List Value} {ds : List Val} {Q : Value → Shared → Prop} (hb : ds.any (·.isNone) = true) (hl : s.heap.IsList l vs.toArray) (hv : ValsAre vs ds) (h : Q (.bool false) s) :
    wpAny (model prog w) A (compareOp .NotIn .none (.ref l)) Q E s := none_notin hl hv (by rw [hb]; exact h)
theorem none_notin_f {l : Addr} {vs : List Value} {ds : List Val} {Q : Value → Shared → Prop} (hb : ds.any (·.isNone) = false) (hl : s.heap.IsList l vs.toArray) (hv : ValsAre vs ds) (h : Q (.bool true) s) :
    wpAny (model prog w) A (compareOp .NotIn .none (.ref l)) Q E s := none_notin hl hv (by rw [hb]; exact h)
end
/-- the key ahead of the i-th, if any -/
def PrevIs (kss : List (List Val)) (nc i : Nat) (av : Value) (extra : List (Addr × Obj)) : Prop :=
  (i = 0 ∧ av = .none) ∨ ∃ la avs na prev, av = .ref la ∧ (la, PySem.W.listOf (List.toArray avs) na) ∈ extra ∧ 0 < i ∧ kss[i - 1]? = some prev ∧ ValsAre avs (prev.take nc)
theorem cut_led {M : Model} {A : Around} {E : Value → Shared → Prop} {s : Shared} {tr : Sem Flow} {Q : Flow → Shared → Prop} {h₀ : Heap} {L : Addr} (es : Tok → List (Str × Value)) {t₀ : Tok} {m₀ : Str → Option Value} (Lg : List Value → Nat → List (Addr × Obj)) (Hp : Prop) (k : Nat) (F : Fr h₀ L s.heap (over (es t₀) m₀))
    (h : ∀ (G : Flow → Shared → Prop) t m, Fr h₀ L s.heap (over (es t) m) → (∀ h' tk' (gs : List Value) (ng : Nat), Fr h₀ L h' (over (es t) m) → News h₀ L h' (Lg gs ng) → gs.length ≤ k → (gs = [] ↔ Hp) → G .next { s with heap := h', toks := tk' }) → wpAny M A tr G E s)
    (r : ∀ t m h' tk' (gs : List Value) (ng : Nat), Fr h₀ L h' (over (es t) m) → News h₀ L h' (Lg gs ng) → gs.length ≤ k → (gs = [] ↔ Hp) → Q .next { s with heap := h', toks := tk' }) : wpAny M A tr Q E s := h Q t₀ m₀ F fun h' tk' gs ng => r t₀ m₀ h' tk' gs ng
theorem news_sub {h₀ h : Heap} {L : Addr} {n n' : List (Addr × Obj)} (N : News h₀ L h n) (x : ∀ p ∈ n', p ∈ n) : News h₀ L h n' := fun p hp => N p (x p hp)
local macro_rules | `(tactic| k_mem) => `(tactic| assumption)
set_option maxHeartbeats 40000000 in
theorem ct_check1 {w : World} {mean mg mb} {x dx li lr lf xt lct xi lci lrw : Addr} {t1 t2 t3 t4 : Tok} {pv : Value} {nf : Nat} {rp : Val} {recs cvs rvs : List Value} {kss : List (List Val)} {cols : List (Int × Bool)} {uq : Bool} {rows : List (Int × List Val)} {bs : List Bool}
    (hbs : bs = cols.map (·.2) ++ [false]) (hr1 : RecsAre recs kss) (hsm0 : ∀ ks ∈ kss, (∀ d ∈ ks, Small d) ∧ ks.length ≤ 40) (hl1 : kss.length ≤ 40) (hc0 : 0 < cols.length) (hc1 : cols.length ≤ 10) (hc2 : ∀ c ∈ cols, -1 ≤ c.1) (hrl : rows.length ≤ 50) (hrd : ∀ r ∈ rows, r.2.length ≤ 40) (hrb : ∀ r ∈ rows, 0 ≤ r.1 ∧ r.1 < 1000)
    (hmono : ∀ r ∈ rows, ∀ (i j : Nat) (ki kj : List Val), i ≤ j → kss[i]? = some ki → kss[j]? = some kj → cmpK bs kj (keyOf rp cols r.1 r.2) < 0 → cmpK bs ki (keyOf rp cols r.1 r.2) < 0) : Tell w mean mg mb 317 20 [.ref x, .ref lf, .ref xt, .ref xi, .ref lrw] [(dx, curD w t1 t2 t3 t4 li lr pv), (lf, PySem.W.listOf #[] nf)] (fun h => ∃ k : Heap, (∀ b o, k.get? b = some o → h.get? b = some o ∧ b ∉ List.map (fun p : Addr × Obj => p.1) [(dx, curD w t1 t2 t3 t4 li lr pv), (lf, PySem.W.listOf #[] nf)]) ∧ k.get? x = some (instObj 467 dx) ∧ k.IsList lr (List.toArray recs) ∧ IsInfo w k li bs ∧ IsTab w k xt lct rp ∧ IsIdx w k xi lci cvs cols uq ∧ k.IsList lrw (List.toArray rvs) ∧ RowsAre k rvs rows) (fun _ r h' => ∃ fs nf', h'.get? lf = some (PySem.W.listOf (List.toArray fs) nf') ∧ (fs = [] ↔ AllHit bs kss rp cols rows ∧ NoDup uq bs cols.length kss kss.length ∧ kss.length = rows.length)) := by
  revert w mean mg mb x dx li lr lf xt lct xi lci lrw t1 t2 t3 t4 pv nf rp recs cvs rvs kss cols uq rows bs hbs hr1 hsm0 hl1 hc0 hc1 hc2 hrl hrd hrb hmono
  ((refine @all8 _ _ _ _ _ _ _ _ (by ktn_no "ne") (by ktn_no "ne") (by ktn_no "ne") (by ktn_no "ne") (by ktn_no "ne") (by ktn_no "ne") (by ktn_no "ne") (by ktn_no "ne") _ ?_; generalize E8a _ _ _ _ _ _ _ _ _ = w, E8b _ _ _ _ _ _ _ _ _ = mean, E8c _ _ _ _ _ _ _ _ _ = mg, E8d _ _ _ _ _ _ _ _ _ = mb, E8e _ _ _ _ _ _ _ _ _ = x, E8f _ _ _ _ _ _ _ _ _ = dx, E8g _ _ _ _ _ _ _ _ _ = li, E8h _ _ _ _ _ _ _ _ _ = lr); (refine @all8 _ _ _ _ _ _ _ _ (by ktn_no "ne") (by ktn_no "ne") (by ktn_no "ne") (by ktn_no "ne") (by ktn_no "ne") (by ktn_no "ne") (by ktn_no "ne") (by ktn_no "ne") _ ?_; generalize E8a _ _ _ _ _ _ _ _ _ = lf, E8b _ _ _ _ _ _ _ _ _ = xt, E8c _ _ _ _ _ _ _ _ _ = lct, E8d _ _ _ _ _ _ _ _ _ = xi, E8e _ _ _ _ _ _ _ _ _ = lci, E8f _ _ _ _ _ _ _ _ _ = lrw, E8g _ _ _ _ _ _ _ _ _ = t1, E8h _ _ _ _ _ _ _ _ _ = t2); (refine @all8 _ _ _ _ _ _ _ _ (by ktn_no "ne") (by ktn_no "ne") (by ktn_no "ne") (by ktn_no "ne") (by ktn_no "ne") (by ktn_no "ne") (by ktn_no "ne") (by ktn_no "ne") _ ?_; generalize E8a _ _ _ _ _ _ _ _ _ = t3, E8b _ _ _ _ _ _ _ _ _ = t4, E8c _ _ _ _ _ _ _ _ _ = pv, E8d _ _ _ _ _ _ _ _ _ = nf, E8e _ _ _ _ _ _ _ _ _ = rp, E8f _ _ _ _ _ _ _ _ _ = recs, E8g _ _ _ _ _ _ _ _ _ = cvs, E8h _ _ _ _ _ _ _ _ _ = rvs); (refine @all5 _ _ _ _ _ (by ktn_no "ne") (by ktn_no "ne") (by ktn_no "ne") (by ktn_no "ne") (by ktn_no "ne") _ ?_; generalize E5a _ _ _ _ _ _ = kss, E5b _ _ _ _ _ _ = cols, E5c _ _ _ _ _ _ = uq, E5d _ _ _ _ _ _ = rows, E5e _ _ _ _ _ _ = bs; intro hbs hr1 hsm0 hl1 hc0 hc1 hc2 hrl hrd hrb hmono))
  (refine tell_in _ _ _ _ _ _ _ _ _ _ ?_; k_fill; generalize TX.dp (tx _ _ _ _ _ _ _ _ _ _) = dp, TX.un (tx _ _ _ _ _ _ _ _ _ _) = un, TX.gd (tx _ _ _ _ _ _ _ _ _ _) = gd, TX.cn (tx _ _ _ _ _ _ _ _ _ _) = cn, TX.cs (tx _ _ _ _ _ _ _ _ _ _) = cs, TX.a (tx _ _ _ _ _ _ _ _ _ _) = a, TX.ccd (tx _ _ _ _ _ _ _ _ _ _) = ccd, TX.cl (tx _ _ _ _ _ _ _ _ _ _) = cl, TX.outer (tx _ _ _ _ _ _ _ _ _ _) = outer, TX.A₀ (tx _ _ _ _ _ _ _ _ _ _) = A₀, TX.base (tx _ _ _ _ _ _ _ _ _ _) = base, TX.h₀ (tx _ _ _ _ _ _ _ _ _ _) = h₀, TX.L (tx _ _ _ _ _ _ _ _ _ _) = L, TX.m (tx _ _ _ _ _ _ _ _ _ _) = m, TX.s (tx _ _ _ _ _ _ _ _ _ _) = s, TX.Q (tx _ _ _ _ _ _ _ _ _ _) = Q, TX.E (tx _ _ _ _ _ _ _ _ _ _) = E; intro B F X N T hk hpre hd hu hret)
  (refine ex1 (hpre) ?_; generalize X1a _ _ = k; refine cur8 ?_; intro hk1 p1 p2 p3 p4 p5 p6 p7)
  have hdx := (N _ (.head _)).1
  have hlf := (N _ (.tail _ (.head _))).1
  have n0 : @Ne Nat dx lf := two_objs hdx hlf dict_list
  have hvl := RecsAre.length hr1
  have hbl : bs.length = cols.length + 1 := by rw [hbs, List.length_append, List.length_map]; rfl
  ktr_enter
  rename KeepB _ _ _ => kg0
  have kk : ∀ b o, k.get? b = some o → _ := fun b o e => kg0 b o (hk1 b o e).1 (hk1 b o e).2
  have I1 := kk _ _ p1
  have Il : Heap.IsList _ lr (List.toArray recs) := let ⟨o, e, r⟩ := p2; ⟨o, kk _ _ e, r⟩
  have Ii := isInfo_keep p3 kk
  have It := isTab_keep p4 kk
  have Ix := isIdx_keep p5 kk
  have Ir : Heap.IsList _ lrw (List.toArray rvs) := let ⟨o, e, r⟩ := p6; ⟨o, kk _ _ e, r⟩
  have Iw := rowsAre_keep p7 kk
  refine idx_out Ix ?_
  ((refine all8 ?_; generalize E8a _ _ _ _ _ _ _ _ _ = dix, E8b _ _ _ _ _ _ _ _ _ = s1, E8c _ _ _ _ _ _ _ _ _ = s2, E8d _ _ _ _ _ _ _ _ _ = s3, E8e _ _ _ _ _ _ _ _ _ = s4, E8f _ _ _ _ _ _ _ _ _ = s5, E8g _ _ _ _ _ _ _ _ _ = s6, E8h _ _ _ _ _ _ _ _ _ = s7); (refine all5 ?_; generalize E5a _ _ _ _ _ _ = sn, E5b _ _ _ _ _ _ = sb, E5c _ _ _ _ _ _ = rt, E5d _ _ _ _ _ _ = og, E5e _ _ _ _ _ _ = sq; intro i1 i2 i3 i4))
  have Iix := inst_of i1 i2
  have hcl := ColsAre.length i4
  (repeat' ((fail_if_success (ktn_no "stop")); (fail_if_success (with_reducible show wpAny _ _ (PySem.call (Value.ref 518) _) _ _ _)); (fail_if_success (with_reducible show wpAny _ _ (exec (Stmt.Assign _ (Expr.ListComp _ _ _ _) _) _) _ _ _)); (fail_if_success (with_reducible show wpAny _ _ (eval (Expr.ListComp _ _ _ _) _) _ _ _)); (fail_if_success (with_reducible show CompTurned _ _ _ _ _ _ _ _ _ _ _ _)); first | (k_unfold; (try dsimp only)) | walk1 | (dsimp only; walk1)))
  refine forA ?_
  (repeat' ((fail_if_success (ktn_no "stop")); (fail_if_success (with_reducible show wpAny _ _ (PySem.call (Value.ref 518) _) _ _ _)); (fail_if_success (with_reducible show wpAny _ _ (exec (Stmt.Assign _ (Expr.ListComp _ _ _ _) _) _) _ _ _)); (fail_if_success (with_reducible show wpAny _ _ (eval (Expr.ListComp _ _ _ _) _) _ _ _)); (fail_if_success (with_reducible show CompTurned _ _ _ _ _ _ _ _ _ _ _ _)); first | (k_unfold; (try dsimp only)) | walk1 | (dsimp only; walk1)))
  rename Fr _ _ _ _ => F2
  rename News _ _ _ _ => N2
  refine iterPS (fun i k9 => ∀ pv' fs nf' (m : Str → Option Value), (fs.length ≤ i) → ((fs = [] ↔ ∀ (j : Nat) (r : Int × List Val), j < i → rows[j]? = some r → Hit bs kss (keyOf rp cols r.1 r.2))) → k9 (over [(Str.ofString "cursor", (.ref x)), (Str.ofString "faults", (.ref lf)), (Str.ofString "table", (.ref xt)), (Str.ofString "index", (.ref xi)), (Str.ofString "rows", (.ref lrw))] m) [(dx, curD w t1 t2 t3 t4 li lr pv'), (lf, PySem.W.listOf (List.toArray fs) nf')]) rfl (by ktn_no "b_list") (.inl (let ⟨o, e, _⟩ := Ir; ⟨o, e⟩)) (fr_over' (es := [(Str.ofString "cursor", _), (Str.ofString "faults", _), (Str.ofString "table", _), (Str.ofString "index", _), (Str.ofString "rows", _)]) F2 ⟨rfl, rfl, rfl, rfl, rfl, trivial⟩) N2
    (fun _ k9 => k9 (_) ([]) (_) _ (Nat.le_refl _) (by simp)) ?_ ?_ ?_
  · ((refine all2 ?_; generalize E2a _ _ _ = i, E2b _ _ _ = v; intro hv); (refine all4 ?_; generalize E4a _ _ _ _ _ = pv', E4b _ _ _ _ _ = fs, E4c _ _ _ _ _ = nf', E4d _ _ _ _ _ = m₁; intro hfl hfs); (refine all4 ?_; generalize E4a _ _ _ _ _ = h9, E4b _ _ _ _ _ = tk, E4c _ _ _ _ _ = I, E4d _ _ _ _ _ = o; intro F6 N5 hI))
    clear F2 N2
    (refine ex2 (ex_pair (Iw.2 i v hv)) ?_; generalize X2a _ _ _ = rid, X2b _ _ _ = ds; refine cur2 ?_; intro hrow r91; refine ex4 (r91) ?_; generalize X4a _ _ _ _ _ = a9, X4b _ _ _ _ _ = lv9, X4c _ _ _ _ _ = tv9, X4d _ _ _ _ _ = vs9; refine cur4 ?_; intro z93_0 w1 w2 w3; subst z93_0)
    have hmn := hmono (rid, ds) (List.mem_of_getElem? hrow)
    have hdl := hrd (rid, ds) (List.mem_of_getElem? hrow)
    (generalize (hrb (rid, ds) (List.mem_of_getElem? hrow)).1 = hri0, (hrb (rid, ds) (List.mem_of_getElem? hrow)).2 = hri1)
    dsimp only at hmn hdl w1 w3 hri0 hri1
    have hil : i < rows.length := (List.getElem?_eq_some_iff.mp hrow).1
    have n1 : @Ne Nat dx I := hI _ (.head _)
    have n2 : @Ne Nat lf I := hI _ (.tail _ (.head _))
    have hwl : fs.length ≤ 100 := by omega
    have hkl : (keyOf rp cols rid ds).length = cols.length + 1 := by unfold keyOf; rw [List.length_append, List.length_map]; rfl
    refine assign_Tuple_tuple rfl (F6.tup w1) rfl rfl ?_
    ((refine all1 ?_; generalize E1a _ _ = h₅; intro he))
    have he' : ∀ b o, h9.get? b = some o → h₅.get? b = some o := fun b o e => he b o (Nat.ne_of_lt (Heap.lt_size e)) e
    have F7 := F6.keeps he'
    have N7 := N5.grown he'
    clear F6 N5
    refine assignInOrder_cons ?_
    show wpAny _ _ (assign _ _ _) _ _ _
    (repeat' ((fail_if_success (ktn_no "stop")); (fail_if_success (with_reducible show wpAny _ _ (PySem.call (Value.ref 518) _) _ _ _)); (fail_if_success (with_reducible show wpAny _ _ (exec (Stmt.Assign _ (Expr.ListComp _ _ _ _) _) _) _ _ _)); (fail_if_success (with_reducible show wpAny _ _ (eval (Expr.ListComp _ _ _ _) _) _ _ _)); (fail_if_success (with_reducible show CompTurned _ _ _ _ _ _ _ _ _ _ _ _)); first | ((with_reducible show wpAny _ _ (PySem.call (Value.ref 408) _) _ _ _); k_dflt (refine use_seek (hp := by exact ⟨Fr.keep (by assumption) _ _ (by assumption), by ktn_no "b_list", isInfo_keep (by assumption) (Fr.keep (by assumption)), by ktn_no "b_list"⟩) (C := ct_seek (by assumption) (by assumption) (by assumption) (by omega) (by omega) (by omega) (by assumption)) (U := by intro p9 t9; k_upd) (ret := ?_); ((refine all4 ?_; ktn_no "g4"; intro _ _ _ _))); ktn_no "aft") | ((with_reducible show wpAny _ _ (PySem.call (Value.ref 310) _) _ _ _); k_dflt (refine useL (hp := by exact ⟨isTab_keep (by assumption) (Fr.keep (by assumption)), isIdx_keep (by assumption) (Fr.keep (by assumption)), by ktn_no "b_list"⟩) (C := ct_ikey (by assumption) (by omega) (by omega) (by assumption)) (ret := ?_)); ((refine all5 ?_; ktn_no "g5"; intro _ _ _ _ _)); (rename Off _ _ => M9; dsimp only [List.map] at M9); ktn_no "aft") | ((with_reducible show wpAny _ _ (binaryOp Operator.Add (Value.str _ _) (Value.str _ _)) _ _ _); (refine' KXadd.add (by kt_len) (by kt_len) (by exact Nat.le_of_ble_eq_true rfl) ?_); refine all2 ?_; ktn_no "g2"; intro _) | (k_unfold; (try dsimp only)) | walk1 | (dsimp only; walk1)))
    · with_reducible rename PlaceIs _ _ _ _ => hP
      rename (_ : Int) < (kss.length : Int) => hpl
      (refine ex1 (place_at hP rfl hpl) ?_; generalize X1a _ _ = ks; intro hks)
      (generalize (hsm0 ks (List.mem_of_getElem? hks)).1 = hsmk, (hsm0 ks (List.mem_of_getElem? hks)).2 = hkl9)
      by_cases hc : cmpK bs ks (keyOf rp cols rid ds) = 0
      · (repeat' ((fail_if_success (ktn_no "stop")); (fail_if_success (with_reducible show wpAny _ _ (PySem.call (Value.ref 518) _) _ _ _)); (fail_if_success (with_reducible show wpAny _ _ (exec (Stmt.Assign _ (Expr.ListComp _ _ _ _) _) _) _ _ _)); (fail_if_success (with_reducible show wpAny _ _ (eval (Expr.ListComp _ _ _ _) _) _ _ _)); (fail_if_success (with_reducible show CompTurned _ _ _ _ _ _ _ _ _ _ _ _)); first | ((with_reducible show wpAny _ _ (PySem.call (Value.ref 436) _) _ _ _); k_dflt (refine useT (hp := by exact ⟨by ktn_no "b_cur", by ktn_no "b_list", isInfo_keep (by assumption) (Fr.keep (by assumption)), by ktn_no "b_list"⟩) (C := ct_kcmp (by assumption) (by assumption) (by assumption) (by omega) (by assumption) (by omega) (by omega) (by omega)) (ret := ?_)); ((refine all3 ?_; ktn_no "g3"; intro _ _)); ktn_no "aft") | (k_unfold; (try dsimp only)) | walk1 | (dsimp only; walk1)))
        with_reducible rename Fr _ _ _ _ => F8
        with_reducible rename News _ _ _ _ => N8
        try simp only [List.push_toArray] at N8
        refine' Turned.next [(dx, curD w t1 t2 t3 t4 li lr _), (lf, PySem.W.listOf (List.toArray fs) nf')] (fr_over' (es := [(Str.ofString "cursor", _), (Str.ofString "faults", _), (Str.ofString "table", _), (Str.ofString "index", _), (Str.ofString "rows", _)]) F8 ⟨rfl, rfl, rfl, rfl, rfl, trivial⟩) N8 ?mI ?mem ?ne ?J
        case mI => k_mem
        case mem =>
          ktn_no "subs"
        case ne =>
          k_all
        case J => (refine' fun _ k9 => k9 (_) (fs) (nf') _ ?c0 ?c1; (case c0 => exact by omega); (case c1 => exact all_step hfs hrow ⟨_, _, hP, hks, hc⟩))
      · (repeat' ((fail_if_success (ktn_no "stop")); (fail_if_success (with_reducible show wpAny _ _ (PySem.call (Value.ref 518) _) _ _ _)); (fail_if_success (with_reducible show wpAny _ _ (exec (Stmt.Assign _ (Expr.ListComp _ _ _ _) _) _) _ _ _)); (fail_if_success (with_reducible show wpAny _ _ (eval (Expr.ListComp _ _ _ _) _) _ _ _)); (fail_if_success (with_reducible show CompTurned _ _ _ _ _ _ _ _ _ _ _ _)); first | ((with_reducible show wpAny _ _ (PySem.call (Value.ref 436) _) _ _ _); k_dflt (refine useT (hp := by exact ⟨by ktn_no "b_cur", by ktn_no "b_list", isInfo_keep (by assumption) (Fr.keep (by assumption)), by ktn_no "b_list"⟩) (C := ct_kcmp (by assumption) (by assumption) (by assumption) (by omega) (by assumption) (by omega) (by omega) (by omega)) (ret := ?_)); ((refine all3 ?_; ktn_no "g3"; intro _ _)); ktn_no "aft") | ((with_reducible show wpAny _ _ (binaryOp Operator.Add (Value.str _ _) (Value.str _ _)) _ _ _); (refine' KXadd.add (by kt_len) (by kt_len) (by exact Nat.le_of_ble_eq_true rfl) ?_); refine all2 ?_; ktn_no "g2"; intro _) | (k_unfold; (try dsimp only)) | walk1 | (dsimp only; walk1)))
        with_reducible rename Fr _ _ _ _ => F8
        with_reducible rename News _ _ _ _ => N8
        try simp only [List.push_toArray] at N8
        refine' Turned.next [(dx, curD w t1 t2 t3 t4 li lr _), (lf, PySem.W.listOf (List.toArray (fs ++ [_])) (nf' + 1))] (fr_over' (es := [(Str.ofString "cursor", _), (Str.ofString "faults", _), (Str.ofString "table", _), (Str.ofString "index", _), (Str.ofString "rows", _)]) F8 ⟨rfl, rfl, rfl, rfl, rfl, trivial⟩) N8 ?mI ?mem ?ne ?J
        case mI => k_mem
        case mem =>
          ktn_no "subs"
        case ne =>
          k_all
        case J => (refine' fun _ k9 => k9 (_) (_) (nf' + 1) _ ?c0 ?c1; (case c0 => exact by simp only [List.length_append, List.length_cons, List.length_nil]; omega); (case c1 => exact all_fail hrow fun ⟨q, ks', hq, hk', hc'⟩ => hc (by have e := placeIs_uniq hq hP; subst e; rw [hks] at hk'; cases hk'; exact hc')))
    · with_reducible rename PlaceIs _ _ _ _ => hP
      with_reducible rename ¬ ((_ : Int) < (kss.length : Int)) => hpl
      · (repeat' ((fail_if_success (ktn_no "stop")); (fail_if_success (with_reducible show wpAny _ _ (PySem.call (Value.ref 518) _) _ _ _)); (fail_if_success (with_reducible show wpAny _ _ (exec (Stmt.Assign _ (Expr.ListComp _ _ _ _) _) _) _ _ _)); (fail_if_success (with_reducible show wpAny _ _ (eval (Expr.ListComp _ _ _ _) _) _ _ _)); (fail_if_success (with_reducible show CompTurned _ _ _ _ _ _ _ _ _ _ _ _)); first | (k_unfold; (try dsimp only)) | walk1 | (dsimp only; walk1)))
        with_reducible rename Fr _ _ _ _ => F8
        with_reducible rename News _ _ _ _ => N8
        try simp only [List.push_toArray] at N8
        refine' Turned.next [(dx, curD w t1 t2 t3 t4 li lr _), (lf, PySem.W.listOf (List.toArray (fs ++ [_])) (nf' + 1))] (fr_over' (es := [(Str.ofString "cursor", _), (Str.ofString "faults", _), (Str.ofString "table", _), (Str.ofString "index", _), (Str.ofString "rows", _)]) F8 ⟨rfl, rfl, rfl, rfl, rfl, trivial⟩) N8 ?mI ?mem ?ne ?J
        case mI => k_mem
        case mem =>
          ktn_no "subs"
        case ne =>
          k_all
        case J => (refine' fun _ k9 => k9 (_) (_) (nf' + 1) _ ?c0 ?c1; (case c0 => exact by simp only [List.length_append, List.length_cons, List.length_nil]; omega); (case c1 => exact all_fail hrow fun ⟨q, ks', hq, hk', hc'⟩ => hpl (by have e := placeIs_uniq hq hP; subst e; have := (List.getElem?_eq_some_iff.mp hk').1; omega)))
  · ((refine all4 ?_; generalize E4a _ _ _ _ _ = pv', E4b _ _ _ _ _ = fs, E4c _ _ _ _ _ = nf', E4d _ _ _ _ _ = m₁; intro hfl hfs); (refine all2 ?_; generalize E2a _ _ _ = h9, E2b _ _ _ = tk; intro F6 N5))
    clear F2 N2
    (have z99 := hfl; rw [Iw.1] at z99; clear hfl; have hfl := z99; clear z99)
    (have z99 := hfs; rw [Iw.1] at z99; clear hfs; have hfs := z99; clear z99)
    (repeat' ((fail_if_success (ktn_no "stop")); (fail_if_success (with_reducible show wpAny _ _ (PySem.call (Value.ref 518) _) _ _ _)); (fail_if_success (with_reducible show wpAny _ _ (exec (Stmt.Assign _ (Expr.ListComp _ _ _ _) _) _) _ _ _)); (fail_if_success (with_reducible show wpAny _ _ (eval (Expr.ListComp _ _ _ _) _) _ _ _)); (fail_if_success (with_reducible show CompTurned _ _ _ _ _ _ _ _ _ _ _ _)); first | (k_unfold; (try dsimp only)) | walk1 | (dsimp only; walk1)))
    k_dflt (refine use_info (bs := bs) (hbs := hbs) (hc0 := by omega) (hc1 := by omega) (hp := isIdx_keep (by assumption) (Fr.keep (by assumption))) (ret := ?_))
    ((refine all8 ?_; generalize E8a _ _ _ _ _ _ _ _ _ = a9, E8b _ _ _ _ _ _ _ _ _ = d9, E8c _ _ _ _ _ _ _ _ _ = lc9, E8d _ _ _ _ _ _ _ _ _ = ld9, E8e _ _ _ _ _ _ _ _ _ = t8, E8f _ _ _ _ _ _ _ _ _ = t9, E8g _ _ _ _ _ _ _ _ _ = cs9, E8h _ _ _ _ _ _ _ _ _ = h9); (refine all1 ?_; generalize E1a _ _ = tk9; intro F9 N10 hb9 hcl9 M1 M2 M3 M4 na1 na2 na3 na4); intro na5 na6)
    dsimp only [List.map] at M1 M2 M3 M4
    try k_sweep
    try dsimp only
    (repeat' ((fail_if_success (ktn_no "stop")); (fail_if_success (with_reducible show wpAny _ _ (PySem.call (Value.ref 518) _) _ _ _)); (fail_if_success (with_reducible show wpAny _ _ (exec (Stmt.Assign _ (Expr.ListComp _ _ _ _) _) _) _ _ _)); (fail_if_success (with_reducible show wpAny _ _ (eval (Expr.ListComp _ _ _ _) _) _ _ _)); (fail_if_success (with_reducible show CompTurned _ _ _ _ _ _ _ _ _ _ _ _)); first | ((with_reducible show wpAny _ _ (PySem.call (Value.ref 380) _) _ _ _); k_dflt (refine useU (hp := by exact ⟨Fr.keep (by assumption) _ _ (by assumption), by ktn_no "b_list"⟩) (C := ct_first (by omega)) (U := by intro t; k_upd) (ret := ?_)); ((refine all3 ?_; ktn_no "g3"; intro _ _)); ktn_no "aft") | (k_unfold; (try dsimp only)) | walk1 | (dsimp only; walk1)))
    with_reducible rename Fr _ _ _ _ => F8
    with_reducible rename News _ _ _ _ => N8
    refine whileAS (σ := Nat) (fun i => kss.length - i) (fun i k9 => ∀ tm tp av extra fs nf' (m : Str → Option Value), i ≤ kss.length → fs.length ≤ rows.length + i → (fs = [] ↔ AllHit bs kss rp cols rows ∧ NoDup uq bs cols.length kss i) → (∀ p ∈ extra, @Ne Nat p.1 dx) → (∀ p ∈ extra, @Ne Nat p.1 lf) → PrevIs kss cols.length i av extra →
        k9 (over [(Str.ofString "cursor", .ref x), (Str.ofString "faults", .ref lf), (Str.ofString "index", .ref xi), (Str.ofString "rows", .ref lrw), (Str.ofString "info", .ref a9), (Str.ofString "many", .int (i : Int) tm), (Str.ofString "ahead", av), (Str.ofString "going", .bool (decide ((i : Int) < (recs.length : Int))))] m)
          ((a9, instObj 286 d9) :: (d9, dictOf [entW w "collations" t8 (.ref lc9), entW w "descending" t9 (.ref ld9)] 2) :: (lc9, ({ cls := .type "tuple", data := .seq (List.toArray cs9) } : Obj)) :: (ld9, ({ cls := .type "tuple", data := .seq (List.toArray (bs.map Value.bool)) } : Obj)) :: (dx, curD w t1 t2 t3 t4 li lr (.int (i : Int) tp)) :: (lf, PySem.W.listOf (List.toArray fs) nf') :: extra)) 0 (fr_over' (es := [(Str.ofString "cursor", _), (Str.ofString "faults", _), (Str.ofString "index", _), (Str.ofString "rows", _), (Str.ofString "info", _), (Str.ofString "many", _), (Str.ofString "ahead", _), (Str.ofString "going", _)]) F8 ⟨rfl, rfl, rfl, rfl, rfl, rfl, rfl, rfl, trivial⟩) N8
      (fun _ k9 => k9 _ _ _ [] fs nf' _ (Nat.zero_le _) (by omega) ?_ (fun _ h => nomatch h) (fun _ h => nomatch h) (.inl ⟨rfl, rfl⟩)) ?_
    · rw [hfs]
      exact ⟨fun h => ⟨h, fun j prev cur h1 => absurd h1 (Nat.not_lt_zero _)⟩, fun h => h.1⟩
    · clear F8 N8
      ((refine all8 ?_; generalize E8a _ _ _ _ _ _ _ _ _ = E9, E8b _ _ _ _ _ _ _ _ _ = i, E8c _ _ _ _ _ _ _ _ _ = tm, E8d _ _ _ _ _ _ _ _ _ = tp, E8e _ _ _ _ _ _ _ _ _ = av, E8f _ _ _ _ _ _ _ _ _ = extra, E8g _ _ _ _ _ _ _ _ _ = gs, E8h _ _ _ _ _ _ _ _ _ = ng); (refine all1 ?_; generalize E1a _ _ = m₂; intro hik hgl hgs hx1 hx2 hah); (refine all2 ?_; generalize E2a _ _ _ = h8, E2b _ _ _ = tk8; intro F6 N5))
      have hwg : gs.length ≤ 100 := by omega
      by_cases hlt : i < kss.length
      · (refine ex1 ((⟨kss[i], List.getElem?_eq_getElem hlt⟩ : ∃ cur, kss[((i : Nat) : Int).toNat]? = some cur)) ?_; generalize X1a _ _ = cur; intro hcur)
        (generalize (hsm0 cur (List.mem_of_getElem? hcur)).1 = hsmc, (hsm0 cur (List.mem_of_getElem? hcur)).2 = hcl8)
        have hdt : decide ((i : Int) < (recs.length : Int)) = true := by simp only [decide_eq_true_eq]; omega
        (have z99 := F6; rw [hdt] at z99; clear F6; have F6 := z99; clear z99)
        (repeat' ((fail_if_success (with_reducible show wpAny _ _ (exec (Stmt.If _ _ _ _) _) _ _ _)); (fail_if_success (ktn_no "stop")); (fail_if_success (with_reducible show wpAny _ _ (PySem.call (Value.ref 518) _) _ _ _)); (fail_if_success (with_reducible show wpAny _ _ (exec (Stmt.Assign _ (Expr.ListComp _ _ _ _) _) _) _ _ _)); (fail_if_success (with_reducible show wpAny _ _ (eval (Expr.ListComp _ _ _ _) _) _ _ _)); (fail_if_success (with_reducible show CompTurned _ _ _ _ _ _ _ _ _ _ _ _)); first | ((with_reducible show wpAny _ _ (call (Value.builtin "len") [Value.ref _]) _ _ _); refine' len_list ?ll ?lf ?_; (case ll => ktn_no "b_list"); (case lf => (simp only [List.size_toArray, List.length_take]; omega)); (try simp only [List.size_toArray])) | ((with_reducible show wpAny _ _ (PySem.call (Value.ref 457) _) _ _ _); k_dflt (refine useL (hp := by exact ⟨by ktn_no "b_cur", by ktn_no "b_list"⟩) (C := ct_values (by assumption) (by omega) (by assumption) (by omega) (by assumption) (by omega)) (ret := ?_)); ((refine all5 ?_; ktn_no "g5"; intro _ _ _ _ _)); (rename Off _ _ => M9; dsimp only [List.map] at M9); ktn_no "aft") | (k_unfold; (try dsimp only)) | walk1 | (dsimp only; walk1)))
        with_reducible rename Fr _ _ _ _ => F8
        with_reducible rename News _ _ _ _ => N8
        with_reducible rename List Value => vs9
        with_reducible rename ValsAre vs9 cur => hv9
        rename_i D9 h91 l91 h92
        refine cut_led (fun t => [(Str.ofString "cursor", .ref x), (Str.ofString "faults", .ref lf), (Str.ofString "index", .ref xi), (Str.ofString "rows", .ref lrw), (Str.ofString "info", .ref a9), (Str.ofString "many", .int ((i : Int) + 1) t), (Str.ofString "ahead", av), (Str.ofString "key", .ref D9)]) (fun gs ng => (D9, PySem.W.listOf (List.toArray (vs9.take cvs.length)) 0) :: (a9, instObj 286 d9) :: (d9, dictOf [entW w "collations" t8 (.ref lc9), entW w "descending" t9 (.ref ld9)] 2) :: (lc9, ({ cls := .type "tuple", data := .seq (List.toArray cs9) } : Obj)) :: (ld9, ({ cls := .type "tuple", data := .seq (List.toArray (bs.map Value.bool)) } : Obj)) :: (dx, curD w t1 t2 t3 t4 li lr (.int (i : Int) tp)) :: (lf, PySem.W.listOf (List.toArray gs) ng) :: extra) (AllHit bs kss rp cols rows ∧ NoDup uq bs cols.length kss (i + 1)) (rows.length + i + 1) (fr_over' F8 ⟨rfl, rfl, rfl, rfl, rfl, rfl, rfl, rfl, trivial⟩) ?_ ?_
        · clear F8
          ((refine all3 ?_; generalize E3a _ _ _ _ = G9, E3b _ _ _ _ = t5, E3c _ _ _ _ = m5; intro F8 hG9))
          rcases hah with ⟨hi0, hav⟩ | ⟨la, avs, na, prev, hav, hla, hi0, hprev, hpv⟩
          · subst hav
            by_cases huq : uq = true
            · (repeat' ((fail_if_success (ktn_no "stop")); (fail_if_success (with_reducible show wpAny _ _ (PySem.call (Value.ref 518) _) _ _ _)); (fail_if_success (with_reducible show wpAny _ _ (exec (Stmt.Assign _ (Expr.ListComp _ _ _ _) _) _) _ _ _)); (fail_if_success (with_reducible show wpAny _ _ (eval (Expr.ListComp _ _ _ _) _) _ _ _)); (fail_if_success (with_reducible show CompTurned _ _ _ _ _ _ _ _ _ _ _ _)); first | (k_unfold; (try dsimp only)) | walk1 | (dsimp only; walk1)))
              with_reducible rename Fr _ _ _ _ => F9
              with_reducible rename News _ _ _ _ => N9
              try simp only [List.push_toArray] at N9
              refine hG9 _ _ gs ng F9 (news_sub N9 (by ktn_no "subs")) (by omega) ?_
              exact (by subst hi0; exact gs_one hgs)
            · (repeat' ((fail_if_success (ktn_no "stop")); (fail_if_success (with_reducible show wpAny _ _ (PySem.call (Value.ref 518) _) _ _ _)); (fail_if_success (with_reducible show wpAny _ _ (exec (Stmt.Assign _ (Expr.ListComp _ _ _ _) _) _) _ _ _)); (fail_if_success (with_reducible show wpAny _ _ (eval (Expr.ListComp _ _ _ _) _) _ _ _)); (fail_if_success (with_reducible show CompTurned _ _ _ _ _ _ _ _ _ _ _ _)); first | (k_unfold; (try dsimp only)) | walk1 | (dsimp only; walk1)))
              with_reducible rename Fr _ _ _ _ => F9
              with_reducible rename News _ _ _ _ => N9
              try simp only [List.push_toArray] at N9
              refine hG9 _ _ gs ng F9 (news_sub N9 (by ktn_no "subs")) (by omega) ?_
              exact (by subst hi0; exact gs_one hgs)
          · subst hav
            by_cases huq : uq = true
            · cases hnn : (cur.take cols.length).any (·.isNone) with
              | true =>
                (repeat' ((fail_if_success (ktn_no "stop")); (fail_if_success (with_reducible show wpAny _ _ (PySem.call (Value.ref 518) _) _ _ _)); (fail_if_success (with_reducible show wpAny _ _ (exec (Stmt.Assign _ (Expr.ListComp _ _ _ _) _) _) _ _ _)); (fail_if_success (with_reducible show wpAny _ _ (eval (Expr.ListComp _ _ _ _) _) _ _ _)); (fail_if_success (with_reducible show CompTurned _ _ _ _ _ _ _ _ _ _ _ _)); first | ((with_reducible show wpAny _ _ (compareOp _ _ _) _ _ _); (first | (refine' none_notin_t ?b ?l ?v ?_; (case b => assumption); (case l => ktn_no "b_list"); (case v => exact valsAre_takeE (by assumption) (by assumption))) | (refine' none_notin_f ?b ?l ?v ?_; (case b => assumption); (case l => ktn_no "b_list"); (case v => exact valsAre_takeE (by assumption) (by assumption))))) | (k_unfold; (try dsimp only)) | walk1 | (dsimp only; walk1)))
                with_reducible rename Fr _ _ _ _ => F9
                with_reducible rename News _ _ _ _ => N9
                try simp only [List.push_toArray] at N9
                refine hG9 _ _ gs ng F9 (news_sub N9 (by ktn_no "subs")) (by omega) ?_
                exact gs_ok hgs hi0 hprev hcur fun _ q => absurd (hnn.symm.trans q) (by decide)
              | false =>
                by_cases hzz : cmpK bs (prev.take cols.length) (cur.take cols.length) = 0
                · (repeat' ((fail_if_success (ktn_no "stop")); (fail_if_success (with_reducible show wpAny _ _ (PySem.call (Value.ref 518) _) _ _ _)); (fail_if_success (with_reducible show wpAny _ _ (exec (Stmt.Assign _ (Expr.ListComp _ _ _ _) _) _) _ _ _)); (fail_if_success (with_reducible show wpAny _ _ (eval (Expr.ListComp _ _ _ _) _) _ _ _)); (fail_if_success (with_reducible show CompTurned _ _ _ _ _ _ _ _ _ _ _ _)); first | ((with_reducible show wpAny _ _ (PySem.call (Value.ref 298) _) _ _ _); k_dflt (refine useT (hp := by exact ⟨by ktn_no "b_list", by ktn_no "b_list", (by first | exact isInfo_keep (by assumption) (Fr.keep (by assumption)) | exact isInfo_news (News.get (by assumption) (by k_mem)) (News.get (by assumption) (by k_mem)) (News.get (by assumption) (by k_mem)) (News.get (by assumption) (by k_mem)) (by assumption) (by assumption))⟩) (C := ct_cmpk (by assumption) (by first | assumption | exact valsAre_takeE (by assumption) (by assumption)) (by (simp only [List.length_take]; omega)) (by (simp only [List.length_take]; omega)) (by omega) (by (simp only [List.length_take]; omega))) (ret := ?_)); ((refine all3 ?_; ktn_no "g3"; intro _ _)); ktn_no "aft") | ((with_reducible show wpAny _ _ (compareOp _ _ _) _ _ _); (first | (refine' none_notin_t ?b ?l ?v ?_; (case b => assumption); (case l => ktn_no "b_list"); (case v => exact valsAre_takeE (by assumption) (by assumption))) | (refine' none_notin_f ?b ?l ?v ?_; (case b => assumption); (case l => ktn_no "b_list"); (case v => exact valsAre_takeE (by assumption) (by assumption))))) | ((with_reducible show wpAny _ _ (call (Value.builtin "len") [Value.ref _]) _ _ _); refine' len_list ?ll ?lf ?_; (case ll => ktn_no "b_list"); (case lf => (simp only [List.size_toArray, List.length_take]; omega)); (try simp only [List.size_toArray])) | ((with_reducible show wpAny _ _ (binaryOp Operator.Add (Value.str _ _) (Value.str _ _)) _ _ _); (refine' KXadd.add (by kt_len) (by kt_len) (by exact Nat.le_of_ble_eq_true rfl) ?_); refine all2 ?_; ktn_no "g2"; intro _) | (k_unfold; (try dsimp only)) | walk1 | (dsimp only; walk1)))
                  with_reducible rename Fr _ _ _ _ => F9
                  with_reducible rename News _ _ _ _ => N9
                  try simp only [List.push_toArray] at N9
                  refine hG9 _ _ (gs ++ [_]) (ng + 1) F9 (news_sub N9 (by ktn_no "subs")) (by simp only [List.length_append, List.length_cons, List.length_nil]; omega) ?_
                  rw [huq]; exact gs_bad hi0 hprev hcur hnn hzz
                · (repeat' ((fail_if_success (ktn_no "stop")); (fail_if_success (with_reducible show wpAny _ _ (PySem.call (Value.ref 518) _) _ _ _)); (fail_if_success (with_reducible show wpAny _ _ (exec (Stmt.Assign _ (Expr.ListComp _ _ _ _) _) _) _ _ _)); (fail_if_success (with_reducible show wpAny _ _ (eval (Expr.ListComp _ _ _ _) _) _ _ _)); (fail_if_success (with_reducible show CompTurned _ _ _ _ _ _ _ _ _ _ _ _)); first | ((with_reducible show wpAny _ _ (PySem.call (Value.ref 298) _) _ _ _); k_dflt (refine useT (hp := by exact ⟨by ktn_no "b_list", by ktn_no "b_list", (by first | exact isInfo_keep (by assumption) (Fr.keep (by assumption)) | exact isInfo_news (News.get (by assumption) (by k_mem)) (News.get (by assumption) (by k_mem)) (News.get (by assumption) (by k_mem)) (News.get (by assumption) (by k_mem)) (by assumption) (by assumption))⟩) (C := ct_cmpk (by assumption) (by first | assumption | exact valsAre_takeE (by assumption) (by assumption)) (by (simp only [List.length_take]; omega)) (by (simp only [List.length_take]; omega)) (by omega) (by (simp only [List.length_take]; omega))) (ret := ?_)); ((refine all3 ?_; ktn_no "g3"; intro _ _)); ktn_no "aft") | ((with_reducible show wpAny _ _ (compareOp _ _ _) _ _ _); (first | (refine' none_notin_t ?b ?l ?v ?_; (case b => assumption); (case l => ktn_no "b_list"); (case v => exact valsAre_takeE (by assumption) (by assumption))) | (refine' none_notin_f ?b ?l ?v ?_; (case b => assumption); (case l => ktn_no "b_list"); (case v => exact valsAre_takeE (by assumption) (by assumption))))) | ((with_reducible show wpAny _ _ (call (Value.builtin "len") [Value.ref _]) _ _ _); refine' len_list ?ll ?lf ?_; (case ll => ktn_no "b_list"); (case lf => (simp only [List.size_toArray, List.length_take]; omega)); (try simp only [List.size_toArray])) | (k_unfold; (try dsimp only)) | walk1 | (dsimp only; walk1)))
                  with_reducible rename Fr _ _ _ _ => F9
                  with_reducible rename News _ _ _ _ => N9
                  try simp only [List.push_toArray] at N9
                  refine hG9 _ _ gs ng F9 (news_sub N9 (by ktn_no "subs")) (by omega) ?_
                  exact gs_ok hgs hi0 hprev hcur fun _ _ => hzz
            · (repeat' ((fail_if_success (ktn_no "stop")); (fail_if_success (with_reducible show wpAny _ _ (PySem.call (Value.ref 518) _) _ _ _)); (fail_if_success (with_reducible show wpAny _ _ (exec (Stmt.Assign _ (Expr.ListComp _ _ _ _) _) _) _ _ _)); (fail_if_success (with_reducible show wpAny _ _ (eval (Expr.ListComp _ _ _ _) _) _ _ _)); (fail_if_success (with_reducible show CompTurned _ _ _ _ _ _ _ _ _ _ _ _)); first | (k_unfold; (try dsimp only)) | walk1 | (dsimp only; walk1)))
              with_reducible rename Fr _ _ _ _ => F9
              with_reducible rename News _ _ _ _ => N9
              try simp only [List.push_toArray] at N9
              refine hG9 _ _ gs ng F9 (news_sub N9 (by ktn_no "subs")) (by omega) ?_
              exact gs_ok hgs hi0 hprev hcur fun q => absurd q huq
        · clear F8 N8 hgs hah hgl hwg
          ((refine all6 ?_; generalize E6a _ _ _ _ _ _ _ = t5, E6b _ _ _ _ _ _ _ = m5, E6c _ _ _ _ _ _ _ = h6, E6d _ _ _ _ _ _ _ = tk6, E6e _ _ _ _ _ _ _ = gs6, E6f _ _ _ _ _ _ _ = ng6; intro F8 N8 hgl hgs))
          (repeat' ((fail_if_success (ktn_no "stop")); (fail_if_success (with_reducible show wpAny _ _ (PySem.call (Value.ref 518) _) _ _ _)); (fail_if_success (with_reducible show wpAny _ _ (exec (Stmt.Assign _ (Expr.ListComp _ _ _ _) _) _) _ _ _)); (fail_if_success (with_reducible show wpAny _ _ (eval (Expr.ListComp _ _ _ _) _) _ _ _)); (fail_if_success (with_reducible show CompTurned _ _ _ _ _ _ _ _ _ _ _ _)); first | ((with_reducible show wpAny _ _ (PySem.call (Value.ref 394) _) _ _ _); k_dflt (refine useU (hp := by exact ⟨Fr.keep (by assumption) _ _ (by assumption), by ktn_no "b_list"⟩) (C := ct_next (by omega) (by omega) (by omega)) (U := by intro t; k_upd) (ret := ?_)); ((refine all3 ?_; ktn_no "g3"; intro _ _)); ktn_no "aft") | (k_unfold; (try dsimp only)) | walk1 | (dsimp only; walk1)))
          with_reducible rename Fr _ _ _ _ => F9
          with_reducible rename News _ _ _ _ => N9
          refine' TurnedW.next (i + 1) ((a9, instObj 286 d9) :: (d9, dictOf [entW w "collations" t8 (.ref lc9), entW w "descending" t9 (.ref ld9)] 2) :: (lc9, ({ cls := .type "tuple", data := .seq (List.toArray cs9) } : Obj)) :: (ld9, ({ cls := .type "tuple", data := .seq (List.toArray (bs.map Value.bool)) } : Obj)) :: (dx, curD w t1 t2 t3 t4 li lr _) :: (lf, PySem.W.listOf (List.toArray gs6) ng6) :: [(D9, PySem.W.listOf (List.toArray (vs9.take cvs.length)) 0)]) (fr_over' (es := [(Str.ofString "cursor", _), (Str.ofString "faults", _), (Str.ofString "index", _), (Str.ofString "rows", _), (Str.ofString "info", _), (Str.ofString "many", _), (Str.ofString "ahead", _), (Str.ofString "going", .bool (decide (((i + 1 : Nat) : Int) < (recs.length : Int))))]) F9 ⟨rfl, rfl, rfl, rfl, rfl, rfl, rfl, ?going, trivial⟩) N9 ?mem (by omega) ?J
          case going => exact congrArg (fun b => some (Value.bool b)) (decide_eq_decide.mpr (by omega))
          case mem => ktn_no "subs"
          case J => exact fun _ k9 => k9 _ _ _ [(D9, PySem.W.listOf (List.toArray (vs9.take cvs.length)) 0)] gs6 ng6 _ (by omega) (by omega) hgs (by k_all) (by k_all) (.inr ⟨D9, vs9.take cvs.length, 0, cur, rfl, .head _, by omega, hcur, valsAre_takeE hcl hv9⟩)
      · have hdt : decide ((i : Int) < (recs.length : Int)) = false := by simp only [decide_eq_false_iff_not]; omega
        (have z99 := F6; rw [hdt] at z99; clear F6; have F6 := z99; clear z99)
        have hik' : i = kss.length := by omega
        have hrvl := Iw.1
        subst hik'
        by_cases hmm : kss.length = rows.length
        · (repeat' ((fail_if_success (ktn_no "stop")); (fail_if_success (with_reducible show wpAny _ _ (PySem.call (Value.ref 518) _) _ _ _)); (fail_if_success (with_reducible show wpAny _ _ (exec (Stmt.Assign _ (Expr.ListComp _ _ _ _) _) _) _ _ _)); (fail_if_success (with_reducible show wpAny _ _ (eval (Expr.ListComp _ _ _ _) _) _ _ _)); (fail_if_success (with_reducible show CompTurned _ _ _ _ _ _ _ _ _ _ _ _)); first | ((with_reducible show wpAny _ _ (call (Value.builtin "len") [Value.ref _]) _ _ _); refine' len_list ?ll ?lf ?_; (case ll => ktn_no "b_list"); (case lf => (simp only [List.size_toArray, List.length_take]; omega)); (try simp only [List.size_toArray])) | (k_unfold; (try dsimp only)) | walk1 | (dsimp only; walk1)))
          with_reducible rename Fr _ _ _ _ => F8
          with_reducible rename News _ _ _ _ => N8
          try simp only [List.push_toArray] at N8
          exact back_intro F8 fun f k => hret _ _ _ f k ⟨gs, ng, N8.get (by k_mem), by rw [hgs]; exact ⟨fun h => ⟨h.1, h.2, hmm⟩, fun h => ⟨h.1, h.2.1⟩⟩⟩
        · (repeat' ((fail_if_success (ktn_no "stop")); (fail_if_success (with_reducible show wpAny _ _ (PySem.call (Value.ref 518) _) _ _ _)); (fail_if_success (with_reducible show wpAny _ _ (exec (Stmt.Assign _ (Expr.ListComp _ _ _ _) _) _) _ _ _)); (fail_if_success (with_reducible show wpAny _ _ (eval (Expr.ListComp _ _ _ _) _) _ _ _)); (fail_if_success (with_reducible show CompTurned _ _ _ _ _ _ _ _ _ _ _ _)); first | ((with_reducible show wpAny _ _ (call (Value.builtin "len") [Value.ref _]) _ _ _); refine' len_list ?ll ?lf ?_; (case ll => ktn_no "b_list"); (case lf => (simp only [List.size_toArray, List.length_take]; omega)); (try simp only [List.size_toArray])) | ((with_reducible show wpAny _ _ (binaryOp Operator.Add (Value.str _ _) (Value.str _ _)) _ _ _); (refine' KXadd.add (by kt_len) (by kt_len) (by exact Nat.le_of_ble_eq_true rfl) ?_); refine all2 ?_; ktn_no "g2"; intro _) | (k_unfold; (try dsimp only)) | walk1 | (dsimp only; walk1)))
          with_reducible rename Fr _ _ _ _ => F8
          with_reducible rename News _ _ _ _ => N8
          try simp only [List.push_toArray] at N8
          exact back_intro F8 fun f k => hret _ _ _ f k ⟨gs ++ [_], ng + 1, N8.get (by k_mem), ⟨fun e => by simp at e, fun h => absurd h.2.2 hmm⟩⟩
  · rintro I j h v tk Q E1 hI hv q
    (refine ex1 (List.getElem?_of_mem hv) ?_; generalize X1a _ _ = i; intro hi)
    (refine ex1 (Iw.2 i v hi) ?_; generalize X1a _ _ = r; refine cur2 ?_; intro z91_0 r91; clear z91_0; refine ex4 (r91) ?_; generalize X4a _ _ _ _ _ = a9, X4b _ _ _ _ _ = lv9, X4c _ _ _ _ _ = tv9, X4d _ _ _ _ _ = vs9; refine cur2 ?_; intro z93_0 r93; subst z93_0; clear r93)
    exact wpAny_letOwnedTupleGo_listiter hI q
end
/-! ## NGL1 -/
section
open PySem PySem.Spec PySem.Calls PySem.W PyProof.Rows PyProof.Rows.LCg
local macro_rules | `(tactic| ktn_no "ep?") => `(tactic| skip)
def SrcOK (o : Obj) : Prop := ∃ a b ta tb n, o = PySem.W.listOf #[.int a ta, .int b tb] n ∧ 0 ≤ a ∧ 0 ≤ b ∧ b < 2147483647
theorem fm_bound {x y : Int} (h : 0 < y) : 0 ≤ x.fmod y ∧ x.fmod y < y := by
  rw [Int.fmod_eq_emod_of_nonneg _ (by omega)]
  exact ⟨Int.emod_nonneg _ (by omega), Int.emod_lt_of_pos _ h⟩
set_option maxHeartbeats 4000000 in
theorem ct_take {w : World} {mean mg mb} {src : Addr} {top : Int} {t : Tok} {o : Obj} (ho : SrcOK o) (ht0 : 0 < top) (ht1 : top < 1000) : Tell w mean mg mb 586 3 [.ref src, .int top t] [(src, o)] (fun _ => True) (fun _ r h' => ∃ d t o', r = .int d t ∧ 0 ≤ d ∧ d < top ∧ h'.get? src = some o' ∧ SrcOK o') := by
  revert w mean mg mb src top t o ho ht0 ht1
  ((refine @all8 _ _ _ _ _ _ _ _ (by ktn_no "ne") (by ktn_no "ne") (by ktn_no "ne") (by ktn_no "ne") (by ktn_no "ne") (by ktn_no "ne") (by ktn_no "ne") (by ktn_no "ne") _ ?_; generalize E8a _ _ _ _ _ _ _ _ _ = w, E8b _ _ _ _ _ _ _ _ _ = mean, E8c _ _ _ _ _ _ _ _ _ = mg, E8d _ _ _ _ _ _ _ _ _ = mb, E8e _ _ _ _ _ _ _ _ _ = src, E8f _ _ _ _ _ _ _ _ _ = top, E8g _ _ _ _ _ _ _ _ _ = t, E8h _ _ _ _ _ _ _ _ _ = o; intro ho ht0 ht1))
  (refine tell_in _ _ _ _ _ _ _ _ _ _ ?_; k_fill; generalize TX.dp (tx _ _ _ _ _ _ _ _ _ _) = dp, TX.un (tx _ _ _ _ _ _ _ _ _ _) = un, TX.gd (tx _ _ _ _ _ _ _ _ _ _) = gd, TX.cn (tx _ _ _ _ _ _ _ _ _ _) = cn, TX.cs (tx _ _ _ _ _ _ _ _ _ _) = cs, TX.a (tx _ _ _ _ _ _ _ _ _ _) = a, TX.ccd (tx _ _ _ _ _ _ _ _ _ _) = ccd, TX.cl (tx _ _ _ _ _ _ _ _ _ _) = cl, TX.outer (tx _ _ _ _ _ _ _ _ _ _) = outer, TX.A₀ (tx _ _ _ _ _ _ _ _ _ _) = A₀, TX.base (tx _ _ _ _ _ _ _ _ _ _) = base, TX.h₀ (tx _ _ _ _ _ _ _ _ _ _) = h₀, TX.L (tx _ _ _ _ _ _ _ _ _ _) = L, TX.m (tx _ _ _ _ _ _ _ _ _ _) = m, TX.s (tx _ _ _ _ _ _ _ _ _ _) = s, TX.Q (tx _ _ _ _ _ _ _ _ _ _) = Q, TX.E (tx _ _ _ _ _ _ _ _ _ _) = E; intro B F X N T hk hpre hd hu hret)
  (refine ex5 (ho) ?_; generalize X5a _ _ _ _ _ _ = a0, X5b _ _ _ _ _ _ = b0, X5c _ _ _ _ _ _ = ta, X5d _ _ _ _ _ _ = tb, X5e _ _ _ _ _ _ = n; refine cur4 ?_; intro z91_0 ha0 hb0 hb1; subst z91_0)
  ktr_enter
  rename KeepB _ _ _ => kg0
  have d0 : ∀ y : Int, [y, b0].getD (Int.toNat 0) 0 = y := fun _ => rfl
  have d1 : ∀ y : Int, [a0, y].getD (Int.toNat 1) 0 = y := fun _ => rfl
  (repeat' ((fail_if_success (ktn_no "stop")); first | (k_unfold; (try dsimp only)) | walk1 | (dsimp only; walk1)))
  · with_reducible rename Fr _ _ _ _ => F8
    with_reducible rename News _ _ _ _ => N8
    simp only [d0] at N8 ⊢
    exact back_intro F8 fun f k => hret _ _ _ f k ⟨_, _, _, rfl, (fm_bound ht0).1, (fm_bound ht0).2, N8.get (by k_mem), _, _, _, _, _, rfl, Int.fdiv_nonneg ha0 (by omega), hb0, hb1⟩
  · with_reducible rename News _ _ _ _ => N8
    simp only [d1] at N8 ⊢
    have hx := @fm_bound (b0 * 39373 + 7) 2147483647 (by decide)
    generalize (b0 * 39373 + 7).fmod 2147483647 = x at *
    refine mul_int ?_
    (repeat' ((fail_if_success (ktn_no "stop")); first | (k_unfold; (try dsimp only)) | walk1 | (dsimp only; walk1)))
    with_reducible rename Fr _ _ _ _ => F8
    with_reducible rename News _ _ _ _ => N8
    exact back_intro F8 fun f k => hret _ _ _ f k ⟨_, _, _, rfl, (fm_bound ht0).1, (fm_bound ht0).2, N8.get (by k_mem), _, _, _, _, _, rfl, ha0, hx.1, hx.2⟩
section
variable {w : World} {mean : ExcName → Option Value} {mg mb : Str → Option Value}
  {dp un : Nat} {gd : Option (List Code)} {cn : Str} {cs : Scope} {a : Addr} {ccd : Value} {cl : List (Str × Addr)} {outer : List Env} {A₀ : Around} {base h₀ : Heap} {L : Addr} {m : Str → Option Value} {news : List (Addr × Obj)} {s : Shared} {Q E : Value → Shared → Prop}
theorem use_take {src : Addr} {top : Int} {t : Tok} {o : Obj} {news' : Obj → List (Addr × Obj)} (S : Site w mean mg mb dp un 3 cs outer A₀ base h₀ L m s news := by ktn_no "site") (hm : (src, o) ∈ news := by k_mem) (ho : SrcOK o := by with_reducible assumption) (ht0 : 0 < top := by decide) (ht1 : top < 1000 := by decide)
    (U : ∀ o', Upd src o o' news (news' o')) (ret : ∀ d t' o' h' tk', Fr h₀ L h' m → News h₀ L h' (news' o') → 0 ≤ d → d < top → SrcOK o' → Q (.int d t') { s with heap := h', toks := tk' }) :
    wpAny (model PySem.Challenge.rw_nt0120_01.row.prog w) (ktrTop dp un gd cn cs L a ccd cl outer) (call (.ref 586) [.ref src, .int top t]) Q E s :=
  tell_useD (ct_take ho ht0 ht1) S.B S.F S.X S.N S.T S.hk hm trivial S.hd S.hu fun _ h' tk' N' F' K' ⟨d, t', o', e, h0, h1, g, ho'⟩ => e ▸ ret d t' o' h' tk' F' (news_upd N' (U o') K' g) h0 h1 ho'
end
end
/-! ## NCK2 -/
section
open PySem PySem.Spec PySem.Calls PySem.W PyProof.Rows PyProof.Rows.LCg
local macro_rules | `(tactic| ktn_no "ep?") => `(tactic| skip)
set_option maxHeartbeats 4000000 in
theorem ct_affin {w : World} {mean mg mb}  : Tell w mean mg mb 149 2 [.none] [] (fun _ => True) (fun h r h' => IsS r "blob") := by
  revert w mean mg mb
  ((refine @all4 _ _ _ _ (by ktn_no "ne") (by ktn_no "ne") (by ktn_no "ne") (by ktn_no "ne") _ ?_; generalize E4a _ _ _ _ _ = w, E4b _ _ _ _ _ = mean, E4c _ _ _ _ _ = mg, E4d _ _ _ _ _ = mb))
  (refine tell_in _ _ _ _ _ _ _ _ _ _ ?_; k_fill; generalize TX.dp (tx _ _ _ _ _ _ _ _ _ _) = dp, TX.un (tx _ _ _ _ _ _ _ _ _ _) = un, TX.gd (tx _ _ _ _ _ _ _ _ _ _) = gd, TX.cn (tx _ _ _ _ _ _ _ _ _ _) = cn, TX.cs (tx _ _ _ _ _ _ _ _ _ _) = cs, TX.a (tx _ _ _ _ _ _ _ _ _ _) = a, TX.ccd (tx _ _ _ _ _ _ _ _ _ _) = ccd, TX.cl (tx _ _ _ _ _ _ _ _ _ _) = cl, TX.outer (tx _ _ _ _ _ _ _ _ _ _) = outer, TX.A₀ (tx _ _ _ _ _ _ _ _ _ _) = A₀, TX.base (tx _ _ _ _ _ _ _ _ _ _) = base, TX.h₀ (tx _ _ _ _ _ _ _ _ _ _) = h₀, TX.L (tx _ _ _ _ _ _ _ _ _ _) = L, TX.m (tx _ _ _ _ _ _ _ _ _ _) = m, TX.s (tx _ _ _ _ _ _ _ _ _ _) = s, TX.Q (tx _ _ _ _ _ _ _ _ _ _) = Q, TX.E (tx _ _ _ _ _ _ _ _ _ _) = E; intro B F X N T hk hpre hd hu hret)
  ktr_enter
  rename KeepB _ _ _ => kg0
  (repeat' ((fail_if_success (ktn_no "stop")); first | (k_unfold; (try dsimp only)) | walk1 | (dsimp only; walk1)))
  all_goals exact back_intro (by assumption) fun f k => hret _ _ _ f k ⟨_, rfl⟩
abbrev colD (w : World) (t1 t2 t3 t4 t5 t6 : Tok) (nm tn af cl nn df : Value) : Obj := dictOf [entW w "name" t1 nm, entW w "type_name" t2 tn, entW w "affinity" t3 af, entW w "collation" t4 cl, entW w "not_null" t5 nn, entW w "default" t6 df] 6
theorem made2 {h h1 g : Heap} {x dx l : Addr} {o₁ o₂ : Obj} (kg : KeepB [(x, o₁), (dx, o₂)] h1 g) (up : ∀ b o, h.get? b = some o → h1.get? b = some o) (nx : h.get? x = none) (ndx : h.get? dx = none) (f : g.get? l = none) : h.get? l = none := by
  cases q : h.get? l with
  | none => rfl
  | some o => rw [kg _ _ (up _ _ q) (not_two q nx ndx)] at f; cases f
theorem units_under_make (A : Around) (C : Addr) (vals : List Value) : (A.under (.builtin "type.__call__" ⟨.ref C :: vals, []⟩)).units = A.units + 1 := by
  first | rfl | simp [Around.under, Code.cUnits, Code.frames, Code.isFrame]
def ColX (w : World) (X : Obj) (b : Bool) : Prop := ∃ t1 t2 t3 t4 t5 t6 nm tn af cl, X = colD w t1 t2 t3 t4 t5 t6 (.str nm tn) .none af cl (.bool b) .none ∧ nm.length ≤ 10
set_option maxHeartbeats 4000000 in
theorem ct_Column {w : World} {mean mg mb} {nm : String} {tn : Tok} (hnm : (Str.ofString nm).length ≤ 10) : Tell w mean mg mb 495 8 [.str (Str.ofString nm) tn] [] (fun _ => True) (fun h r h' => ∃ a dx X, r = .ref a ∧ h'.get? a = some (instObj 495 dx) ∧ h'.get? dx = some X ∧ ColX w X false ∧ h.get? a = none ∧ h.get? dx = none ∧ @Ne Nat a dx) := by
  revert w mean mg mb nm tn hnm
  ((refine @all6 _ _ _ _ _ _ (by ktn_no "ne") (by ktn_no "ne") (by ktn_no "ne") (by ktn_no "ne") (by ktn_no "ne") (by ktn_no "ne") _ ?_; generalize E6a _ _ _ _ _ _ _ = w, E6b _ _ _ _ _ _ _ = mean, E6c _ _ _ _ _ _ _ = mg, E6d _ _ _ _ _ _ _ = mb, E6e _ _ _ _ _ _ _ = nm, E6f _ _ _ _ _ _ _ = tn; intro hnm))
  (refine tell_in _ _ _ _ _ _ _ _ _ _ ?_; k_fill; generalize TX.dp (tx _ _ _ _ _ _ _ _ _ _) = dp, TX.un (tx _ _ _ _ _ _ _ _ _ _) = un, TX.gd (tx _ _ _ _ _ _ _ _ _ _) = gd, TX.cn (tx _ _ _ _ _ _ _ _ _ _) = cn, TX.cs (tx _ _ _ _ _ _ _ _ _ _) = cs, TX.a (tx _ _ _ _ _ _ _ _ _ _) = a, TX.ccd (tx _ _ _ _ _ _ _ _ _ _) = ccd, TX.cl (tx _ _ _ _ _ _ _ _ _ _) = cl, TX.outer (tx _ _ _ _ _ _ _ _ _ _) = outer, TX.A₀ (tx _ _ _ _ _ _ _ _ _ _) = A₀, TX.base (tx _ _ _ _ _ _ _ _ _ _) = base, TX.h₀ (tx _ _ _ _ _ _ _ _ _ _) = h₀, TX.L (tx _ _ _ _ _ _ _ _ _ _) = L, TX.m (tx _ _ _ _ _ _ _ _ _ _) = m, TX.s (tx _ _ _ _ _ _ _ _ _ _) = s, TX.Q (tx _ _ _ _ _ _ _ _ _ _) = Q, TX.E (tx _ _ _ _ _ _ _ _ _ _) = E; intro B F X N T hk hpre hd hu hret)
  ktn_no "ktr_make"
  ((refine all3 ?_; generalize E3a _ _ _ _ = x, E3b _ _ _ _ = dx, E3c _ _ _ _ = h1; intro F1 N1 up nx ndx nxd))
  clear N F
  ktn_no "ktr_enter0"
  rename KeepB _ _ _ => kg0
  have hU := units_under_make (ktrTop dp un gd cn cs L a ccd cl outer) 495 [Value.str (Str.ofString nm) tn]
  (repeat' ((fail_if_success (ktn_no "stop")); first | ((with_reducible show wpAny _ _ (PySem.call (Value.ref 149) _) _ _ _); k_dflt (refine useT (hp := by trivial) (C := ct_affin) (ret := ?_)); ((refine all3 ?_; ktn_no "g3"; intro _ _)); ktn_no "aft") | ((with_reducible show wpAny _ _ (setAttr (Value.ref _) _ _) _ _ _); k_dflt (refine' set_dict (by k_asm) (by k_asm) (by k_asm) (by k_inst) (by exact rfl) (by k_is) (by k_is) (by k_is) (by k_is) (by k_get) (by k_put) (by k_upd) (by exact Nat.le_of_ble_eq_true rfl) ?_; k_whole); ktn_no "k12"; (try k_sweep)) | (k_unfold; (try dsimp only)) | walk1 | (dsimp only; walk1)))
  with_reducible rename News _ _ _ _ => N8
  with_reducible rename Fr _ _ _ _ => F8
  exact back_intro F8 fun f k => ⟨rfl, hret _ _ _ f (keep_made k up nx ndx) ⟨_, _, _, rfl, N8.get (by k_mem), N8.get (by k_mem), ⟨_, _, _, _, _, _, _, _, _, _, rfl, hnm⟩, nx, ndx, nxd⟩⟩
section
variable {w : World} {mean : ExcName → Option Value} {mg mb : Str → Option Value}
  {dp un : Nat} {gd : Option (List Code)} {cn : Str} {cs : Scope} {a : Addr} {ccd : Value} {cl : List (Str × Addr)} {outer : List Env} {A₀ : Around} {base h₀ : Heap} {L : Addr} {m : Str → Option Value} {news : List (Addr × Obj)} {s : Shared} {Q E : Value → Shared → Prop}
theorem use_Column {nm : String} {tn : Tok} (S : Site w mean mg mb dp un 8 cs outer A₀ base h₀ L m s news := by ktn_no "site") (hnm : (Str.ofString nm).length ≤ 10 := by decide)
    (ret : ∀ x dx X h' tk', Fr h₀ L h' m → News h₀ L h' ((x, instObj 495 dx) :: (dx, X) :: news) → ColX w X false → Off x (news.map (·.1)) → Off dx (news.map (·.1)) → @Ne Nat x dx → Q (.ref x) { s with heap := h', toks := tk' }) :
    wpAny (model PySem.Challenge.rw_nt0120_01.row.prog w) (ktrTop dp un gd cn cs L a ccd cl outer) (call (.ref 495) [.str (Str.ofString nm) tn]) Q E s := by
  refine tell_use0 (ct_Column hnm) S.B S.F S.X S.N S.T S.hk trivial S.hd S.hu fun r h' tk' F' N' _ R' => ?_
  refine hide fun G99 hG99 => ?_
  obtain ⟨x, dx, X, e, o1, o2, hX, f1, f2, na⟩ := R'
  refine hG99 ?_
  clear hG99 G99
  exact e ▸ ret x dx X h' tk' F' (news_new S.F (news_new S.F N' o2 f2) o1 f1) hX (newOff S.N f1) (newOff S.N f2) na
end
set_option maxHeartbeats 4000000 in
theorem ct_Table {w : World} {mean mg mb} {lc : Addr} {t1 t2 : Tok} : Tell w mean mg mb 568 5 [.str (Str.ofString "t") t1, .int 2 t2, .ref lc, .none] [] (fun _ => True) (fun h r h' => ∀ k : Value → Prop, (∀ a dx s1 s2 s3 s4 s5 s6 s7 s8 l1 l2 l3, h'.get? a = some (instObj 568 dx) → h'.get? dx = some (tabD w s1 s2 s3 s4 s5 s6 s7 s8 (.str (Str.ofString "t") t1) (.int 2 t2) (.ref lc) .none l1 l2 .none l3) → h.get? a = none → h.get? dx = none → @Ne Nat a dx → k (.ref a)) → k r) := by
  revert w mean mg mb lc t1 t2
  ((refine @all7 _ _ _ _ _ _ _ (by ktn_no "ne") (by ktn_no "ne") (by ktn_no "ne") (by ktn_no "ne") (by ktn_no "ne") (by ktn_no "ne") (by ktn_no "ne") _ ?_; generalize E7a _ _ _ _ _ _ _ _ = w, E7b _ _ _ _ _ _ _ _ = mean, E7c _ _ _ _ _ _ _ _ = mg, E7d _ _ _ _ _ _ _ _ = mb, E7e _ _ _ _ _ _ _ _ = lc, E7f _ _ _ _ _ _ _ _ = t1, E7g _ _ _ _ _ _ _ _ = t2))
  (refine tell_in _ _ _ _ _ _ _ _ _ _ ?_; k_fill; generalize TX.dp (tx _ _ _ _ _ _ _ _ _ _) = dp, TX.un (tx _ _ _ _ _ _ _ _ _ _) = un, TX.gd (tx _ _ _ _ _ _ _ _ _ _) = gd, TX.cn (tx _ _ _ _ _ _ _ _ _ _) = cn, TX.cs (tx _ _ _ _ _ _ _ _ _ _) = cs, TX.a (tx _ _ _ _ _ _ _ _ _ _) = a, TX.ccd (tx _ _ _ _ _ _ _ _ _ _) = ccd, TX.cl (tx _ _ _ _ _ _ _ _ _ _) = cl, TX.outer (tx _ _ _ _ _ _ _ _ _ _) = outer, TX.A₀ (tx _ _ _ _ _ _ _ _ _ _) = A₀, TX.base (tx _ _ _ _ _ _ _ _ _ _) = base, TX.h₀ (tx _ _ _ _ _ _ _ _ _ _) = h₀, TX.L (tx _ _ _ _ _ _ _ _ _ _) = L, TX.m (tx _ _ _ _ _ _ _ _ _ _) = m, TX.s (tx _ _ _ _ _ _ _ _ _ _) = s, TX.Q (tx _ _ _ _ _ _ _ _ _ _) = Q, TX.E (tx _ _ _ _ _ _ _ _ _ _) = E; intro B F X N T hk hpre hd hu hret)
  ktn_no "ktr_make"
  ((refine all3 ?_; generalize E3a _ _ _ _ = x, E3b _ _ _ _ = dx, E3c _ _ _ _ = h1; intro F1 N1 up nx ndx nxd))
  clear N F
  ktn_no "ktr_enter0"
  rename KeepB _ _ _ => kg0
  (repeat' ((fail_if_success (ktn_no "stop")); first | ((with_reducible show wpAny _ _ (setAttr (Value.ref _) _ _) _ _ _); k_dflt (refine' set_dict (by k_asm) (by k_asm) (by k_asm) (by k_inst) (by exact rfl) (by k_is) (by k_is) (by k_is) (by k_is) (by k_get) (by k_put) (by k_upd) (by exact Nat.le_of_ble_eq_true rfl) ?_; k_whole); ktn_no "k12"; (try k_sweep)) | (k_unfold; (try dsimp only)) | walk1 | (dsimp only; walk1)))
  with_reducible rename News _ _ _ _ => N8
  with_reducible rename Fr _ _ _ _ => F8
  exact back_intro F8 fun f k => ⟨rfl, hret _ _ _ f (keep_made k up nx ndx) fun _ hk => hk _ _ _ _ _ _ _ _ _ _ _ _ _ (N8.get (by k_mem)) (N8.get (by k_mem)) nx ndx nxd⟩
section
variable {w : World} {mean : ExcName → Option Value} {mg mb : Str → Option Value}
  {dp un : Nat} {gd : Option (List Code)} {cn : Str} {cs : Scope} {a : Addr} {ccd : Value} {cl : List (Str × Addr)} {outer : List Env} {A₀ : Around} {base h₀ : Heap} {L : Addr} {m : Str → Option Value} {news : List (Addr × Obj)} {s : Shared} {Q E : Value → Shared → Prop}
theorem use_Table {lc : Addr} {t1 t2 : Tok} (S : Site w mean mg mb dp un 5 cs outer A₀ base h₀ L m s news := by ktn_no "site")
    (ret : ∀ x dx s1 s2 s3 s4 s5 s6 s7 s8 l1 l2 l3 h' tk', Fr h₀ L h' m → News h₀ L h' ((x, instObj 568 dx) :: (dx, tabD w s1 s2 s3 s4 s5 s6 s7 s8 (.str (Str.ofString "t") t1) (.int 2 t2) (.ref lc) .none l1 l2 .none l3) :: news) → Off x (news.map (·.1)) → Off dx (news.map (·.1)) → @Ne Nat x dx → Q (.ref x) { s with heap := h', toks := tk' }) :
    wpAny (model PySem.Challenge.rw_nt0120_01.row.prog w) (ktrTop dp un gd cn cs L a ccd cl outer) (call (.ref 568) [.str (Str.ofString "t") t1, .int 2 t2, .ref lc, .none]) Q E s :=
  tell_use0 ct_Table S.B S.F S.X S.N S.T S.hk trivial S.hd S.hu fun _ h' tk' F' N' _ R' => R' (fun r => Q r { s with heap := h', toks := tk' }) fun x dx s1 s2 s3 s4 s5 s6 s7 s8 l1 l2 l3 o1 o2 f1 f2 na => ret x dx s1 s2 s3 s4 s5 s6 s7 s8 l1 l2 l3 h' tk' F' (news_new S.F (news_new S.F N' o2 f2) o1 f1) (newOff S.N f1) (newOff S.N f2) na
end
set_option maxHeartbeats 4000000 in
theorem ct_Index {w : World} {mean mg mb} {lc : Addr} {t1 t2 t3 t5 : Tok} {uq : Bool} : Tell w mean mg mb 526 5 [.str (Str.ofString "i") t1, .str (Str.ofString "t") t2, .int 3 t3, .ref lc, .bool uq, .str (Str.ofString "c") t5, .none] [] (fun _ => True) (fun h r h' => ∀ k : Value → Prop, (∀ a dx s1 s2 s3 s4 s5 s6 s7 tb rt og sq, h'.get? a = some (instObj 526 dx) → h'.get? dx = some (idxD w s1 s2 s3 s4 s5 s6 s7 (.str (Str.ofString "i") t1) tb rt (.ref lc) (.bool uq) og sq) → h.get? a = none → h.get? dx = none → @Ne Nat a dx → k (.ref a)) → k r) := by
  revert w mean mg mb lc t1 t2 t3 t5 uq
  ((refine @all8 _ _ _ _ _ _ _ _ (by ktn_no "ne") (by ktn_no "ne") (by ktn_no "ne") (by ktn_no "ne") (by ktn_no "ne") (by ktn_no "ne") (by ktn_no "ne") (by ktn_no "ne") _ ?_; generalize E8a _ _ _ _ _ _ _ _ _ = w, E8b _ _ _ _ _ _ _ _ _ = mean, E8c _ _ _ _ _ _ _ _ _ = mg, E8d _ _ _ _ _ _ _ _ _ = mb, E8e _ _ _ _ _ _ _ _ _ = lc, E8f _ _ _ _ _ _ _ _ _ = t1, E8g _ _ _ _ _ _ _ _ _ = t2, E8h _ _ _ _ _ _ _ _ _ = t3); (refine @all2 _ _ (by ktn_no "ne") (by ktn_no "ne") _ ?_; generalize E2a _ _ _ = t5, E2b _ _ _ = uq))
  (refine tell_in _ _ _ _ _ _ _ _ _ _ ?_; k_fill; generalize TX.dp (tx _ _ _ _ _ _ _ _ _ _) = dp, TX.un (tx _ _ _ _ _ _ _ _ _ _) = un, TX.gd (tx _ _ _ _ _ _ _ _ _ _) = gd, TX.cn (tx _ _ _ _ _ _ _ _ _ _) = cn, TX.cs (tx _ _ _ _ _ _ _ _ _ _) = cs, TX.a (tx _ _ _ _ _ _ _ _ _ _) = a, TX.ccd (tx _ _ _ _ _ _ _ _ _ _) = ccd, TX.cl (tx _ _ _ _ _ _ _ _ _ _) = cl, TX.outer (tx _ _ _ _ _ _ _ _ _ _) = outer, TX.A₀ (tx _ _ _ _ _ _ _ _ _ _) = A₀, TX.base (tx _ _ _ _ _ _ _ _ _ _) = base, TX.h₀ (tx _ _ _ _ _ _ _ _ _ _) = h₀, TX.L (tx _ _ _ _ _ _ _ _ _ _) = L, TX.m (tx _ _ _ _ _ _ _ _ _ _) = m, TX.s (tx _ _ _ _ _ _ _ _ _ _) = s, TX.Q (tx _ _ _ _ _ _ _ _ _ _) = Q, TX.E (tx _ _ _ _ _ _ _ _ _ _) = E; intro B F X N T hk hpre hd hu hret)
  ktn_no "ktr_make"
  ((refine all3 ?_; generalize E3a _ _ _ _ = x, E3b _ _ _ _ = dx, E3c _ _ _ _ = h1; intro F1 N1 up nx ndx nxd))
  clear N F
  ktn_no "ktr_enter0"
  rename KeepB _ _ _ => kg0
  (repeat' ((fail_if_success (ktn_no "stop")); first | ((with_reducible show wpAny _ _ (setAttr (Value.ref _) _ _) _ _ _); k_dflt (refine' set_dict (by k_asm) (by k_asm) (by k_asm) (by k_inst) (by exact rfl) (by k_is) (by k_is) (by k_is) (by k_is) (by k_get) (by k_put) (by k_upd) (by exact Nat.le_of_ble_eq_true rfl) ?_; k_whole); ktn_no "k12"; (try k_sweep)) | (k_unfold; (try dsimp only)) | walk1 | (dsimp only; walk1)))
  with_reducible rename News _ _ _ _ => N8
  with_reducible rename Fr _ _ _ _ => F8
  exact back_intro F8 fun f k => ⟨rfl, hret _ _ _ f (keep_made k up nx ndx) fun _ hk => hk _ _ _ _ _ _ _ _ _ _ _ _ _ (N8.get (by k_mem)) (N8.get (by k_mem)) nx ndx nxd⟩
section
variable {w : World} {mean : ExcName → Option Value} {mg mb : Str → Option Value}
  {dp un : Nat} {gd : Option (List Code)} {cn : Str} {cs : Scope} {a : Addr} {ccd : Value} {cl : List (Str × Addr)} {outer : List Env} {A₀ : Around} {base h₀ : Heap} {L : Addr} {m : Str → Option Value} {news : List (Addr × Obj)} {s : Shared} {Q E : Value → Shared → Prop}
theorem use_Index {lc : Addr} {t1 t2 t3 t5 : Tok} {uq : Bool} (S : Site w mean mg mb dp un 5 cs outer A₀ base h₀ L m s news := by ktn_no "site")
    (ret : ∀ x dx s1 s2 s3 s4 s5 s6 s7 tb rt og sq h' tk', Fr h₀ L h' m → News h₀ L h' ((x, instObj 526 dx) :: (dx, idxD w s1 s2 s3 s4 s5 s6 s7 (.str (Str.ofString "i") t1) tb rt (.ref lc) (.bool uq) og sq) :: news) → Off x (news.map (·.1)) → Off dx (news.map (·.1)) → @Ne Nat x dx → Q (.ref x) { s with heap := h', toks := tk' }) :
    wpAny (model PySem.Challenge.rw_nt0120_01.row.prog w) (ktrTop dp un gd cn cs L a ccd cl outer) (call (.ref 526) [.str (Str.ofString "i") t1, .str (Str.ofString "t") t2, .int 3 t3, .ref lc, .bool uq, .str (Str.ofString "c") t5, .none]) Q E s :=
  tell_use0 ct_Index S.B S.F S.X S.N S.T S.hk trivial S.hd S.hu fun _ h' tk' F' N' _ R' => R' (fun r => Q r { s with heap := h', toks := tk' }) fun x dx s1 s2 s3 s4 s5 s6 s7 tb rt og sq o1 o2 f1 f2 na => ret x dx s1 s2 s3 s4 s5 s6 s7 tb rt og sq h' tk' F' (news_new S.F (news_new S.F N' o2 f2) o1 f1) (newOff S.N f1) (newOff S.N f2) na
end
set_option maxHeartbeats 4000000 in
theorem ct_EK {w : World} {mean mg mb} {li : Addr} : Tell w mean mg mb 467 5 [.ref li] [] (fun _ => True) (fun h r h' => ∀ k : Value → Prop, (∀ a dx lr n s1 s2 s3 s4 tp, h'.get? a = some (instObj 467 dx) → h'.get? dx = some (curD w s1 s2 s3 s4 li lr (.int (-1) tp)) → h'.get? lr = some (PySem.W.listOf #[] n) → h.get? a = none → h.get? dx = none → h.get? lr = none → @Ne Nat a dx → @Ne Nat lr a → @Ne Nat lr dx → k (.ref a)) → k r) := by
  revert w mean mg mb li
  ((refine @all5 _ _ _ _ _ (by ktn_no "ne") (by ktn_no "ne") (by ktn_no "ne") (by ktn_no "ne") (by ktn_no "ne") _ ?_; generalize E5a _ _ _ _ _ _ = w, E5b _ _ _ _ _ _ = mean, E5c _ _ _ _ _ _ = mg, E5d _ _ _ _ _ _ = mb, E5e _ _ _ _ _ _ = li))
  (refine tell_in _ _ _ _ _ _ _ _ _ _ ?_; k_fill; generalize TX.dp (tx _ _ _ _ _ _ _ _ _ _) = dp, TX.un (tx _ _ _ _ _ _ _ _ _ _) = un, TX.gd (tx _ _ _ _ _ _ _ _ _ _) = gd, TX.cn (tx _ _ _ _ _ _ _ _ _ _) = cn, TX.cs (tx _ _ _ _ _ _ _ _ _ _) = cs, TX.a (tx _ _ _ _ _ _ _ _ _ _) = a, TX.ccd (tx _ _ _ _ _ _ _ _ _ _) = ccd, TX.cl (tx _ _ _ _ _ _ _ _ _ _) = cl, TX.outer (tx _ _ _ _ _ _ _ _ _ _) = outer, TX.A₀ (tx _ _ _ _ _ _ _ _ _ _) = A₀, TX.base (tx _ _ _ _ _ _ _ _ _ _) = base, TX.h₀ (tx _ _ _ _ _ _ _ _ _ _) = h₀, TX.L (tx _ _ _ _ _ _ _ _ _ _) = L, TX.m (tx _ _ _ _ _ _ _ _ _ _) = m, TX.s (tx _ _ _ _ _ _ _ _ _ _) = s, TX.Q (tx _ _ _ _ _ _ _ _ _ _) = Q, TX.E (tx _ _ _ _ _ _ _ _ _ _) = E; intro B F X N T hk hpre hd hu hret)
  ktn_no "ktr_make"
  ((refine all3 ?_; generalize E3a _ _ _ _ = x, E3b _ _ _ _ = dx, E3c _ _ _ _ = h1; intro F1 N1 up nx ndx nxd))
  clear N F
  ktn_no "ktr_enter0"
  rename KeepB _ _ _ => kg0
  (repeat' ((fail_if_success (ktn_no "stop")); first | ((with_reducible show wpAny _ _ (setAttr (Value.ref _) _ _) _ _ _); k_dflt (refine' set_dict (by k_asm) (by k_asm) (by k_asm) (by k_inst) (by exact rfl) (by k_is) (by k_is) (by k_is) (by k_is) (by k_get) (by k_put) (by k_upd) (by exact Nat.le_of_ble_eq_true rfl) ?_; k_whole); ktn_no "k12"; (try k_sweep)) | (k_unfold; (try dsimp only)) | walk1 | (dsimp only; walk1)))
  with_reducible rename News _ _ _ _ => N8
  with_reducible rename Fr _ _ _ _ => F8
  refine back_intro F8 fun f k => ⟨rfl, hret _ _ _ f (keep_made k up nx ndx) fun _ hk => hk _ _ _ _ _ _ _ _ _ (N8.get (by k_mem)) (N8.get (by k_mem)) (N8.get (.head _)) nx ndx ?_ nxd ?_ ?_⟩
  · exact made2 kg0 up nx ndx (N8.fresh (.head _))
  · k_ne
  · k_ne
end
/-! ## NGL3 -/
section
open PySem PySem.Spec PySem.Calls PySem.W PyProof.Rows PyProof.Rows.LCg
local macro_rules | `(tactic| ktn_no "ep?") => `(tactic| skip)
/-- what is new in h' since h -/
def newOf (h h' : Heap) : Heap := hideAll h' ((List.range h.objs.size).filter fun b => (h.get? b).isSome)
theorem newOf_get {h h' : Heap} {b : Addr} {o : Obj} (e : h'.get? b = some o) (f : h.get? b = none) : (newOf h h').get? b = some o :=
  hideAll_get _ e fun hm => by have := (List.mem_filter.mp hm).2; rw [f] at this; cases this
theorem of_newOf {h h' : Heap} {b : Addr} {o : Obj} (e : (newOf h h').get? b = some o) : h'.get? b = some o ∧ h.get? b = none := by
  refine ⟨of_hideAll _ e, ?_⟩
  cases q : h.get? b with
  | none => rfl
  | some o' =>
    have hm : b ∈ (List.range h.objs.size).filter fun b => (h.get? b).isSome := List.mem_filter.mpr ⟨List.mem_range.mpr (Heap.lt_size q), by rw [q]; rfl⟩
    unfold newOf at e
    rw [hideAll_none _ hm] at e; cases e
theorem madeX {g h h' : Heap} {L' : Addr} {news' : List (Addr × Obj)} {l d : Addr} {o o₁ : Obj} (kg : KeepB [(d, o)] h g) (N : News g L' h' news') (hm : (l, o₁) ∈ news') (hne : @Ne Nat l d) : (newOf h h').get? l = some o₁ :=
  newOf_get (N.get hm) (by
    cases q : h.get? l with
    | none => rfl
    | some o' => have := N.fresh hm; rw [kg _ _ q (by simpa using hne)] at this; cases this)
theorem madeZ {g h h' : Heap} {L' : Addr} {news' : List (Addr × Obj)} {l : Addr} {o₁ : Obj} (kg : KeepB [] h g) (N : News g L' h' news') (hm : (l, o₁) ∈ news') : (newOf h h').get? l = some o₁ :=
  newOf_get (N.get hm) (made kg N hm).2
theorem madeX_list {g h h' : Heap} {L' : Addr} {news' : List (Addr × Obj)} {l d : Addr} {o : Obj} {vs : List Value} (kg : KeepB [(d, o)] h g) (N : News g L' h' news') (hm : (l, PyProof.Rows.LCg.lst vs) ∈ news') (hne : @Ne Nat l d) : (newOf h h').IsList l vs.toArray :=
  ⟨_, madeX kg N hm hne, rfl, _, rfl⟩
def ColumnsAre (w : World) (h : Heap) : List Value → List Bool → Prop
  | [], [] => True
  | v :: vs, b :: bs => (∃ a d X, v = .ref a ∧ h.get? a = some (instObj 495 d) ∧ h.get? d = some X ∧ ColX w X b) ∧ ColumnsAre w h vs bs
  | _, _ => False
theorem ColumnsAre.keep {w : World} {h h' : Heap} (hk : ∀ b o, h.get? b = some o → h'.get? b = some o) : ∀ {vs : List Value} {bs : List Bool}, ColumnsAre w h vs bs → ColumnsAre w h' vs bs
  | [], [], _ => trivial
  | _ :: _, _ :: _, x => ⟨(let ⟨a, d, X, e, e1, e2, e3⟩ := x.1; ⟨a, d, X, e, hk _ _ e1, hk _ _ e2, e3⟩), ColumnsAre.keep hk x.2⟩
/-- a table: its rowid's place, and of its three columns which may not be null -/
def IsTabF (w : World) (h : Heap) (x lc : Addr) (rp : Val) (nns : List Bool) : Prop := IsTab w h x lc rp ∧ ∃ cs, h.IsList lc (List.toArray cs) ∧ ColumnsAre w h cs nns
theorem isTabF_keep {w : World} {h h' : Heap} {x lc : Addr} {rp : Val} {nns : List Bool} (I : IsTabF w h x lc rp nns) (hk : ∀ b o, h.get? b = some o → h'.get? b = some o) : IsTabF w h' x lc rp nns :=
  ⟨isTab_keep I.1 hk, let ⟨cs, ⟨o, e, r⟩, c⟩ := I.2; ⟨cs, ⟨o, hk _ _ e, r⟩, c.keep hk⟩⟩
def RpOK (rp : Val) : Prop := rp = none ∨ ∃ p : Int, rp = some p ∧ 0 ≤ p ∧ p < 3
section
variable {w : World} {A : Around} {E : Value → Shared → Prop} {s : Shared} {h₀ : Heap} {L : Addr} {m : Str → Option Value} {news : List (Addr × Obj)}
theorem set_nn {x dx : Addr} {X : Obj} {b b' : Bool} {news' : Obj → List (Addr × Obj)} {Q : Unit → Shared → Prop} {mean : ExcName → Option Value} {mg mb : Str → Option Value} (F : Fr h₀ L s.heap m) (X₀ : (hd0.heap_1_39 w.params).In h₀) (N : News h₀ L s.heap news) (T : Top hd0.view_1_40 lo mean mg mb h₀) (hx : (x, instObj 495 dx) ∈ news) (hd : (dx, X) ∈ news) (hX : ColX w X b) (U : ∀ X', Upd dx X X' news (news' X'))
    (h : ∀ X' h', Fr h₀ L h' m → News h₀ L h' (news' X') → ColX w X' b' → Q () { s with heap := h', toks := s.toks + 2 }) : wpAny (model PySem.Challenge.rw_nt0120_01.row.prog w) A (setAttr (.ref x) (Str.ofString "not_null") (.bool b')) Q E s := by
  revert X₀
  k_fill
  intro X₀
  refine hide fun G99 hG99 => ?_
  obtain ⟨t1, t2, t3, t4, t5, t6, nm, tn, af, cl, rfl, hn⟩ := hX
  refine hG99 ?_
  clear hG99 G99
  have I := inst_of (N.get hx) (N.get hd)
  k_dflt (refine' set_dict ?k1 ?k2 ?k3 ?k4 ?k5 ?k6 ?k7 ?k8 ?k9 ?k10 ?k11 ?k12 ?k13 ?_; (case k1 => k_asm); (case k2 => k_asm); (case k3 => k_asm); (case k4 => exact I); (case k5 => exact rfl); (case k6 => k_is); (case k7 => k_is); (case k8 => k_is); (case k9 => k_is); (case k10 => k_get); (case k11 => k_put); (case k12 => exact U _); (case k13 => exact Nat.le_of_ble_eq_true rfl))
  intro h' F' N'
  exact h _ h' F' N' ⟨_, _, _, _, _, _, _, _, _, _, rfl, hn⟩
end
set_option maxHeartbeats 4000000 in
theorem ct_table {w : World} {mean mg mb} {src : Addr} {o : Obj} (ho : SrcOK o) : Tell w mean mg mb 591 14 [.ref src] [(src, o)] (fun _ => True) (fun h r h' => ∃ a lc rp nns o', r = .ref a ∧ h'.get? src = some o' ∧ SrcOK o' ∧ IsTabF w (newOf h h') a lc rp nns ∧ nns.length = 3 ∧ RpOK rp) := by
  revert w mean mg mb src o ho
  ((refine @all6 _ _ _ _ _ _ (by ktn_no "ne") (by ktn_no "ne") (by ktn_no "ne") (by ktn_no "ne") (by ktn_no "ne") (by ktn_no "ne") _ ?_; generalize E6a _ _ _ _ _ _ _ = w, E6b _ _ _ _ _ _ _ = mean, E6c _ _ _ _ _ _ _ = mg, E6d _ _ _ _ _ _ _ = mb, E6e _ _ _ _ _ _ _ = src, E6f _ _ _ _ _ _ _ = o; intro ho))
  (refine tell_in _ _ _ _ _ _ _ _ _ _ ?_; k_fill; generalize TX.dp (tx _ _ _ _ _ _ _ _ _ _) = dp, TX.un (tx _ _ _ _ _ _ _ _ _ _) = un, TX.gd (tx _ _ _ _ _ _ _ _ _ _) = gd, TX.cn (tx _ _ _ _ _ _ _ _ _ _) = cn, TX.cs (tx _ _ _ _ _ _ _ _ _ _) = cs, TX.a (tx _ _ _ _ _ _ _ _ _ _) = a, TX.ccd (tx _ _ _ _ _ _ _ _ _ _) = ccd, TX.cl (tx _ _ _ _ _ _ _ _ _ _) = cl, TX.outer (tx _ _ _ _ _ _ _ _ _ _) = outer, TX.A₀ (tx _ _ _ _ _ _ _ _ _ _) = A₀, TX.base (tx _ _ _ _ _ _ _ _ _ _) = base, TX.h₀ (tx _ _ _ _ _ _ _ _ _ _) = h₀, TX.L (tx _ _ _ _ _ _ _ _ _ _) = L, TX.m (tx _ _ _ _ _ _ _ _ _ _) = m, TX.s (tx _ _ _ _ _ _ _ _ _ _) = s, TX.Q (tx _ _ _ _ _ _ _ _ _ _) = Q, TX.E (tx _ _ _ _ _ _ _ _ _ _) = E; intro B F X N T hk hpre hd hu hret)
  ktr_enter
  rename KeepB _ _ _ => kg0
  (repeat' ((fail_if_success (with_reducible show wpAny _ _ (exec (Stmt.While _ _ _ _) _) _ _ _)); first | ((with_reducible show wpAny _ _ (exec (Stmt.Assign _ (Expr.ListComp _ _ _ _) _) _) _ _ _); k_dflt (refine LCg.Assign_ListComp_U (F₀ := by k_asm) (by rfl) (by with_unfolding_all rfl) (by rfl) (by decide) (by rfl) (by decide) (by rfl) (by rfl) (by rfl) ?_)) | ((with_reducible show LCg.CompRest _ _ _ _ _ _ _ _ _ _ _ _ _ _ _ _ _ _ _); (with_unfolding_all refine LCg.CompRest.succ ?_); (refine all8 ?_; generalize E8a _ _ _ _ _ _ _ _ _ = v', E8b _ _ _ _ _ _ _ _ _ = I', E8c _ _ _ _ _ _ _ _ _ = oI', E8d _ _ _ _ _ _ _ _ _ = C', E8e _ _ _ _ _ _ _ _ _ = oC', E8f _ _ _ _ _ _ _ _ _ = D', E8g _ _ _ _ _ _ _ _ _ = m', E8h _ _ _ _ _ _ _ _ _ = h'); (refine all2 ?_; generalize E2a _ _ _ = tk', E2b _ _ _ = E'; intro hv' hC' hx' F' N' off' ne'); lcg_open hv'; (have cE' := InElt.start h'); (have z99 := off'; simp only [LCg.Off3, and_true] at z99; clear off'; have off' := z99; clear z99)) | ((with_reducible show LCg.FinA _ _ _ _ _ _ _ _); (with_unfolding_all refine all3 ?_); generalize E3a _ _ _ _ = D', E3b _ _ _ _ = h', E3c _ _ _ _ = tk'; intro F' N' o1'; (have z99 := o1'; simp only [LCg.Off1, and_true] at z99; clear o1'; have o1' := z99; clear z99); (try (have z99 := N'; simp only [List.nil_append, List.cons_append] at z99; clear N'; have N' := z99; clear z99)); (try dsimp only)) | ((with_reducible show LCg.CompSrc _ _ _ _ _ _ _ _ _ _ _ _ _ _); k_dflt (refine LCg.CompSrc.ledger (by rfl) (by k_asm) (by k_asm) (by k_mem) (by first | size_fits | exact Nat.le_of_ble_eq_true rfl) ?_; refine all1 ?_; ktn_no "g1"; lcg_lit)) | ((with_reducible show wpAny _ _ (pyIter (Value.ref _)) (fun it s₂ => LoopAtV _ _ _ _ _ _ _ _ _ it s₂) _ _); (rename Fr _ _ _ _ => lF'); (with_unfolding_all refine iter_listUnr (by rfl) lF' (by k_asm) (by k_mem) (by rfl) (by rfl) ?_); clear lF'; (refine all1 ?_; generalize E1a _ _ = i'; intro l1); (try k_lt l1)) | ((with_reducible show ListRest _ _ _ _ _ _ _ _ _ _ _ _ _ _ _); first | ((with_unfolding_all refine ListRest.succ ?_); (refine all3 ?_; ktn_no "g3"; intro _ _ _)) | ((with_unfolding_all refine ListRest.zero ?_); (refine all2 ?_; ktn_no "g2"; intro _ _))) | ((with_reducible show wpAny _ _ (setAttr (Value.ref _) _ _) _ _ _); (k_dflt (refine' set_nn ?k1 ?k2 ?k3 ?k4 ?k5 ?k6 ?k7 ?k8 ?_; (case k1 => k_asm); (case k2 => k_asm); (case k3 => k_asm); (case k4 => k_asm); (case k5 => k_mem); (case k6 => k_mem); (case k7 => with_reducible assumption); (case k8 => intro X9; k_upd)); ((refine all2 ?_; ktn_no "g2"; intro _ _ _)); ktn_no "aft")) | ((with_reducible show wpAny _ _ (PySem.call (Value.ref 568) _) _ _ _); k_dflt (refine use_Table (ret := ?_); ((refine all8 ?_; ktn_no "g8"); (refine all7 ?_; ktn_no "g7"; intro _ _ _ _ _)); (rename Off _ _ => M9; dsimp only [List.map] at M9); (with_reducible rename Off _ (List.map _ _) => M8; dsimp only [List.map] at M8)); ktn_no "aft") | ((with_reducible show wpAny _ _ (PySem.call (Value.ref 495) _) _ _ _); k_dflt (refine use_Column (ret := ?_); ((refine all5 ?_; ktn_no "g5"; intro _ _ _ _ _ _)); (rename Off _ _ => M9; dsimp only [List.map] at M9); (with_reducible rename Off _ (List.map _ _) => M8; dsimp only [List.map] at M8)); ktn_no "aft") | ((with_reducible show wpAny _ _ (PySem.call (Value.ref 586) _) _ _ _); k_dflt (refine use_take (U := by intro o9; k_upd) (ret := ?_); ((refine all5 ?_; ktn_no "g5"; intro _ _ _ _ _))); ktn_no "aft") | (with_reducible rename @Ne Nat _ _ ∧ _ => hq9; (have hq8 := hq9.1); (have hq7 := hq9.2); clear hq9) | (with_reducible rename (@Ne Nat _ _ ∧ _) ∧ _ => hq9; (have hq8 := hq9.1); (have hq7 := hq9.2); clear hq9) | ((with_reducible show wpAny _ _ (setAttr (Value.ref _) _ _) _ _ _); k_dflt (refine' set_dict (by k_asm) (by k_asm) (by k_asm) (by k_inst) (by exact rfl) (by k_is) (by k_is) (by k_is) (by k_is) (by k_get) (by k_put) (by k_upd) (by exact Nat.le_of_ble_eq_true rfl) ?_; k_whole); ktn_no "k12"; (try k_sweep)) | (k_unfold; (try dsimp only)) | walk1 | (dsimp only; walk1)))
  · with_reducible rename Fr _ _ _ _ => F8
    with_reducible rename News _ _ _ _ => N8
    refine back_intro F8 fun f k => hret _ _ _ f k ⟨_, _, some _, [_, _, _], _, rfl, N8.get (by k_mem), by assumption, ⟨⟨_, _, madeX kg0 N8 (by k_mem) (by k_ne), madeX kg0 N8 (by k_mem) (by k_ne), ⟨_, _, _, _, _, _, _, _, _, _, _, _, _, _, _, rfl, ⟨_, rfl⟩⟩⟩, [_, _, _], madeX_list kg0 N8 (by k_mem) (by k_ne), ⟨_, _, _, rfl, madeX kg0 N8 (by k_mem) (by k_ne), madeX kg0 N8 (by k_mem) (by k_ne), by assumption⟩, ⟨_, _, _, rfl, madeX kg0 N8 (by k_mem) (by k_ne), madeX kg0 N8 (by k_mem) (by k_ne), by assumption⟩, ⟨_, _, _, rfl, madeX kg0 N8 (by k_mem) (by k_ne), madeX kg0 N8 (by k_mem) (by k_ne), by assumption⟩, trivial⟩, rfl, .inr ⟨_, rfl, by assumption, by assumption⟩⟩
  · with_reducible rename Fr _ _ _ _ => F8
    with_reducible rename News _ _ _ _ => N8
    refine back_intro F8 fun f k => hret _ _ _ f k ⟨_, _, none, [_, _, _], _, rfl, N8.get (by k_mem), by assumption, ⟨⟨_, _, madeX kg0 N8 (by k_mem) (by k_ne), madeX kg0 N8 (by k_mem) (by k_ne), ⟨_, _, _, _, _, _, _, _, _, _, _, _, _, _, _, rfl, rfl⟩⟩, [_, _, _], madeX_list kg0 N8 (by k_mem) (by k_ne), ⟨_, _, _, rfl, madeX kg0 N8 (by k_mem) (by k_ne), madeX kg0 N8 (by k_mem) (by k_ne), by assumption⟩, ⟨_, _, _, rfl, madeX kg0 N8 (by k_mem) (by k_ne), madeX kg0 N8 (by k_mem) (by k_ne), by assumption⟩, ⟨_, _, _, rfl, madeX kg0 N8 (by k_mem) (by k_ne), madeX kg0 N8 (by k_mem) (by k_ne), by assumption⟩, trivial⟩, rfl, .inl rfl⟩
end
/-! ## NGL6 -/
section
open PySem PySem.Spec PySem.Calls PySem.W PyProof.Rows PyProof.Rows.LCg
local macro_rules | `(tactic| ktn_no "ep?") => `(tactic| skip)
section
variable {prog : Program} {w : World} {A : Around} {E : Value → Shared → Prop} {s : Shared}
def eqIV (p : Int) : Value → Bool
  | .int a _ => a == p
  | _ => false
theorem eqIV_at {A : Around} {s : Shared} {p : Int} {t : Tok} {y : Value} {d : Val} (hy : IsVal y d) : PySem.SeqAt.EqAt A s y (.int p t) (eqIV p y) := by
  cases d with
  | none => cases hy; exact PySem.SeqAt.EqAt.none_int p t
  | some a => obtain ⟨u, rfl⟩ := hy; exact PySem.SeqAt.EqAt.int_int a u p t
theorem in_pair {l : Addr} {p a : Int} {t ta : Tok} {rpv : Value} {rp : Val} {Q : Value → Shared → Prop} (hl : IsTup s.heap l #[.int a ta, rpv]) (hv : IsVal rpv rp) (h : Q (.bool (decide (p = a ∨ rp = some p))) s) :
    wpAny (model prog w) A (compareOp .In (.int p t) (.ref l)) Q E s := by
  refine PySem.SeqAt.in_tupleAt (eqIV p) hl (fun y hy => ?_) ?_
  · have hy' : y ∈ [Value.int a ta, rpv] := by simpa using hy
    rcases List.mem_cons.mp hy' with rfl | hy'
    · exact eqIV_at (d := some a) ⟨_, rfl⟩
    · rcases List.mem_singleton.mp hy' with rfl
      exact eqIV_at hv
  · have e0 : ∀ x : Int, (x == p) = decide (p = x) := fun x => by
      by_cases h : p = x
      · subst h; simp
      · rw [decide_eq_false h]; exact beq_eq_false_iff_ne.mpr (Ne.symm h)
    have e : (#[Value.int a ta, rpv].any (eqIV p)) = decide (p = a ∨ rp = some p) := by
      rw [List.any_toArray]
      simp only [List.any_cons, List.any_nil, Bool.or_false]
      cases rp with
      | none => cases hv; show ((a == p) || false) = _; rw [e0]; simp
      | some r => obtain ⟨u, rfl⟩ := hv; show ((a == p) || (r == p)) = _; rw [e0, e0, ← Bool.decide_or]; simp [eq_comm]
    rw [e]; exact h
theorem in_pair_t {l : Addr} {p a : Int} {t ta : Tok} {rpv : Value} {rp : Val} {Q : Value → Shared → Prop} (hc : p = a ∨ rp = some p) (hl : IsTup s.heap l #[.int a ta, rpv]) (hv : IsVal rpv rp) (h : Q (.bool true) s) :
    wpAny (model prog w) A (compareOp .In (.int p t) (.ref l)) Q E s := in_pair hl hv (by rw [decide_eq_true hc]; exact h)
theorem in_pair_f {l : Addr} {p a : Int} {t ta : Tok} {rpv : Value} {rp : Val} {Q : Value → Shared → Prop} (hc : ¬ (p = a ∨ rp = some p)) (hl : IsTup s.heap l #[.int a ta, rpv]) (hv : IsVal rpv rp) (h : Q (.bool false) s) :
    wpAny (model prog w) A (compareOp .In (.int p t) (.ref l)) Q E s := in_pair hl hv (by rw [decide_eq_false hc]; exact h)
end
set_option maxHeartbeats 4000000 in
theorem ct_value {w : World} {mean mg mb} {x lc a9 lv : Addr} {rp : Val} {p : Int} {rid : Int} {tp tr : Tok} {vs : List Value} {ds : List Val} (hp0 : -1 ≤ p) (hp : p < (ds.length : Int)) (hv1 : ValsAre vs ds) (hd1 : ds.length ≤ 40) : Tell w mean mg mb 608 4 [.ref x, .int p tp, .ref a9] [] (fun h => IsTab w h x lc rp ∧ IsTup h a9 #[.int rid tr, .ref lv] ∧ h.IsList lv (List.toArray vs)) (fun _ r _ => IsVal r (rowVal rp p rid ds)) := by
  revert w mean mg mb x lc a9 lv rp p rid tp tr vs ds hp0 hp hv1 hd1
  ((refine @all8 _ _ _ _ _ _ _ _ (by ktn_no "ne") (by ktn_no "ne") (by ktn_no "ne") (by ktn_no "ne") (by ktn_no "ne") (by ktn_no "ne") (by ktn_no "ne") (by ktn_no "ne") _ ?_; generalize E8a _ _ _ _ _ _ _ _ _ = w, E8b _ _ _ _ _ _ _ _ _ = mean, E8c _ _ _ _ _ _ _ _ _ = mg, E8d _ _ _ _ _ _ _ _ _ = mb, E8e _ _ _ _ _ _ _ _ _ = x, E8f _ _ _ _ _ _ _ _ _ = lc, E8g _ _ _ _ _ _ _ _ _ = a9, E8h _ _ _ _ _ _ _ _ _ = lv); (refine @all7 _ _ _ _ _ _ _ (by ktn_no "ne") (by ktn_no "ne") (by ktn_no "ne") (by ktn_no "ne") (by ktn_no "ne") (by ktn_no "ne") (by ktn_no "ne") _ ?_; generalize E7a _ _ _ _ _ _ _ _ = rp, E7b _ _ _ _ _ _ _ _ = p, E7c _ _ _ _ _ _ _ _ = rid, E7d _ _ _ _ _ _ _ _ = tp, E7e _ _ _ _ _ _ _ _ = tr, E7f _ _ _ _ _ _ _ _ = vs, E7g _ _ _ _ _ _ _ _ = ds; intro hp0 hp hv1 hd1))
  (refine tell_in _ _ _ _ _ _ _ _ _ _ ?_; k_fill; generalize TX.dp (tx _ _ _ _ _ _ _ _ _ _) = dp, TX.un (tx _ _ _ _ _ _ _ _ _ _) = un, TX.gd (tx _ _ _ _ _ _ _ _ _ _) = gd, TX.cn (tx _ _ _ _ _ _ _ _ _ _) = cn, TX.cs (tx _ _ _ _ _ _ _ _ _ _) = cs, TX.a (tx _ _ _ _ _ _ _ _ _ _) = a, TX.ccd (tx _ _ _ _ _ _ _ _ _ _) = ccd, TX.cl (tx _ _ _ _ _ _ _ _ _ _) = cl, TX.outer (tx _ _ _ _ _ _ _ _ _ _) = outer, TX.A₀ (tx _ _ _ _ _ _ _ _ _ _) = A₀, TX.base (tx _ _ _ _ _ _ _ _ _ _) = base, TX.h₀ (tx _ _ _ _ _ _ _ _ _ _) = h₀, TX.L (tx _ _ _ _ _ _ _ _ _ _) = L, TX.m (tx _ _ _ _ _ _ _ _ _ _) = m, TX.s (tx _ _ _ _ _ _ _ _ _ _) = s, TX.Q (tx _ _ _ _ _ _ _ _ _ _) = Q, TX.E (tx _ _ _ _ _ _ _ _ _ _) = E; intro B F X N T hk hpre hd hu hret)
  (refine cur3 ?_ (hpre); intro p1 p2 p3)
  have hvl := ValsAre.length hv1
  ktr_enter
  rename KeepB _ _ _ => kg0
  refine tab_out p1 ?_
  ((refine all8 ?_; generalize E8a _ _ _ _ _ _ _ _ _ = dx, E8b _ _ _ _ _ _ _ _ _ = t1, E8c _ _ _ _ _ _ _ _ _ = t2, E8d _ _ _ _ _ _ _ _ _ = t3, E8e _ _ _ _ _ _ _ _ _ = t4, E8f _ _ _ _ _ _ _ _ _ = t5, E8g _ _ _ _ _ _ _ _ _ = t6, E8h _ _ _ _ _ _ _ _ _ = t7); (refine all8 ?_; generalize E8a _ _ _ _ _ _ _ _ _ = t8, E8b _ _ _ _ _ _ _ _ _ = tn, E8c _ _ _ _ _ _ _ _ _ = rt, E8d _ _ _ _ _ _ _ _ _ = rpv, E8e _ _ _ _ _ _ _ _ _ = l1, E8f _ _ _ _ _ _ _ _ _ = l2, E8g _ _ _ _ _ _ _ _ _ = sq, E8h _ _ _ _ _ _ _ _ _ = l3; intro i1 i2 i3))
  have Ix := inst_base kg0 (inst_of i1 i2)
  have Iv := isList_base kg0 p3
  have Ir := isTup_base kg0 p2
  cases rp with
  | none =>
    cases i3
    by_cases hc : p = -1 ∨ (none : Val) = some p
    · have e9 : rowVal none p rid ds = some rid := by
        unfold rowVal
        rcases hc with h1 | h1
        · rw [if_pos h1]
        · by_cases h2 : p = -1
          · rw [if_pos h2]
          · rw [if_neg h2, if_pos h1]
      (repeat' ((fail_if_success (ktn_no "stop")); (fail_if_success (with_reducible show wpAny _ _ (exec (Stmt.Assign _ (Expr.ListComp _ _ _ _) _) _) _ _ _)); (fail_if_success (with_reducible show wpAny _ _ (eval (Expr.ListComp _ _ _ _) _) _ _ _)); (fail_if_success (with_reducible show CompTurned _ _ _ _ _ _ _ _ _ _ _ _)); first | ((with_reducible show wpAny _ _ (compareOp CmpOp.In (Value.int _ _) (Value.ref _)) _ _ _); (first | (refine' in_pair_t ?c ?l ?v ?_; (case c => assumption); (case l => ktn_no "b_tup"); (case v => first | exact isValN | exact isValI)) | (refine' in_pair_f ?c ?l ?v ?_; (case c => assumption); (case l => ktn_no "b_tup"); (case v => first | exact isValN | exact isValI)))) | (k_unfold; (try dsimp only)) | walk1 | (dsimp only; walk1)))
      all_goals exact back_intro (by assumption) fun f k => hret _ _ _ f k (by rw [e9]; exact ⟨_, rfl⟩)
    · have hp2 : 0 ≤ p := by
        have : p ≠ -1 := fun h => hc (.inl h)
        omega
      (refine ex1 ((⟨vs[p.toNat]'(by omega), List.getElem?_eq_getElem (by omega)⟩ : ∃ v, vs[p.toNat]? = some v)) ?_; generalize X1a _ _ = v; intro hv9)
      (refine ex1 (ValsAre.at hv1 hv9) ?_; generalize X1a _ _ = d; refine cur2 ?_; intro hd9 hvd)
      have e9 : rowVal none p rid ds = d := by
        unfold rowVal
        rw [if_neg (fun h => hc (.inl h)), if_neg (fun h => hc (.inr h)), if_pos hp, List.getD_eq_getElem?_getD, hd9]; rfl
      (repeat' ((fail_if_success (ktn_no "stop")); (fail_if_success (with_reducible show wpAny _ _ (exec (Stmt.Assign _ (Expr.ListComp _ _ _ _) _) _) _ _ _)); (fail_if_success (with_reducible show wpAny _ _ (eval (Expr.ListComp _ _ _ _) _) _ _ _)); (fail_if_success (with_reducible show CompTurned _ _ _ _ _ _ _ _ _ _ _ _)); first | ((with_reducible show wpAny _ _ (compareOp CmpOp.In (Value.int _ _) (Value.ref _)) _ _ _); (first | (refine' in_pair_t ?c ?l ?v ?_; (case c => assumption); (case l => ktn_no "b_tup"); (case v => first | exact isValN | exact isValI)) | (refine' in_pair_f ?c ?l ?v ?_; (case c => assumption); (case l => ktn_no "b_tup"); (case v => first | exact isValN | exact isValI)))) | (k_unfold; (try dsimp only)) | walk1 | (dsimp only; walk1)))
      all_goals exact back_intro (by assumption) fun f k => hret _ _ _ f k (by rw [e9]; exact hvd)
  | some q =>
    (refine ex1 (i3) ?_; generalize X1a _ _ = tq; intro q90; subst q90)
    by_cases hc : p = -1 ∨ ((some q) : Val) = some p
    · have e9 : rowVal (some q) p rid ds = some rid := by
        unfold rowVal
        rcases hc with h1 | h1
        · rw [if_pos h1]
        · by_cases h2 : p = -1
          · rw [if_pos h2]
          · rw [if_neg h2, if_pos h1]
      (repeat' ((fail_if_success (ktn_no "stop")); (fail_if_success (with_reducible show wpAny _ _ (exec (Stmt.Assign _ (Expr.ListComp _ _ _ _) _) _) _ _ _)); (fail_if_success (with_reducible show wpAny _ _ (eval (Expr.ListComp _ _ _ _) _) _ _ _)); (fail_if_success (with_reducible show CompTurned _ _ _ _ _ _ _ _ _ _ _ _)); first | ((with_reducible show wpAny _ _ (compareOp CmpOp.In (Value.int _ _) (Value.ref _)) _ _ _); (first | (refine' in_pair_t ?c ?l ?v ?_; (case c => assumption); (case l => ktn_no "b_tup"); (case v => first | exact isValN | exact isValI)) | (refine' in_pair_f ?c ?l ?v ?_; (case c => assumption); (case l => ktn_no "b_tup"); (case v => first | exact isValN | exact isValI)))) | (k_unfold; (try dsimp only)) | walk1 | (dsimp only; walk1)))
      all_goals exact back_intro (by assumption) fun f k => hret _ _ _ f k (by rw [e9]; exact ⟨_, rfl⟩)
    · have hp2 : 0 ≤ p := by
        have : p ≠ -1 := fun h => hc (.inl h)
        omega
      (refine ex1 ((⟨vs[p.toNat]'(by omega), List.getElem?_eq_getElem (by omega)⟩ : ∃ v, vs[p.toNat]? = some v)) ?_; generalize X1a _ _ = v; intro hv9)
      (refine ex1 (ValsAre.at hv1 hv9) ?_; generalize X1a _ _ = d; refine cur2 ?_; intro hd9 hvd)
      have e9 : rowVal (some q) p rid ds = d := by
        unfold rowVal
        rw [if_neg (fun h => hc (.inl h)), if_neg (fun h => hc (.inr h)), if_pos hp, List.getD_eq_getElem?_getD, hd9]; rfl
      (repeat' ((fail_if_success (ktn_no "stop")); (fail_if_success (with_reducible show wpAny _ _ (exec (Stmt.Assign _ (Expr.ListComp _ _ _ _) _) _) _ _ _)); (fail_if_success (with_reducible show wpAny _ _ (eval (Expr.ListComp _ _ _ _) _) _ _ _)); (fail_if_success (with_reducible show CompTurned _ _ _ _ _ _ _ _ _ _ _ _)); first | ((with_reducible show wpAny _ _ (compareOp CmpOp.In (Value.int _ _) (Value.ref _)) _ _ _); (first | (refine' in_pair_t ?c ?l ?v ?_; (case c => assumption); (case l => ktn_no "b_tup"); (case v => first | exact isValN | exact isValI)) | (refine' in_pair_f ?c ?l ?v ?_; (case c => assumption); (case l => ktn_no "b_tup"); (case v => first | exact isValN | exact isValI)))) | (k_unfold; (try dsimp only)) | walk1 | (dsimp only; walk1)))
      all_goals exact back_intro (by assumption) fun f k => hret _ _ _ f k (by rw [e9]; exact hvd)
end
/-! ## NGL4 -/
section
open PySem PySem.Spec PySem.Calls PySem.W PyProof.Rows PyProof.Rows.LCg
local macro_rules | `(tactic| ktn_no "ep?") => `(tactic| skip)
section
variable {prog : Program} {w : World} {A : Around} {E : Value → Shared → Prop} {s : Shared}
theorem notin_ints {l : Addr} {ps : List (Int × Tok)} {p : Int} {t : Tok} {Q : Value → Shared → Prop} (hl : s.heap.IsList l (List.toArray (ps.map fun q => Value.int q.1 q.2))) (h : Q (.bool (!ps.any fun q => q.1 == p)) s) :
    wpAny (model prog w) A (compareOp .NotIn (.int p t) (.ref l)) Q E s := by
  refine PySem.SeqAt.notIn_listAt (fun v => match v with | .int a _ => a == p | _ => false) hl (fun y hy => ?_) ?_
  · obtain ⟨q, hq, rfl⟩ := List.mem_map.mp (Array.mem_toList_iff.mpr hy)
    exact PySem.SeqAt.EqAt.int_int q.1 q.2 p t
  · rw [List.any_toArray, List.any_map]; exact h
end
theorem madeX_all {g h h' : Heap} {L' : Addr} {news' tl : List (Addr × Obj)} {d : Addr} {o : Obj} (kg : KeepB [(d, o)] h g) (N : News g L' h' news') (sub : ∀ p ∈ tl, p ∈ news') (hne : ∀ p ∈ tl, p.1 ≠ d) : ∀ p ∈ tl, (newOf h h').get? p.1 = some p.2 :=
  fun p hp => madeX kg N (sub p hp) (hne p hp)
theorem madeX_tup {g h h' : Heap} {L' : Addr} {news' : List (Addr × Obj)} {l d : Addr} {o : Obj} {items : Array Value} {n : Nat} (kg : KeepB [(d, o)] h g) (N : News g L' h' news') (hm : (l, ({ cls := .type "tuple", data := .seq items n } : Obj)) ∈ news') (hne : @Ne Nat l d) : IsTup (newOf h h') l items :=
  ⟨_, madeX kg N hm hne, rfl, _, rfl⟩
theorem nm_L {h₀ h : Heap} {L : Addr} {m : Str → Option Value} (_ : Fr h₀ L h m) : ∃ L', L' = L := ⟨L, rfl⟩
theorem nm_1 {h₀ h : Heap} {L a : Addr} {o : Obj} {r : List (Addr × Obj)} (_ : News h₀ L h ((a, o) :: r)) : ∃ a' o', a' = a ∧ o' = o := ⟨a, o, rfl, rfl⟩
theorem nm_2 {h₀ h : Heap} {L a b : Addr} {o p : Obj} {r : List (Addr × Obj)} (_ : News h₀ L h ((a, o) :: (b, p) :: r)) : ∃ a' o', a' = b ∧ o' = p := ⟨b, p, rfl, rfl⟩
theorem nm_3 {h₀ h : Heap} {L a b c : Addr} {o p q : Obj} {r : List (Addr × Obj)} (_ : News h₀ L h ((a, o) :: (b, p) :: (c, q) :: r)) : ∃ a' o', a' = c ∧ o' = q := ⟨c, q, rfl, rfl⟩
theorem nm_r {h : Heap} {r : Addr} {a b : Int} {t u v : Tok} (_ : IsRange h r a (1 + b) 1 t u v) : ∃ b', b' = b := ⟨b, rfl⟩
theorem nm_rb {h : Heap} {r : Addr} {a b : Int} {t u v : Tok} (_ : IsRange h r a b 1 t u v) : ∃ b', b' = b := ⟨b, rfl⟩
/-- what a comprehension of column triples has made -/
def TupsIn (tl : List (Addr × Obj)) : List Value → List (Int × Bool) → Prop
  | [], [] => True
  | v :: vs, c :: cs => (∃ a t1 t2 n, v = .ref a ∧ (a, ({ cls := .type "tuple", data := .seq #[.int c.1 t1, .str (Str.ofString "binary") t2, .bool c.2] n } : Obj)) ∈ tl) ∧ TupsIn tl vs cs
  | _, _ => False
theorem TupsIn.mono {tl tl' : List (Addr × Obj)} (hs : ∀ p ∈ tl, p ∈ tl') : ∀ {vs : List Value} {cs : List (Int × Bool)}, TupsIn tl vs cs → TupsIn tl' vs cs
  | [], [], _ => trivial
  | _ :: _, _ :: _, ⟨⟨a, t1, t2, n, e, h⟩, r⟩ => ⟨⟨a, t1, t2, n, e, hs _ h⟩, r.mono hs⟩
theorem TupsIn.snoc {tl : List (Addr × Obj)} {v : Value} {c : Int × Bool} (h : ∃ a t1 t2 n, v = .ref a ∧ (a, ({ cls := .type "tuple", data := .seq #[.int c.1 t1, .str (Str.ofString "binary") t2, .bool c.2] n } : Obj)) ∈ tl) : ∀ {vs : List Value} {cs : List (Int × Bool)}, TupsIn tl vs cs → TupsIn tl (vs ++ [v]) (cs ++ [c])
  | [], [], _ => ⟨h, trivial⟩
  | _ :: _, _ :: _, ⟨e, r⟩ => ⟨e, r.snoc h⟩
theorem TupsIn.cols {tl : List (Addr × Obj)} {h : Heap} (hg : ∀ p ∈ tl, h.get? p.1 = some p.2) : ∀ {vs : List Value} {cs : List (Int × Bool)}, TupsIn tl vs cs → ColsAre h vs cs
  | [], [], _ => trivial
  | _ :: _, _ :: _, ⟨⟨a, t1, t2, n, e, m⟩, r⟩ => ⟨⟨a, t1, t2, e, ⟨_, hg _ m, rfl, _, rfl⟩⟩, r.cols hg⟩
theorem map_pick {ps : List (Int × Tok)} {i : Nat} {v : Value} (hv : (ps.map fun q => Value.int q.1 q.2)[i]? = some v) : ∃ q0 : Int × Tok, ps[i]? = some q0 ∧ v = Value.int q0.1 q0.2 := by
  (have z99 := hv; rw [List.getElem?_map] at z99; try clear hv; have hv := z99; clear z99)
  cases e : ps[i]? with
  | none => rw [e] at hv; cases hv
  | some q => rw [e] at hv; cases hv; exact ⟨q, rfl, rfl⟩
theorem tups_step {tl : List (Addr × Obj)} {ys : List Value} {ps : List (Int × Tok)} {i n : Nat} {q0 : Int × Tok} {bs : List Bool} {D9 : Addr} {tt : Tok} {bb : Bool} (hq0 : ps[i]? = some q0) (hbl : bs.length = (ps.take i).length) (hti : TupsIn tl ys (((ps.take i).map (·.1)).zip bs)) :
    TupsIn ((D9, ({ cls := .type "tuple", data := .seq #[.int q0.1 q0.2, .str (Str.ofString "binary") tt, .bool bb] n } : Obj)) :: tl) (ys ++ [.ref D9]) (((ps.take (i + 1)).map (·.1)).zip (bs ++ [bb])) := by
  rw [List.take_add_one, hq0, List.map_append]
  show TupsIn _ _ (List.zip (_ ++ [q0.1]) (bs ++ [bb]))
  rw [List.zip_append (by rw [List.length_map]; exact hbl.symm)]
  exact TupsIn.snoc (c := (q0.1, bb)) ⟨D9, q0.2, tt, _, rfl, .head _⟩ (hti.mono fun p hp => .tail _ hp)
theorem len_step {ps : List (Int × Tok)} {i : Nat} {q0 : Int × Tok} {bs : List Bool} {bb : Bool} (hq0 : ps[i]? = some q0) (hbl : bs.length = (ps.take i).length) : (bs ++ [bb]).length = (ps.take (i + 1)).length := by
  rw [List.take_add_one, hq0, List.length_append, List.length_append, hbl]; rfl
theorem zip_in {ps : List (Int × Tok)} {bs : List Bool} (hpb : ∀ q ∈ ps, -1 ≤ q.1 ∧ q.1 < 3) : ∀ c ∈ (ps.map (·.1)).zip bs, -1 ≤ c.1 ∧ c.1 < 3 := by
  rintro ⟨c1, c2⟩ hc
  obtain ⟨q, hq, rfl⟩ := List.mem_map.mp (List.of_mem_zip hc).1
  exact hpb q hq
theorem draw_nat {d : Int} (h0 : 0 ≤ d) (h1 : d < 2) : ∃ nn : Nat, (1 + d : Int) = (nn : Int) ∧ 1 ≤ nn ∧ nn ≤ 2 := ⟨(1 + d).toNat, by omega, by omega, by omega⟩
theorem ps_snoc {ps : List (Int × Tok)} {d : Int} {t : Tok} (hpb : ∀ q ∈ ps, -1 ≤ q.1 ∧ q.1 < 3) (h0 : 0 ≤ d) (h1 : d < 4) : ∀ q ∈ ps ++ [(d - 1, t)], -1 ≤ q.1 ∧ q.1 < 3 := by
  intro q hq
  rcases List.mem_append.mp hq with hq | hq
  · exact hpb q hq
  · rcases List.mem_singleton.mp hq with rfl
    dsimp only
    omega
theorem any_pos {ps : List (Int × Tok)} {p : Int} (hc : (ps.any fun q => q.1 == p) = true) : 0 < ps.length := List.length_pos_iff.mpr (by rintro rfl; simp at hc)
set_option maxHeartbeats 4000000 in
theorem ct_index {w : World} {mean mg mb} {src : Addr} {o : Obj} (ho : SrcOK o) : Tell w mean mg mb 596 14 [.ref src] [(src, o)] (fun _ => True) (fun h r h' => ∃ a lc cvs cols uq o', r = .ref a ∧ h'.get? src = some o' ∧ SrcOK o' ∧ IsIdx w (newOf h h') a lc cvs cols uq ∧ 0 < cols.length ∧ cols.length ≤ 2 ∧ ∀ c ∈ cols, -1 ≤ c.1 ∧ c.1 < 3) := by
  revert w mean mg mb src o ho
  ((refine @all6 _ _ _ _ _ _ (by ktn_no "ne") (by ktn_no "ne") (by ktn_no "ne") (by ktn_no "ne") (by ktn_no "ne") (by ktn_no "ne") _ ?_; generalize E6a _ _ _ _ _ _ _ = w, E6b _ _ _ _ _ _ _ = mean, E6c _ _ _ _ _ _ _ = mg, E6d _ _ _ _ _ _ _ = mb, E6e _ _ _ _ _ _ _ = src, E6f _ _ _ _ _ _ _ = o; intro ho))
  (refine tell_in _ _ _ _ _ _ _ _ _ _ ?_; k_fill; generalize TX.dp (tx _ _ _ _ _ _ _ _ _ _) = dp, TX.un (tx _ _ _ _ _ _ _ _ _ _) = un, TX.gd (tx _ _ _ _ _ _ _ _ _ _) = gd, TX.cn (tx _ _ _ _ _ _ _ _ _ _) = cn, TX.cs (tx _ _ _ _ _ _ _ _ _ _) = cs, TX.a (tx _ _ _ _ _ _ _ _ _ _) = a, TX.ccd (tx _ _ _ _ _ _ _ _ _ _) = ccd, TX.cl (tx _ _ _ _ _ _ _ _ _ _) = cl, TX.outer (tx _ _ _ _ _ _ _ _ _ _) = outer, TX.A₀ (tx _ _ _ _ _ _ _ _ _ _) = A₀, TX.base (tx _ _ _ _ _ _ _ _ _ _) = base, TX.h₀ (tx _ _ _ _ _ _ _ _ _ _) = h₀, TX.L (tx _ _ _ _ _ _ _ _ _ _) = L, TX.m (tx _ _ _ _ _ _ _ _ _ _) = m, TX.s (tx _ _ _ _ _ _ _ _ _ _) = s, TX.Q (tx _ _ _ _ _ _ _ _ _ _) = Q, TX.E (tx _ _ _ _ _ _ _ _ _ _) = E; intro B F X N T hk hpre hd hu hret)
  (refine wpAny_call ?_; k_dflt (refine' enterHC ?k1 ?k2 ?k3 ?k4 ?k5 ?kA ?kF ?kK ?k6 ?k7 ?k8 ?k9 ?kB ?kD ?_ ?c2 ?c3 ?c4; (case k1 => assumption); (case k2 => assumption); (case k3 => assumption); (case k4 => assumption); (case k5 => assumption); (case kA => exact rfl); (case kF => exact rfl); (case kK => assumption); (case k6 => k_is); (case k7 => k_is); (case k8 => ktr_room); (case k9 => first | exact BindsTo.of_eq rfl | exact binds_K (Frag.In.keeps (by assumption) (Fr.keep (by assumption))) rfl (by k_is) rfl rfl rfl); (case kB => exact rfl); (case kD => decide +kernel); (case c2 => exact rfl); (case c3 => exact rfl); (case c4 => exact rfl); k_whole; refine all5 ?_; generalize E5a _ _ _ _ _ _ = g', E5b _ _ _ _ _ _ = L', E5c _ _ _ _ _ _ = h', E5d _ _ _ _ _ _ = tk', E5e _ _ _ _ _ _ = cells'; intro kg' F' N' Y' B' X' T' l1; (try (replace l1 := allLt_of l1; dsimp only [AllLt] at l1)); refine ex1 (CellsAre.one Y') ?_; generalize X1a _ _ = o'; intro q9; generalize q9.1 = e9, q9.2 = d1'; subst e9; clear q9 Y'; (try simp only [List.cons_append, List.nil_append] at N'); (try dsimp only)))
  rename KeepB _ _ _ => kg0
  (repeat' ((fail_if_success (ktn_no "stop")); (fail_if_success (with_reducible show wpAny _ _ (exec (Stmt.Assign _ (Expr.ListComp _ _ _ _) _) _) _ _ _)); (fail_if_success (with_reducible show wpAny _ _ (eval (Expr.ListComp _ _ _ _) _) _ _ _)); (fail_if_success (with_reducible show CompTurned _ _ _ _ _ _ _ _ _ _ _ _)); first | (k_unfold; (try dsimp only)) | walk1 | (dsimp only; walk1)))
  refine forA ?_
  (repeat' ((fail_if_success (ktn_no "stop")); (fail_if_success (with_reducible show wpAny _ _ (exec (Stmt.Assign _ (Expr.ListComp _ _ _ _) _) _) _ _ _)); (fail_if_success (with_reducible show wpAny _ _ (eval (Expr.ListComp _ _ _ _) _) _ _ _)); (fail_if_success (with_reducible show CompTurned _ _ _ _ _ _ _ _ _ _ _ _)); first | ((with_reducible show wpAny _ _ (PySem.call (Value.ref 586) _) _ _ _); k_dflt (refine use_take (U := by intro o9; k_upd) (ret := ?_); ((refine all5 ?_; ktn_no "g5"; intro _ _ _ _ _))); ktn_no "aft") | (k_unfold; (try dsimp only)) | walk1 | (dsimp only; walk1)))
  rename_i lp _ _ _ d0 _ _ _ _ _ _ hd0 hd1 _ _ _ _ _ _ _ _ _ _
  with_reducible rename Fr _ _ _ _ => F8
  with_reducible rename News _ _ _ _ => N8
  with_reducible rename IsRange _ _ _ _ _ _ _ _ => hr
  with_reducible rename SrcOK _ => hs
  (refine ex1 (draw_nat hd0 hd1) ?_; generalize X1a _ _ = nn; refine cur3 ?_; intro hnn hn1 hn2)
  (have z99 := hr; rw [hnn] at z99; try clear hr; have hr := z99; clear z99)
  have ne1 : @Ne Nat lp (L' + 1) := by k_ne
  have ne2 : @Ne Nat lp src := by k_ne
  have ne3 : @Ne Nat (L' + 1) src := by k_ne
  refine iterRS (fun i k9 => ∀ (ps : List (Int × Tok)) (pv : List Value) (np : Nat) (o2 : Obj) (m : Str → Option Value), (SrcOK o2) → (pv = ps.map (fun q => Value.int q.1 q.2)) → (ps.length ≤ i) → ((0 < i → 0 < ps.length)) → (∀ q ∈ ps, -1 ≤ q.1 ∧ q.1 < 3) → k9 (over [(Str.ofString "places", (.ref lp))] m) [(lp, PySem.W.listOf (List.toArray pv) np), (L' + 1, o'), (src, o2)]) rfl hr (rsmall0 (by omega)) (rsize0 _) (fr_over' (es := [(Str.ofString "places", _)]) F8 ⟨rfl, trivial⟩) N8 (fun _ k9 => k9 [] [] _ _ _ hs rfl (Nat.le_refl _) (fun q => absurd q (Nat.lt_irrefl 0)) (fun _ h => nomatch h)) ?_ ?_
  · clear F8 N8 hr
    ((refine all2 ?_; generalize E2a _ _ _ = i, E2b _ _ _ = tv; intro hlt); (refine all5 ?_; generalize E5a _ _ _ _ _ _ = ps, E5b _ _ _ _ _ _ = pv, E5c _ _ _ _ _ _ = np, E5d _ _ _ _ _ _ = o2, E5e _ _ _ _ _ _ = m₁; intro hs2 hpv hpl hp0 hpb); (refine all4 ?_; generalize E4a _ _ _ _ _ = h9, E4b _ _ _ _ _ = tk, E4c _ _ _ _ _ = I, E4d _ _ _ _ _ = o; intro F6 N5 hI))
    subst hpv
    rw [Int.zero_add]
    have n1 : @Ne Nat lp I := hI _ (.head _)
    have n2 : @Ne Nat (L' + 1) I := hI _ (.tail _ (.head _))
    have n3 : @Ne Nat src I := hI _ (.tail _ (.tail _ (.head _)))
    have hwl : (ps.map fun q => Value.int q.1 q.2).length ≤ 100 := by rw [List.length_map]; omega
    refine wpAny_assign_Name ?_
    (repeat' ((fail_if_success (ktn_no "stop")); (fail_if_success (with_reducible show wpAny _ _ (exec (Stmt.Assign _ (Expr.ListComp _ _ _ _) _) _) _ _ _)); (fail_if_success (with_reducible show wpAny _ _ (eval (Expr.ListComp _ _ _ _) _) _ _ _)); (fail_if_success (with_reducible show CompTurned _ _ _ _ _ _ _ _ _ _ _ _)); first | ((with_reducible show wpAny _ _ (compareOp CmpOp.NotIn (Value.int _ _) (Value.ref _)) _ _ _); (refine' notin_ints ?l ?_; (case l => ktn_no "b_list"))) | ((with_reducible show wpAny _ _ (PySem.call (Value.ref 586) _) _ _ _); k_dflt (refine use_take (U := by intro o9; k_upd) (ret := ?_); ((refine all5 ?_; ktn_no "g5"; intro _ _ _ _ _))); ktn_no "aft") | (k_unfold; (try dsimp only)) | walk1 | (dsimp only; walk1)))
    · with_reducible rename Fr _ _ _ _ => F8
      with_reducible rename News _ _ _ _ => N8
      try simp only [List.push_toArray] at N8
      refine' Turned.next [(lp, PySem.W.listOf (List.toArray (ps.map fun q => Value.int q.1 q.2)) np), (L' + 1, o'), (src, _)] (fr_over' (es := [(Str.ofString "places", _)]) F8 ⟨rfl, trivial⟩) N8 ?mI ?mem ?ne ?J
      case mI => k_mem
      case mem => ktn_no "subs"
      case ne => k_all
      case J =>
        rename List.any _ _ = true => hc
        exact fun _ k9 => k9 ps _ np _ _ (by assumption) rfl (by omega) (fun _ => any_pos hc) hpb
    · with_reducible rename Fr _ _ _ _ => F8
      with_reducible rename News _ _ _ _ => N8
      try simp only [List.push_toArray] at N8
      refine' Turned.next [(lp, PySem.W.listOf (List.toArray ((ps.map fun q => Value.int q.1 q.2) ++ [_])) (np + 1)), (L' + 1, o'), (src, _)] (fr_over' (es := [(Str.ofString "places", _)]) F8 ⟨rfl, trivial⟩) N8 ?mI ?mem ?ne ?J
      case mI => k_mem
      case mem => ktn_no "subs"
      case ne => k_all
      case J => exact fun _ k9 => k9 (ps ++ [(_, _)]) _ (np + 1) _ _ (by assumption) (by rw [List.map_append]; rfl) (by rw [List.length_append, List.length_singleton]; omega) (fun _ => by rw [List.length_append, List.length_singleton]; omega) (ps_snoc hpb (by assumption) (by assumption))
  · clear F8 N8 hr
    ((refine all5 ?_; generalize E5a _ _ _ _ _ _ = ps, E5b _ _ _ _ _ _ = pv, E5c _ _ _ _ _ _ = np, E5d _ _ _ _ _ _ = o2, E5e _ _ _ _ _ _ = m₁; intro hs2 hpv hpl hp0 hpb); (refine all2 ?_; generalize E2a _ _ _ = h9, E2b _ _ _ = tk; intro F6 N5))
    subst hpv
    have hp1 := hp0 (by omega)
    have hpl2 : ps.length ≤ 2 := by omega
    (repeat' ((fail_if_success (ktn_no "stop")); (fail_if_success (with_reducible show wpAny _ _ (exec (Stmt.Assign _ (Expr.ListComp _ _ _ _) _) _) _ _ _)); (fail_if_success (with_reducible show wpAny _ _ (eval (Expr.ListComp _ _ _ _) _) _ _ _)); (fail_if_success (with_reducible show CompTurned _ _ _ _ _ _ _ _ _ _ _ _)); first | (k_unfold; (try dsimp only)) | walk1 | (dsimp only; walk1)))
    with_reducible rename Fr _ _ _ _ => F7
    with_reducible rename News _ _ _ _ => N1
    refine listComp_A (by exact rfl) (by with_unfolding_all rfl) rfl rfl F7 (by with_unfolding_all rfl) (by decide) rfl (by decide) ?_
    (repeat' ((fail_if_success (ktn_no "stop")); (fail_if_success (with_reducible show wpAny _ _ (exec (Stmt.Assign _ (Expr.ListComp _ _ _ _) _) _) _ _ _)); (fail_if_success (with_reducible show wpAny _ _ (eval (Expr.ListComp _ _ _ _) _) _ _ _)); (fail_if_success (with_reducible show CompTurned _ _ _ _ _ _ _ _ _ _ _ _)); first | (k_unfold; (try dsimp only)) | walk1 | (dsimp only; walk1)))
    refine compAS (vs := ps.map (fun q => Value.int q.1 q.2)) (fun i ys k => ∀ (o3 : Obj) (bs : List Bool) (tl : List (Addr × Obj)), SrcOK o3 → TupsIn tl ys (((ps.take i).map (·.1)).zip bs) → bs.length = (ps.take i).length → (∀ p ∈ tl, p.1 ≠ src) → k ((lp, PySem.W.listOf (List.toArray (ps.map fun q => Value.int q.1 q.2)) np) :: (L' + 1, o') :: (src, o3) :: tl)) rfl (News.isList N1 (.head _)) (by rw [List.length_map]; omega)
      (.inr fun i ys o3 bs tl _ _ _ _ => ⟨_, .head _, rfl, _, rfl⟩) F7 N1 (fun k hk => hk o2 [] [] hs2 trivial rfl (fun _ h => nomatch h)) (fun I j h v tk Q E1 _ _ q => wpAny_pure q) ?_ ?_
    · ((refine all2 ?_; generalize E2a _ _ _ = i, E2b _ _ _ = v; intro hv); (refine all4 ?_; generalize E4a _ _ _ _ _ = ys, E4b _ _ _ _ _ = o3, E4c _ _ _ _ _ = bs, E4d _ _ _ _ _ = tl; intro hs3 hti hbl htl); (refine all8 ?_; generalize E8a _ _ _ _ _ _ _ _ _ = I, E8b _ _ _ _ _ _ _ _ _ = mC, E8c _ _ _ _ _ _ _ _ _ = h9, E8d _ _ _ _ _ _ _ _ _ = tk, E8e _ _ _ _ _ _ _ _ _ = oI, E8f _ _ _ _ _ _ _ _ _ = C, E8g _ _ _ _ _ _ _ _ _ = oC, E8h _ _ _ _ _ _ _ _ _ = D); (refine all1 ?_; generalize E1a _ _ = E1; intro F5 hoC N5 off5 ne5))
      clear N1 F7
      (refine ex1 (map_pick hv) ?_; generalize X1a _ _ = q0; refine cur2 ?_; intro hq0 r91; subst r91)
      refine comp_store rfl rfl F5 hoC N5 off5 ne5 ?_
      ((refine all3 ?_; generalize E3a _ _ _ _ = h', E3b _ _ _ _ = oC', E3c _ _ _ _ = m₂; intro F6 hoC' hx6 hx7 N6))
      clear N5 F5 hoC
      refine hide fun G99 hG99 => ?_
      have ⟨⟨y1, y2, y3⟩, ⟨y4, y5, y6⟩, ⟨y7, y8, y9⟩, offt⟩ := off5
      refine hG99 ?_
      clear hG99 G99
      refine tests_nilT ?_
      (repeat' ((fail_if_success (ktn_no "stop")); (fail_if_success (with_reducible show wpAny _ _ (exec (Stmt.Assign _ (Expr.ListComp _ _ _ _) _) _) _ _ _)); (fail_if_success (with_reducible show wpAny _ _ (eval (Expr.ListComp _ _ _ _) _) _ _ _)); (fail_if_success (with_reducible show CompTurned _ _ _ _ _ _ _ _ _ _ _ _)); first | ((with_reducible show wpAny _ _ (PySem.call (Value.ref 586) _) _ _ _); k_dflt (refine use_take (U := by intro o9; k_upd) (ret := ?_); ((refine all5 ?_; ktn_no "g5"; intro _ _ _ _ _))); ktn_no "aft") | (k_unfold; (try dsimp only)) | walk1 | (dsimp only; walk1)))
      rename_i D9 _ _ _ _
      with_reducible rename Fr _ _ _ _ => F7
      with_reducible rename News _ _ _ _ => N7
      refine' CompTurned.intro ((lp, PySem.W.listOf (List.toArray (ps.map fun q => Value.int q.1 q.2)) np) :: (L' + 1, o') :: (src, _) :: (D9, { cls := Value.type "tuple", data := Data.seq #[Value.int q0.1 q0.2, Value.str (Str.ofString "binary") _, Value.bool _] }) :: tl) F7 hoC' N7 ?sub ?off ?j
      case sub => ktn_no "subs"
      case off => exact ⟨⟨y1, y2, y3⟩, ⟨y4, y5, y6⟩, ⟨y7, y8, y9⟩, ⟨by k_ne, by k_ne, by k_ne⟩, offt⟩
      case j => exact fun k hk => hk _ (bs ++ [_]) ((D9, _) :: tl) (by assumption) (tups_step hq0 hbl hti) (len_step hq0 hbl) (List.forall_mem_cons.mpr ⟨by k_ne, htl⟩)
    · ((refine all4 ?_; generalize E4a _ _ _ _ _ = ys, E4b _ _ _ _ _ = o3, E4c _ _ _ _ _ = bs, E4d _ _ _ _ _ = tl; intro hs3 hti hbl htl); (refine all3 ?_; generalize E3a _ _ _ _ = D, E3b _ _ _ _ = h9, E3c _ _ _ _ = tk; intro F5 N5 off5))
      clear N1 F7
      dsimp only [List.map] at off5
      (repeat' ((fail_if_success (ktn_no "stop")); (fail_if_success (with_reducible show wpAny _ _ (exec (Stmt.Assign _ (Expr.ListComp _ _ _ _) _) _) _ _ _)); (fail_if_success (with_reducible show wpAny _ _ (eval (Expr.ListComp _ _ _ _) _) _ _ _)); (fail_if_success (with_reducible show CompTurned _ _ _ _ _ _ _ _ _ _ _ _)); first | ((with_reducible show wpAny _ _ (PySem.call (Value.ref 526) _) _ _ _); k_dflt (refine use_Index (ret := ?_); ((refine all8 ?_; ktn_no "g8"); (refine all7 ?_; ktn_no "g7"; intro _ _ _ _ _)); (rename Off _ _ => M9; dsimp only [List.map] at M9); (with_reducible rename Off _ (List.map _ _) => M8; dsimp only [List.map] at M8)); ktn_no "aft") | ((with_reducible show wpAny _ _ (PySem.call (Value.ref 586) _) _ _ _); k_dflt (refine use_take (U := by intro o9; k_upd) (ret := ?_); ((refine all5 ?_; ktn_no "g5"; intro _ _ _ _ _))); ktn_no "aft") | (k_unfold; (try dsimp only)) | walk1 | (dsimp only; walk1)))
      with_reducible rename Fr _ _ _ _ => F8
      with_reducible rename News _ _ _ _ => N8
      (have z99 := hti; rw [List.length_map, List.take_length] at z99; try clear hti; have hti := z99; clear z99)
      (have z99 := hbl; rw [List.length_map, List.take_length] at z99; try clear hbl; have hbl := z99; clear z99)
      have hall := madeX_all kg0 N8 (tl := tl) (by intro p hp; repeat (first | exact hp | refine List.Mem.tail _ ?_)) htl
      refine' back_intro F8 fun f k => hret _ _ _ f k ⟨_, _, ys, (ps.map (·.1)).zip bs, _, _, rfl, N8.get ?s, ?hs, ⟨_, _, madeX kg0 N8 (by k_mem) (by k_ne), madeX kg0 N8 (by k_mem) (by k_ne), ⟨_, _, _, _, _, _, _, _, _, _, _, _, rfl⟩, madeX_list kg0 N8 (by k_mem) (by k_ne), hti.cols hall⟩, ?l1, ?l2, ?l3⟩
      case s => k_mem
      case hs => assumption
      case l1 => rw [List.length_zip, List.length_map]; omega
      case l2 => rw [List.length_zip, List.length_map]; omega
      case l3 => exact zip_in hpb
end
/-! ## NGL7 -/
section
open PySem PySem.Spec PySem.Calls PySem.W PyProof.Rows PyProof.Rows.LCg
local macro_rules | `(tactic| ktn_no "ep?") => `(tactic| skip)
section
variable {prog : Program} {w : World} {A : Around} {E : Value → Shared → Prop} {s : Shared} {h₀ : Heap} {L : Addr} {m : Str → Option Value} {news : List (Addr × Obj)}
theorem add_lst {t b : Addr} {vs ws : List Value} {Q : Value → Shared → Prop} (F : Fr h₀ L s.heap m) (N : News h₀ L s.heap news) (ht : s.heap.IsList t vs.toArray) (hb : s.heap.IsList b ws.toArray) (hz : vs.length + ws.length ≤ 1000)
    (h : ∀ D h', Fr h₀ L h' m → News h₀ L h' ((D, PySem.W.listOf (List.toArray (vs ++ ws)) 0) :: news) → (∀ p ∈ news, p.1 < D) → Q (.ref D) { s with heap := h' }) : wpAny (model prog w) A (binaryOp .Add (.ref t) (.ref b)) Q E s :=
  add_lists F N ht hb (fun h' F' N' => h _ h' F' N' fun p hp => Heap.lt_size (N p hp).1) (by rw [sizeLine_eq]; omega)
end
section
variable {prog : Program} {w : World} {A : Around} {E : Value → Shared → Prop} {s : Shared} {h₀ : Heap} {L : Addr} {news : List (Addr × Obj)}
theorem eval_cell {scope : Scope} {cl : List (Str × Addr)} {C K : Addr} {env : Env} {x : Str} {px : Pos} {oK : Obj} {v : Value} {Q : Value → Shared → Prop} (hkf : scope.kind = .function) (hk : (compEnvC scope cl C env).kindOf x = some .cell ∨ (compEnvC scope cl C env).kindOf x = some .free)
    (hc : cl.lookup x = some K) (N : News h₀ L s.heap news) (hm : (K, oK) ∈ news) (hd : oK.data = .cell (some v)) (h : Q v s) (hdb : (x == ("__debug__" : Str)) = false) (hdc : (x == ("__classdict__" : Str)) = false) : wpAny (model prog w) A (eval (.Name x px) (compEnvC scope cl C env)) Q E s := by
  have hcell : s.heap.IsCell K (some v) := ⟨oK, N.get hm, hd⟩
  rcases hk with hk | hk
  · exact wpAny_Name (wpAny_loadName_cell hkf hk hc hcell h) hdb
  · exact wpAny_Name (wpAny_loadName_free hkf hk hc hcell h hdc) hdb
end
def KeyAre (h : Heap) (v : Value) (ks : List Val) : Prop := ∃ l ws, v = .ref l ∧ h.IsList l (List.toArray ws) ∧ ValsAre ws ks
def KeysAre (h : Heap) (vs : List Value) (kss : List (List Val)) : Prop := vs.length = kss.length ∧ ∀ (i : Nat) (v : Value), vs[i]? = some v → ∃ ks, kss[i]? = some ks ∧ KeyAre h v ks
theorem keysAre_keep {h h' : Heap} {vs : List Value} {kss : List (List Val)} (K : KeysAre h vs kss) (hk : ∀ b o, h.get? b = some o → h'.get? b = some o) : KeysAre h' vs kss :=
  ⟨K.1, fun i v e => let ⟨ks, e1, l, ws, e2, ⟨o, e3, r⟩, e4⟩ := K.2 i v e; ⟨ks, e1, l, ws, e2, ⟨o, hk _ _ e3, r⟩, e4⟩⟩
def KeysIn (tl : List (Addr × Obj)) : List Value → List (List Val) → Prop
  | [], [] => True
  | v :: vs, ks :: kss => (∃ l ws n, v = .ref l ∧ (l, PySem.W.listOf (List.toArray ws) n) ∈ tl ∧ ValsAre ws ks) ∧ KeysIn tl vs kss
  | _, _ => False
theorem KeysIn.mono {tl tl' : List (Addr × Obj)} (hs : ∀ p ∈ tl, p ∈ tl') : ∀ {vs : List Value} {cs : List (List Val)}, KeysIn tl vs cs → KeysIn tl' vs cs
  | [], [], _ => trivial
  | _ :: _, _ :: _, ⟨⟨a, ws, n, e, h, hv⟩, r⟩ => ⟨⟨a, ws, n, e, hs _ h, hv⟩, r.mono hs⟩
theorem KeysIn.snoc {tl : List (Addr × Obj)} {v : Value} {ks : List Val} (h : ∃ l ws n, v = .ref l ∧ (l, PySem.W.listOf (List.toArray ws) n) ∈ tl ∧ ValsAre ws ks) : ∀ {vs : List Value} {cs : List (List Val)}, KeysIn tl vs cs → KeysIn tl (vs ++ [v]) (cs ++ [ks])
  | [], [], _ => ⟨h, trivial⟩
  | _ :: _, _ :: _, ⟨e, r⟩ => ⟨e, r.snoc h⟩
theorem KeysIn.keys {tl : List (Addr × Obj)} {h : Heap} (hg : ∀ p ∈ tl, h.get? p.1 = some p.2) : ∀ {vs : List Value} {cs : List (List Val)}, KeysIn tl vs cs → KeysAre h vs cs
  | [], [], _ => ⟨rfl, fun i v e => by simp at e⟩
  | _ :: vs, ks :: kss, ⟨⟨a, ws, n, e, m, hv⟩, r⟩ => by
    obtain ⟨l, x⟩ := KeysIn.keys hg r
    refine ⟨by rw [List.length_cons, List.length_cons, l], fun i v e' => ?_⟩
    cases i with
    | zero => cases e'; exact ⟨ks, rfl, a, ws, e, ⟨_, hg _ m, rfl, _, rfl⟩, hv⟩
    | succ i => obtain ⟨ks', e2, q⟩ := x i v (by simpa using e'); exact ⟨ks', by simpa using e2, q⟩
section
variable {prog : Program} {w : World} {A : Around} {E : Value → Shared → Prop} {s : Shared} {scope : Scope} {cl : List (Str × Addr)} {h₀ : Heap} {L I C D K : Addr} {m : Str → Option Value} {oI oC oD oK : Obj} {rest : List (Addr × Obj)} {x : Str} {px : Pos} {v : Value} {env : Env}
/-- the store of a comprehension's own name that is a cell -/
theorem comp_store_cell {vv : Option Value} {Q : Unit → Shared → Prop} (hl : (compEnvC scope ((x, K) :: cl) C env).kindOf x = some .cell) (hkind : scope.kind = .function) (F : Fr h₀ L s.heap m)
    (N : News h₀ L s.heap ((I, oI) :: (C, oC) :: (D, oD) :: (K, oK) :: rest)) (off : Off3 I C D ((K, oK) :: rest)) (hKr : ∀ p ∈ rest, p.1 ≠ K) (hd : oK.data = .cell vv)
    (h : ∀ h' oK', oK'.data = .cell (some v) → Fr h₀ L h' m → News h₀ L h' ((I, oI) :: (C, oC) :: (D, oD) :: (K, oK') :: rest) → Q () { s with heap := h' }) :
    wpAny (model prog w) A (assign (.Name x px) (compEnvC scope ((x, K) :: cl) C env) v) Q E s := by
  have zK := N (K, oK) (.tail _ (.tail _ (.tail _ (.head _))))
  have offm := off.mem (K, oK) (.head _)
  refine wpAny_assign_Name (wpAny_storeName_cell (c := K) hkind hl (by show List.lookup x ((x, K) :: cl) = some K; simp [List.lookup]) ⟨oK, zK.1, hd⟩ fun h' hc hs => ?_)
  obtain ⟨oK', eK, dK⟩ := hc
  refine h h' oK' dK (F.change hs zK.2.1 zK.2.2) fun p hp => ?_
  rcases List.mem_cons.mp hp with rfl | hp
  · have q := N _ (List.mem_cons_self ..)
    exact ⟨hs.extBut _ _ (Ne.symm offm.1) q.1, q.2⟩
  · rcases List.mem_cons.mp hp with rfl | hp
    · have q := N _ (.tail _ (.head _))
      exact ⟨hs.extBut _ _ (Ne.symm offm.2.1) q.1, q.2⟩
    · rcases List.mem_cons.mp hp with rfl | hp
      · have q := N _ (.tail _ (.tail _ (.head _)))
        exact ⟨hs.extBut _ _ (Ne.symm offm.2.2) q.1, q.2⟩
      · rcases List.mem_cons.mp hp with rfl | hp
        · exact ⟨eK, zK.2⟩
        · have q := N p (.tail _ (.tail _ (.tail _ (.tail _ hp))))
          exact ⟨hs.extBut _ _ (hKr p hp) q.1, q.2⟩
end
theorem keys_step {tl : List (Addr × Obj)} {ys : List Value} {rows : List (Int × List Val)} {rp : Val} {cols : List (Int × Bool)} {i n : Nat} {rid : Int} {ds : List Val} {A9 : Addr} {ys2 : List Value} {tv9 : Tok} (hrow : rows[i]? = some (rid, ds)) (hks : KeysIn tl ys ((rows.take i).map fun r => keyOf rp cols r.1 r.2)) (hys : ValsAre ys2 (cols.map fun c => rowVal rp c.1 rid ds)) :
    KeysIn ((A9, PySem.W.listOf (List.toArray (ys2 ++ [.int rid tv9])) n) :: tl) (ys ++ [.ref A9]) ((rows.take (i + 1)).map fun r => keyOf rp cols r.1 r.2) := by
  rw [List.take_add_one, hrow, List.map_append]
  exact KeysIn.snoc ⟨A9, _, _, rfl, .head _, valsAre_snoc hys (isValI (i := rid) (t := tv9))⟩ (hks.mono fun p hp => .tail _ hp)
set_option maxHeartbeats 4000000 in
theorem ct_keys {w : World} {mean mg mb} {xt lct xi lci lrw : Addr} {rp : Val} {cvs rvs : List Value} {cols : List (Int × Bool)} {uq : Bool} {rows : List (Int × List Val)} (hc1 : cols.length ≤ 10) (hc2 : ∀ c ∈ cols, -1 ≤ c.1 ∧ c.1 < 3) (hr1 : rows.length ≤ 50) (hr2 : ∀ r ∈ rows, 3 ≤ r.2.length ∧ r.2.length ≤ 40) : Tell w mean mg mb 613 8 [.ref xt, .ref xi, .ref lrw] [] (fun h => IsTab w h xt lct rp ∧ IsIdx w h xi lci cvs cols uq ∧ h.IsList lrw (List.toArray rvs) ∧ RowsAre h rvs rows) (fun h r h' => ∃ a vs, r = .ref a ∧ (newOf h h').IsList a (List.toArray vs) ∧ KeysAre (newOf h h') vs (rows.map fun r => keyOf rp cols r.1 r.2)) := by
  revert w mean mg mb xt lct xi lci lrw rp cvs rvs cols uq rows hc1 hc2 hr1 hr2
  ((refine @all8 _ _ _ _ _ _ _ _ (by ktn_no "ne") (by ktn_no "ne") (by ktn_no "ne") (by ktn_no "ne") (by ktn_no "ne") (by ktn_no "ne") (by ktn_no "ne") (by ktn_no "ne") _ ?_; generalize E8a _ _ _ _ _ _ _ _ _ = w, E8b _ _ _ _ _ _ _ _ _ = mean, E8c _ _ _ _ _ _ _ _ _ = mg, E8d _ _ _ _ _ _ _ _ _ = mb, E8e _ _ _ _ _ _ _ _ _ = xt, E8f _ _ _ _ _ _ _ _ _ = lct, E8g _ _ _ _ _ _ _ _ _ = xi, E8h _ _ _ _ _ _ _ _ _ = lci); (refine @all7 _ _ _ _ _ _ _ (by ktn_no "ne") (by ktn_no "ne") (by ktn_no "ne") (by ktn_no "ne") (by ktn_no "ne") (by ktn_no "ne") (by ktn_no "ne") _ ?_; generalize E7a _ _ _ _ _ _ _ _ = lrw, E7b _ _ _ _ _ _ _ _ = rp, E7c _ _ _ _ _ _ _ _ = cvs, E7d _ _ _ _ _ _ _ _ = rvs, E7e _ _ _ _ _ _ _ _ = cols, E7f _ _ _ _ _ _ _ _ = uq, E7g _ _ _ _ _ _ _ _ = rows; intro hc1 hc2 hr1 hr2))
  (refine tell_in _ _ _ _ _ _ _ _ _ _ ?_; k_fill; generalize TX.dp (tx _ _ _ _ _ _ _ _ _ _) = dp, TX.un (tx _ _ _ _ _ _ _ _ _ _) = un, TX.gd (tx _ _ _ _ _ _ _ _ _ _) = gd, TX.cn (tx _ _ _ _ _ _ _ _ _ _) = cn, TX.cs (tx _ _ _ _ _ _ _ _ _ _) = cs, TX.a (tx _ _ _ _ _ _ _ _ _ _) = a, TX.ccd (tx _ _ _ _ _ _ _ _ _ _) = ccd, TX.cl (tx _ _ _ _ _ _ _ _ _ _) = cl, TX.outer (tx _ _ _ _ _ _ _ _ _ _) = outer, TX.A₀ (tx _ _ _ _ _ _ _ _ _ _) = A₀, TX.base (tx _ _ _ _ _ _ _ _ _ _) = base, TX.h₀ (tx _ _ _ _ _ _ _ _ _ _) = h₀, TX.L (tx _ _ _ _ _ _ _ _ _ _) = L, TX.m (tx _ _ _ _ _ _ _ _ _ _) = m, TX.s (tx _ _ _ _ _ _ _ _ _ _) = s, TX.Q (tx _ _ _ _ _ _ _ _ _ _) = Q, TX.E (tx _ _ _ _ _ _ _ _ _ _) = E; intro B F X N T hk hpre hd hu hret)
  (refine cur4 ?_ (hpre); intro p1 p2 p3 p4)
  (refine wpAny_call ?_; k_dflt (refine' enterHC ?k1 ?k2 ?k3 ?k4 ?k5 ?kA ?kF ?kK ?k6 ?k7 ?k8 ?k9 ?kB ?kD ?_ ?c2 ?c3 ?c4; (case k1 => assumption); (case k2 => assumption); (case k3 => assumption); (case k4 => assumption); (case k5 => assumption); (case kA => exact rfl); (case kF => exact rfl); (case kK => assumption); (case k6 => k_is); (case k7 => k_is); (case k8 => ktr_room); (case k9 => first | exact BindsTo.of_eq rfl | exact binds_K (Frag.In.keeps (by assumption) (Fr.keep (by assumption))) rfl (by k_is) rfl rfl rfl); (case kB => exact rfl); (case kD => decide +kernel); (case c2 => exact rfl); (case c3 => exact rfl); (case c4 => exact rfl); k_whole; refine all5 ?_; generalize E5a _ _ _ _ _ _ = g', E5b _ _ _ _ _ _ = L', E5c _ _ _ _ _ _ = h', E5d _ _ _ _ _ _ = tk', E5e _ _ _ _ _ _ = cells'; intro kg' F' N' Y' B' X' T' l1; (try (replace l1 := allLt_of l1; dsimp only [AllLt] at l1)); refine ex2 (CellsAre.two Y') ?_; generalize X2a _ _ _ = o', X2b _ _ _ = o2'; intro q9; generalize q9.1 = e9, q9.2.1 = d1', q9.2.2 = d2'; subst e9; clear q9 Y'; (try simp only [List.cons_append, List.nil_append] at N'); (try dsimp only)))
  rename KeepB _ _ _ => kg0
  have It := isTab_keep p1 fun b o e => kg0 b o e (by simp)
  have Ii := isIdx_keep p2 fun b o e => kg0 b o e (by simp)
  have Ir := isList_base kg0 p3
  have Iw := rowsAre_keep p4 fun b o e => kg0 b o e (by simp)
  have hrl := Iw.1
  refine idx_out Ii ?_
  ((refine all8 ?_; generalize E8a _ _ _ _ _ _ _ _ _ = dx, E8b _ _ _ _ _ _ _ _ _ = t1, E8c _ _ _ _ _ _ _ _ _ = t2, E8d _ _ _ _ _ _ _ _ _ = t3, E8e _ _ _ _ _ _ _ _ _ = t4, E8f _ _ _ _ _ _ _ _ _ = t5, E8g _ _ _ _ _ _ _ _ _ = t6, E8h _ _ _ _ _ _ _ _ _ = t7); (refine all5 ?_; generalize E5a _ _ _ _ _ _ = tn, E5b _ _ _ _ _ _ = tb, E5c _ _ _ _ _ _ = rt, E5d _ _ _ _ _ _ = og, E5e _ _ _ _ _ _ = sq; intro i1 i2 i3 i4))
  have Ix := inst_of i1 i2
  have hcl := ColsAre.length i4
  (repeat' ((fail_if_success (ktn_no "stop")); (fail_if_success (with_reducible show wpAny _ _ (exec (Stmt.Assign _ (Expr.ListComp _ _ _ _) _) _) _ _ _)); (fail_if_success (with_reducible show wpAny _ _ (eval (Expr.ListComp _ _ _ _) _) _ _ _)); (fail_if_success (with_reducible show CompTurned _ _ _ _ _ _ _ _ _ _ _ _)); first | (k_unfold; (try dsimp only)) | walk1 | (dsimp only; walk1)))
  with_reducible rename Fr _ _ _ _ => F7
  with_reducible rename News _ _ _ _ => N1
  refine listComp_K F7 (by with_unfolding_all rfl) (fun n => by rfl) (fun h => by rfl) rfl (by decide) ?_
  (repeat' ((fail_if_success (ktn_no "stop")); (fail_if_success (with_reducible show wpAny _ _ (exec (Stmt.Assign _ (Expr.ListComp _ _ _ _) _) _) _ _ _)); (fail_if_success (with_reducible show wpAny _ _ (eval (Expr.ListComp _ _ _ _) _) _ _ _)); (fail_if_success (with_reducible show CompTurned _ _ _ _ _ _ _ _ _ _ _ _)); first | (k_unfold; (try dsimp only)) | walk1 | (dsimp only; walk1)))
  refine compKS (vs := rvs) (fun K i ys k => ∀ (ok : Obj) (vv : Option Value) (tl : List (Addr × Obj)), ok.data = .cell vv → KeysIn tl ys ((rows.take i).map fun r => keyOf rp cols r.1 r.2) → @Ne Nat (L' + 1 + 1) K → @Ne Nat (L' + 1) K → (∀ p ∈ tl, p.1 ≠ K) → k ((K, ok) :: (L' + 1 + 1, o') :: (L' + 1, o2') :: tl)) rfl (by ktn_no "b_list") (by omega) (.inl (let ⟨o, e, _⟩ := Ir; ⟨o, e⟩)) F7 N1
    (fun K hK k hk => hk _ none [] rfl trivial (hK _ (.head _)) (hK _ (.tail _ (.head _))) (fun _ h => nomatch h)) (fun I j h v tk Q E1 _ _ q => wpAny_pure q) ?_ ?_
  · ((refine all3 ?_; generalize E3a _ _ _ _ = K, E3b _ _ _ _ = i, E3c _ _ _ _ = v; intro hv); (refine all4 ?_; generalize E4a _ _ _ _ _ = ys, E4b _ _ _ _ _ = ok, E4c _ _ _ _ _ = vv, E4d _ _ _ _ _ = tl; intro hok hks nk1 nk2 htl); (refine all8 ?_; generalize E8a _ _ _ _ _ _ _ _ _ = I, E8b _ _ _ _ _ _ _ _ _ = mC, E8c _ _ _ _ _ _ _ _ _ = h9, E8d _ _ _ _ _ _ _ _ _ = tk, E8e _ _ _ _ _ _ _ _ _ = oI, E8f _ _ _ _ _ _ _ _ _ = C, E8g _ _ _ _ _ _ _ _ _ = oC, E8h _ _ _ _ _ _ _ _ _ = D); (refine all1 ?_; generalize E1a _ _ = E1; intro F5 hoC N5 off5 ne5))
    clear N1 F7
    (refine ex2 (ex_pair (Iw.2 i v hv)) ?_; generalize X2a _ _ _ = rid, X2b _ _ _ = ds; refine cur2 ?_; intro hrow r91; refine ex4 (r91) ?_; generalize X4a _ _ _ _ _ = a9, X4b _ _ _ _ _ = lv9, X4c _ _ _ _ _ = tv9, X4d _ _ _ _ _ = vs9; refine cur4 ?_; intro z93_0 w1 w2 w3; subst z93_0)
    (generalize (hr2 (rid, ds) (List.mem_of_getElem? hrow)).1 = hd0, (hr2 (rid, ds) (List.mem_of_getElem? hrow)).2 = hd1)
    dsimp only at hd0 hd1 w1 w3
    refine comp_store_cell (by rfl) rfl F5 N5 off5 (List.forall_mem_cons.mpr ⟨nk1, List.forall_mem_cons.mpr ⟨nk2, htl⟩⟩) hok ?_
    ((refine all2 ?_; generalize E2a _ _ _ = h', E2b _ _ _ = ok'; intro hok' F6 N6))
    clear N5 F5
    refine tests_nilT ?_
    refine hide fun G99 hG99 => ?_
    have ⟨⟨y1, y2, y3⟩, ⟨y4, y5, y6⟩, ⟨y7, y8, y9⟩, offt⟩ := off5
    refine hG99 ?_
    clear hG99 G99
    (repeat' ((fail_if_success (ktn_no "stop")); (fail_if_success (with_reducible show wpAny _ _ (exec (Stmt.Assign _ (Expr.ListComp _ _ _ _) _) _) _ _ _)); (fail_if_success (with_reducible show wpAny _ _ (eval (Expr.ListComp _ _ _ _) _) _ _ _)); (fail_if_success (with_reducible show CompTurned _ _ _ _ _ _ _ _ _ _ _ _)); first | (k_unfold; (try dsimp only)) | walk1 | (dsimp only; walk1)))
    with_reducible rename Fr _ _ _ _ => F7
    with_reducible rename News _ _ _ _ => N7
    refine listComp_G F7 (by with_unfolding_all rfl) (by decide) rfl (by decide) ?_
    (repeat' ((fail_if_success (ktn_no "stop")); (fail_if_success (with_reducible show wpAny _ _ (exec (Stmt.Assign _ (Expr.ListComp _ _ _ _) _) _) _ _ _)); (fail_if_success (with_reducible show wpAny _ _ (eval (Expr.ListComp _ _ _ _) _) _ _ _)); (fail_if_success (with_reducible show CompTurned _ _ _ _ _ _ _ _ _ _ _ _)); first | ((with_reducible show wpAny _ _ (eval (PySem.Expr.Name _ _) (compEnvC _ _ _ _)) _ _ _); k_dflt (refine' eval_cell ?kf ?k ?c ?N ?m ?d ?_ ?db ?dc; (case kf => exact rfl); (case k => first | exact Or.inl rfl | exact Or.inr rfl); (case c => exact rfl); (case N => k_asm); (case m => k_mem); (case d => assumption); (case db => decide); (case dc => decide))) | (k_unfold; (try dsimp only)) | walk1 | (dsimp only; walk1)))
    refine compGS (vs := cvs) (fun i ys k => ValsAre ys ((cols.take i).map fun c => rowVal rp c.1 rid ds) → k _) rfl (by ktn_no "b_list") (by omega) (.inl (let ⟨o, e, _⟩ := i3; ⟨o, e⟩)) F7 N7 (fun k hk => hk trivial) (fun I j h v tk Q E1 _ _ q => wpAny_pure q) ?_ ?_
    · ((refine all2 ?_; generalize E2a _ _ _ = i2, E2b _ _ _ = v2; intro hv2); (refine all1 ?_; generalize E1a _ _ = ys2; intro hys); (refine all8 ?_; generalize E8a _ _ _ _ _ _ _ _ _ = I2, E8b _ _ _ _ _ _ _ _ _ = mC2, E8c _ _ _ _ _ _ _ _ _ = h8, E8d _ _ _ _ _ _ _ _ _ = tk8, E8e _ _ _ _ _ _ _ _ _ = oI2, E8f _ _ _ _ _ _ _ _ _ = C2, E8g _ _ _ _ _ _ _ _ _ = oC2, E8h _ _ _ _ _ _ _ _ _ = D2); (refine all1 ?_; generalize E1a _ _ = E2; intro F9 hoC2 N9 off2 ne2))
      clear N7 F7
      (refine ex1 (ColsAre.at i4 hv2) ?_; generalize X1a _ _ = c; refine cur2 ?_; intro hc9 r91; refine ex3 (r91) ?_; generalize X3a _ _ _ _ = a, X3b _ _ _ _ = ta, X3c _ _ _ _ = tb; refine cur2 ?_; intro z93_0 ia; subst z93_0)
      (generalize (hc2 c (List.mem_of_getElem? hc9)).1 = hcp0, (hc2 c (List.mem_of_getElem? hc9)).2 = hcp1)
      have hcp2 : c.1 < (ds.length : Int) := by omega
      refine comp_store rfl rfl F9 hoC2 N9 off2 ne2 ?_
      ((refine all3 ?_; generalize E3a _ _ _ _ = h'', E3b _ _ _ _ = oC'', E3c _ _ _ _ = m₂; intro F10 hoC'' hx6 hx7 N10))
      clear N9 F9 hoC2
      refine tests_nilT ?_
      (repeat' ((fail_if_success (ktn_no "stop")); (fail_if_success (with_reducible show wpAny _ _ (exec (Stmt.Assign _ (Expr.ListComp _ _ _ _) _) _) _ _ _)); (fail_if_success (with_reducible show wpAny _ _ (eval (Expr.ListComp _ _ _ _) _) _ _ _)); (fail_if_success (with_reducible show CompTurned _ _ _ _ _ _ _ _ _ _ _ _)); first | ((with_reducible show wpAny _ _ (PySem.call (Value.ref 608) _) _ _ _); k_dflt (refine useR (hp := by exact ⟨isTab_keep (by assumption) (Fr.keep (by assumption)), by ktn_no "b_tup", by ktn_no "b_list"⟩) (C := ct_value (by assumption) (by assumption) (by assumption) (by assumption)) (ret := ?_)); ((refine all3 ?_; ktn_no "g3"; intro _ _ _)); ktn_no "aft") | ((with_reducible show wpAny _ _ (eval (PySem.Expr.Name _ _) (compEnvC _ _ _ _)) _ _ _); k_dflt (refine' eval_cell ?kf ?k ?c ?N ?m ?d ?_ ?db ?dc; (case kf => exact rfl); (case k => first | exact Or.inl rfl | exact Or.inr rfl); (case c => exact rfl); (case N => k_asm); (case m => k_mem); (case d => assumption); (case db => decide); (case dc => decide))) | (k_unfold; (try dsimp only)) | walk1 | (dsimp only; walk1)))
      with_reducible rename IsVal _ _ => hv6
      with_reducible rename Fr _ _ _ _ => F7
      with_reducible rename News _ _ _ _ => N7
      exact CompTurned.intro _ F7 hoC'' N7 (fun p hp => hp) off2 fun k hk => hk (vals_step hc9 hys hv6)
    · ((refine all1 ?_; generalize E1a _ _ = ys2; intro hys); (refine all3 ?_; generalize E3a _ _ _ _ = D2, E3b _ _ _ _ = h8, E3c _ _ _ _ = tk8; intro F9 N9 off2))
      clear N7 F7
      (have z99 := hys; rw [hcl, List.take_length] at z99; try clear hys; have hys := z99; clear z99)
      have hyl := ValsAre.length hys
      (have z99 := hyl; rw [List.length_map] at z99; try clear hyl; have hyl := z99; clear z99)
      dsimp only [List.map] at off2
      (repeat' ((fail_if_success (ktn_no "stop")); (fail_if_success (with_reducible show wpAny _ _ (exec (Stmt.Assign _ (Expr.ListComp _ _ _ _) _) _) _ _ _)); (fail_if_success (with_reducible show wpAny _ _ (eval (Expr.ListComp _ _ _ _) _) _ _ _)); (fail_if_success (with_reducible show CompTurned _ _ _ _ _ _ _ _ _ _ _ _)); first | ((with_reducible show wpAny _ _ (eval (PySem.Expr.Name _ _) (compEnvC _ _ _ _)) _ _ _); k_dflt (refine' eval_cell ?kf ?k ?c ?N ?m ?d ?_ ?db ?dc; (case kf => exact rfl); (case k => first | exact Or.inl rfl | exact Or.inr rfl); (case c => exact rfl); (case N => k_asm); (case m => k_mem); (case d => assumption); (case db => decide); (case dc => decide))) | ((with_reducible show wpAny _ _ (binaryOp _ (Value.ref _) (Value.ref _)) _ _ _); k_dflt (refine' add_lst ?F ?N ?a ?b ?z ?_; (case F => k_asm); (case N => k_asm); (case a => ktn_no "b_list"); (case b => ktn_no "b_list"); (case z => ((try simp only [List.length_cons, List.length_nil, List.length_append]); ktn_no "om"))); (refine all2 ?_; generalize E2a _ _ _ = D', E2b _ _ _ = h'; intro F' N' l1); (try k_lt l1); (try k_sweep)) | (k_unfold; (try dsimp only)) | walk1 | (dsimp only; walk1)))
      with_reducible rename Fr _ _ _ _ => F7
      with_reducible rename News _ _ _ _ => N7
      refine' CompTurned.intro ((K, ok') :: (L' + 1 + 1, o') :: (L' + 1, o2') :: (D', PySem.W.listOf (List.toArray (ys2 ++ [.int rid tv9])) 0) :: tl) F7 hoC N7 ?sub ?off ?j
      case sub => ktn_no "subs"
      case off => exact ⟨⟨y1, y2, y3⟩, ⟨y4, y5, y6⟩, ⟨y7, y8, y9⟩, ⟨by k_ne, by k_ne, by k_ne⟩, offt⟩
      case j => exact fun k hk => hk ok' _ ((D', PySem.W.listOf (List.toArray (ys2 ++ [.int rid tv9])) 0) :: tl) hok' (keys_step hrow hks hys) nk1 nk2 (List.forall_mem_cons.mpr ⟨by k_ne, htl⟩)
  · ((refine all5 ?_; generalize E5a _ _ _ _ _ _ = K, E5b _ _ _ _ _ _ = ys, E5c _ _ _ _ _ _ = ok, E5d _ _ _ _ _ _ = vv, E5e _ _ _ _ _ _ = tl; intro hok hks nk1 nk2 htl); (refine all3 ?_; generalize E3a _ _ _ _ = D, E3b _ _ _ _ = h9, E3c _ _ _ _ = tk; intro F5 N5 off5))
    clear N1 F7
    dsimp only [List.map] at off5
    (repeat' ((fail_if_success (ktn_no "stop")); (fail_if_success (with_reducible show wpAny _ _ (exec (Stmt.Assign _ (Expr.ListComp _ _ _ _) _) _) _ _ _)); (fail_if_success (with_reducible show wpAny _ _ (eval (Expr.ListComp _ _ _ _) _) _ _ _)); (fail_if_success (with_reducible show CompTurned _ _ _ _ _ _ _ _ _ _ _ _)); first | (k_unfold; (try dsimp only)) | walk1 | (dsimp only; walk1)))
    with_reducible rename Fr _ _ _ _ => F8
    with_reducible rename News _ _ _ _ => N8
    (have z99 := hks; rw [hrl, List.take_length] at z99; try clear hks; have hks := z99; clear z99)
    exact back_intro F8 fun f k => hret _ _ _ f k ⟨D, ys, rfl, ⟨_, madeZ kg0 N8 (by k_mem), rfl, _, rfl⟩, hks.keys fun p hp => madeZ kg0 N8 (by repeat (first | exact hp | refine List.Mem.tail _ ?_))⟩
end
/-! ## NEQK -/
section
open PySem PySem.Spec PySem.Calls PySem.W PyProof.Rows PyProof.Rows.LCg
theorem valsAre_inj : ∀ {vs : List Value} {ds es : List Val}, ValsAre vs ds → ValsAre vs es → ds = es
  | [], [], [], _, _ => rfl
  | v :: vs, d :: ds, e :: es, ⟨h1, h2⟩, ⟨g1, g2⟩ => by
    have hd : d = e := by
      cases d with
      | none => cases h1; cases e with
        | none => rfl
        | some b => obtain ⟨u, q⟩ := g1; cases q
      | some a => obtain ⟨t, rfl⟩ := h1; cases e with
        | none => cases g1
        | some b => obtain ⟨u, q⟩ := g1; cases q; rfl
    rw [hd, valsAre_inj h2 g2]
/-- what == of two lists of values says -/
def eqVV : Value → Value → Bool
  | .none, .none => true
  | .int a _, .int b _ => a == b
  | _, _ => false
theorem eqVV_at {A : Around} {s : Shared} {y x : Value} {d e : Val} (hy : IsVal y d) (hx : IsVal x e) : PySem.SeqAt.EqAt A s y x (decide (d = e)) := by
  cases d with
  | none => cases hy; cases e with
    | none => cases hx; exact PySem.SeqAt.EqAt.same .none
    | some b => obtain ⟨u, rfl⟩ := hx; exact PySem.SeqAt.EqAt.none_int b u
  | some a => obtain ⟨t, rfl⟩ := hy; cases e with
    | none => cases hx; exact PySem.SeqAt.EqAt.int_none a t
    | some b =>
      obtain ⟨u, rfl⟩ := hx
      have := PySem.SeqAt.EqAt.int_int (A := A) (s := s) a t b u
      have e : (a == b) = decide ((some a : Val) = some b) := by
        by_cases h : a = b
        · subst h; simp
        · rw [decide_eq_false (by simpa using h)]; exact beq_eq_false_iff_ne.mpr h
      rwa [e] at this
/-- == of two key lists -/
theorem eqKey_at {A : Around} {s : Shared} {y x : Value} {ks es : List Val} (hu : A.units < cLine) (hy : KeyAre s.heap y ks) (hx : KeyAre s.heap x es) : PySem.SeqAt.EqAt A s y x (decide (ks = es)) := by
  refine hide fun G99 hG99 => ?_
  obtain ⟨l, ws, rfl, hl, hv⟩ := hy
  refine hG99 ?_
  clear hG99 G99
  refine hide fun G99 hG99 => ?_
  obtain ⟨b, us, rfl, hb, hw⟩ := hx
  refine hG99 ?_
  clear hG99 G99
  by_cases hne : l = b
  · subst hne
    have e : ws = us := by
      refine hide fun G99 hG99 => ?_
      obtain ⟨o, e1, c, n, d⟩ := hl
      refine hG99 ?_
      clear hG99 G99
      refine hide fun G99 hG99 => ?_
      obtain ⟨o', e2, c', n', d'⟩ := hb
      refine hG99 ?_
      clear hG99 G99
      rw [e1] at e2; cases e2
      rw [d] at d'
      injection d' with h1 h2
      exact congrArg Array.toList h1
    subst e
    rw [decide_eq_true (valsAre_inj hv hw)]
    exact PySem.SeqAt.EqAt.same _
  · refine PySem.SeqAt.EqAt.of_refs hne ?_
    by_cases hlen : ks.length = es.length
    · have h1 := ValsAre.length hv
      have h2 := ValsAre.length hw
      have R := PySem.SeqAt.RcAt.lists (A := A) (e := fun j => decide (ks[j]? = es[j]?)) hl hb (by rw [List.size_toArray, List.size_toArray, h1, h2, hlen]) hu fun j j1 j2 => by
        rw [List.size_toArray] at j1 j2
        obtain ⟨d, hd, vd⟩ := ValsAre.at hv (i := j) (List.getElem?_eq_getElem j1)
        obtain ⟨e, he, ve⟩ := ValsAre.at hw (i := j) (List.getElem?_eq_getElem j2)
        rw [hd, he]
        have := eqVV_at (A := A.in1) (s := s) vd ve
        have q : decide ((some d : Option Val) = some e) = decide (d = e) := by simp
        rw [q]
        simpa using this
      have q : ((List.range (ws.toArray).size).all fun j => decide (ks[j]? = es[j]?)) = decide (ks = es) := by
        rw [Bool.eq_iff_iff, List.all_eq_true, decide_eq_true_iff]
        constructor
        · intro h
          apply List.ext_getElem?
          intro j
          by_cases hj : j < ks.length
          · exact of_decide_eq_true (h j (List.mem_range.mpr (by rw [List.size_toArray, h1]; exact hj)))
          · rw [List.getElem?_eq_none (by omega), List.getElem?_eq_none (by omega)]
        · rintro rfl j _
          simp
      rw [q] at R
      exact R
    · have h1 := ValsAre.length hv
      have h2 := ValsAre.length hw
      rw [decide_eq_false (fun e => hlen (by rw [e]))]
      exact PySem.SeqAt.RcAt.lists_lengths hl hb (bne_iff_ne.mpr (by rw [List.size_toArray, List.size_toArray, h1, h2]; exact hlen)) hu
section
variable {prog : Program} {w : World} {A : Around} {E : Value → Shared → Prop} {s : Shared}
/-- `key not in keys`, `key in keys` -/
theorem anyKeys {A : Around} {s : Shared} {vs : List Value} {kss : List (List Val)} (K : KeysAre s.heap vs kss) (es : List Val) : ∃ e : Value → Bool, (∀ (i : Nat) (v : Value) (ks : List Val), vs[i]? = some v → kss[i]? = some ks → e v = decide (ks = es)) ∧ vs.any e = decide (es ∈ kss) := by
  classical
  refine ⟨fun v => decide (∃ (i : Nat) (ks : List Val), vs[i]? = some v ∧ kss[i]? = some ks ∧ ks = es), ?_, ?_⟩
  · intro i v ks h1 h2
    refine decide_eq_decide.mpr ⟨?_, fun h => ⟨i, ks, h1, h2, h⟩⟩
    intro hJ99
    refine hide fun G99 hG99 => ?_
    obtain ⟨j, ks', g1, g2, rfl⟩ := hJ99
    refine hG99 ?_
    clear hG99 G99
    refine hide fun G99 hG99 => ?_
    obtain ⟨q1, q1e, l, ws, e1, ⟨o, e2, c, n, d⟩, hv⟩ := K.2 i v h1
    refine hG99 ?_
    clear hG99 G99
    refine hide fun G99 hG99 => ?_
    obtain ⟨q2, q2e, l', ws', e1', ⟨o', e2', c', n', d'⟩, hv'⟩ := K.2 j v g1
    refine hG99 ?_
    clear hG99 G99
    rw [h2] at q1e; cases q1e
    rw [g2] at q2e; cases q2e
    rw [e1] at e1'; cases e1'
    rw [e2] at e2'; cases e2'
    rw [d] at d'
    injection d' with z1 z2
    have z3 : ws = ws' := congrArg Array.toList z1
    subst z3
    exact valsAre_inj hv hv'
  · rw [Bool.eq_iff_iff, List.any_eq_true, decide_eq_true_iff]
    constructor
    · rintro ⟨v, _, hd⟩
      refine hide fun G99 hG99 => ?_
      obtain ⟨i, ks, _, h2, rfl⟩ := of_decide_eq_true hd
      refine hG99 ?_
      clear hG99 G99
      exact List.mem_of_getElem? h2
    · intro hm
      obtain ⟨i, hi⟩ := List.getElem?_of_mem hm
      have hlt : i < vs.length := by rw [K.1]; exact (List.getElem?_eq_some_iff.mp hi).1
      exact ⟨vs[i], List.getElem_mem _, decide_eq_true ⟨i, es, List.getElem?_eq_getElem hlt, hi, rfl⟩⟩
theorem key_in {l : Addr} {vs : List Value} {kss : List (List Val)} {x : Value} {es : List Val} {Q : Value → Shared → Prop} (hu : A.units + 10 < cLine) (hl : s.heap.IsList l vs.toArray) (K : KeysAre s.heap vs kss) (hx : KeyAre s.heap x es) (h : Q (.bool (decide (es ∈ kss))) s) :
    wpAny (model prog w) A (compareOp .In x (.ref l)) Q E s := by
  obtain ⟨e, he, ha⟩ := anyKeys (A := A) K es
  refine PySem.SeqAt.in_listAt e hl (fun y hy => ?_) (by rw [List.any_toArray, ha]; exact h)
  obtain ⟨i, hi⟩ := List.getElem?_of_mem (by simpa using hy : y ∈ vs)
  obtain ⟨ks, hk, hy'⟩ := K.2 i y hi
  rw [he i y ks hi hk]
  exact eqKey_at (by rw [units_in1]; omega) hy' hx
theorem key_notin {l : Addr} {vs : List Value} {kss : List (List Val)} {x : Value} {es : List Val} {Q : Value → Shared → Prop} (hu : A.units + 10 < cLine) (hl : s.heap.IsList l vs.toArray) (K : KeysAre s.heap vs kss) (hx : KeyAre s.heap x es) (h : Q (.bool (!decide (es ∈ kss))) s) :
    wpAny (model prog w) A (compareOp .NotIn x (.ref l)) Q E s := by
  obtain ⟨e, he, ha⟩ := anyKeys (A := A) K es
  refine PySem.SeqAt.notIn_listAt e hl (fun y hy => ?_) (by rw [List.any_toArray, ha]; exact h)
  obtain ⟨i, hi⟩ := List.getElem?_of_mem (by simpa using hy : y ∈ vs)
  obtain ⟨ks, hk, hy'⟩ := K.2 i y hi
  rw [he i y ks hi hk]
  exact eqKey_at (by rw [units_in1]; omega) hy' hx
end
end
/-! ## NGL9 -/
section
open PySem PySem.Spec PySem.Calls PySem.W PyProof.Rows PyProof.Rows.LCg
local macro_rules | `(tactic| ktn_no "ep?") => `(tactic| skip)
section
variable {prog : Program} {w : World} {A : Around} {E : Value → Shared → Prop} {s : Shared}
theorem key_notin_t {l : Addr} {vs : List Value} {kss : List (List Val)} {x : Value} {es : List Val} {Q : Value → Shared → Prop} (hl : s.heap.IsList l vs.toArray) (K : KeysAre s.heap vs kss) (hx : KeyAre s.heap x es) (hm : es ∉ kss) (hu : A.units + 10 < cLine) (h : Q (.bool true) s) :
    wpAny (model prog w) A (compareOp .NotIn x (.ref l)) Q E s := key_notin hu hl K hx (by rw [decide_eq_false hm]; exact h)
theorem key_notin_f {l : Addr} {vs : List Value} {kss : List (List Val)} {x : Value} {es : List Val} {Q : Value → Shared → Prop} (hl : s.heap.IsList l vs.toArray) (K : KeysAre s.heap vs kss) (hx : KeyAre s.heap x es) (hm : es ∈ kss) (hu : A.units + 10 < cLine) (h : Q (.bool false) s) :
    wpAny (model prog w) A (compareOp .NotIn x (.ref l)) Q E s := key_notin hu hl K hx (by rw [decide_eq_true hm]; exact h)
end
def SameP (k1 k2 : List (List Val)) : Prop := k1.length = k2.length ∧ ∀ k ∈ k1, k ∈ k2
set_option maxHeartbeats 4000000 in
theorem ct_same {w : World} {mean mg mb} {l1 l2 : Addr} {vs1 vs2 : List Value} {kss1 kss2 : List (List Val)} (hl1 : kss1.length ≤ 10) (hl2 : kss2.length ≤ 10) : Tell w mean mg mb 632 6 [.ref l1, .ref l2] [] (fun h => h.IsList l1 (List.toArray vs1) ∧ KeysAre h vs1 kss1 ∧ h.IsList l2 (List.toArray vs2) ∧ KeysAre h vs2 kss2) (fun h r h' => ∃ b, r = .bool b ∧ (b = true ↔ SameP kss1 kss2)) := by
  revert w mean mg mb l1 l2 vs1 vs2 kss1 kss2 hl1 hl2
  ((refine @all8 _ _ _ _ _ _ _ _ (by ktn_no "ne") (by ktn_no "ne") (by ktn_no "ne") (by ktn_no "ne") (by ktn_no "ne") (by ktn_no "ne") (by ktn_no "ne") (by ktn_no "ne") _ ?_; generalize E8a _ _ _ _ _ _ _ _ _ = w, E8b _ _ _ _ _ _ _ _ _ = mean, E8c _ _ _ _ _ _ _ _ _ = mg, E8d _ _ _ _ _ _ _ _ _ = mb, E8e _ _ _ _ _ _ _ _ _ = l1, E8f _ _ _ _ _ _ _ _ _ = l2, E8g _ _ _ _ _ _ _ _ _ = vs1, E8h _ _ _ _ _ _ _ _ _ = vs2); (refine @all2 _ _ (by ktn_no "ne") (by ktn_no "ne") _ ?_; generalize E2a _ _ _ = kss1, E2b _ _ _ = kss2; intro hl1 hl2))
  (refine tell_in _ _ _ _ _ _ _ _ _ _ ?_; k_fill; generalize TX.dp (tx _ _ _ _ _ _ _ _ _ _) = dp, TX.un (tx _ _ _ _ _ _ _ _ _ _) = un, TX.gd (tx _ _ _ _ _ _ _ _ _ _) = gd, TX.cn (tx _ _ _ _ _ _ _ _ _ _) = cn, TX.cs (tx _ _ _ _ _ _ _ _ _ _) = cs, TX.a (tx _ _ _ _ _ _ _ _ _ _) = a, TX.ccd (tx _ _ _ _ _ _ _ _ _ _) = ccd, TX.cl (tx _ _ _ _ _ _ _ _ _ _) = cl, TX.outer (tx _ _ _ _ _ _ _ _ _ _) = outer, TX.A₀ (tx _ _ _ _ _ _ _ _ _ _) = A₀, TX.base (tx _ _ _ _ _ _ _ _ _ _) = base, TX.h₀ (tx _ _ _ _ _ _ _ _ _ _) = h₀, TX.L (tx _ _ _ _ _ _ _ _ _ _) = L, TX.m (tx _ _ _ _ _ _ _ _ _ _) = m, TX.s (tx _ _ _ _ _ _ _ _ _ _) = s, TX.Q (tx _ _ _ _ _ _ _ _ _ _) = Q, TX.E (tx _ _ _ _ _ _ _ _ _ _) = E; intro B F X N T hk hpre hd hu hret)
  (refine cur4 ?_ (hpre); intro p1 p2 p3 p4)
  ktr_enter
  rename KeepB _ _ _ => kg0
  have kk : ∀ b o, s.heap.get? b = some o → _ := fun b o e => kg0 b o e (by simp)
  have I1 := isList_base kg0 p1
  have I2 := isList_base kg0 p3
  have K1 := keysAre_keep p2 kk
  have K2 := keysAre_keep p4 kk
  have hv1 := K1.1
  have hv2 := K2.1
  by_cases hlen : kss1.length = kss2.length
  · (repeat' ((fail_if_success (ktn_no "stop")); first | (k_unfold; (try dsimp only)) | walk1 | (dsimp only; walk1)))
    refine forA ?_
    (repeat' ((fail_if_success (ktn_no "stop")); first | (k_unfold; (try dsimp only)) | walk1 | (dsimp only; walk1)))
    with_reducible rename Fr _ _ _ _ => F2
    with_reducible rename News _ _ _ _ => N2
    refine iterAS (fun i k9 => ∀ (m : Str → Option Value), (∀ (j : Nat) (ks : List Val), j < i → kss1[j]? = some ks → ks ∈ kss2) → k9 (over [(Str.ofString "one", (.ref l1)), (Str.ofString "other", (.ref l2))] m) []) rfl (by ktn_no "b_list") (.inl (let ⟨o, e, _⟩ := I1; ⟨o, e⟩)) (fr_over' (es := [(Str.ofString "one", _), (Str.ofString "other", _)]) F2 ⟨rfl, rfl, trivial⟩) N2 (fun _ k9 => k9 _ (fun j ks h => absurd h (Nat.not_lt_zero j))) ?_ ?_
    · clear F2 N2
      ((refine all2 ?_; generalize E2a _ _ _ = i, E2b _ _ _ = v; intro hv); (refine all1 ?_; generalize E1a _ _ = m₁; intro hj); (refine all4 ?_; generalize E4a _ _ _ _ _ = h9, E4b _ _ _ _ _ = tk, E4c _ _ _ _ _ = I, E4d _ _ _ _ _ = o; intro F6 N5 hI))
      (refine ex1 (K1.2 i v hv) ?_; generalize X1a _ _ = ks; refine cur2 ?_; intro hk r91; refine ex2 (r91) ?_; generalize X2a _ _ _ = l9, X2b _ _ _ = ws9; refine cur3 ?_; intro z93_0 il9 hv9; subst z93_0)
      refine wpAny_assign_Name ?_
      by_cases hm : ks ∈ kss2
      · (repeat' ((fail_if_success (ktn_no "stop")); first | ((with_reducible show wpAny _ _ (compareOp CmpOp.NotIn (Value.ref _) (Value.ref _)) _ _ _); (first | (k_dflt (refine' key_notin_t ?l ?K ?x ?m ?u ?_; (case l => ktn_no "b_list"); (case K => exact keysAre_keep (by assumption) (Fr.keep (by assumption))); (case x => exact ⟨_, _, rfl, by ktn_no "b_list", by assumption⟩); (case m => assumption); (case u => ktr_units))) | (k_dflt (refine' key_notin_f ?l ?K ?x ?m ?u ?_; (case l => ktn_no "b_list"); (case K => exact keysAre_keep (by assumption) (Fr.keep (by assumption))); (case x => exact ⟨_, _, rfl, by ktn_no "b_list", by assumption⟩); (case m => assumption); (case u => ktr_units))))) | (k_unfold; (try dsimp only)) | walk1 | (dsimp only; walk1)))
        with_reducible rename Fr _ _ _ _ => F7
        with_reducible rename News _ _ _ _ => N7
        refine' Turned.next [] (fr_over' (es := [(Str.ofString "one", _), (Str.ofString "other", _)]) F7 ⟨rfl, rfl, trivial⟩) N7 ?mI ?mem ?ne ?J
        case mI => k_mem
        case mem => intro p hp; cases hp
        case ne => intro p hp; cases hp
        case J =>
          refine fun _ k9 => k9 _ (fun j ks' hj' hk' => ?_)
          rcases Nat.lt_succ_iff_lt_or_eq.mp hj' with z | z
          · exact hj j ks' z hk'
          · subst z; rw [hk] at hk'; cases hk'; exact hm
      · (repeat' ((fail_if_success (ktn_no "stop")); first | ((with_reducible show wpAny _ _ (compareOp CmpOp.NotIn (Value.ref _) (Value.ref _)) _ _ _); (first | (k_dflt (refine' key_notin_t ?l ?K ?x ?m ?u ?_; (case l => ktn_no "b_list"); (case K => exact keysAre_keep (by assumption) (Fr.keep (by assumption))); (case x => exact ⟨_, _, rfl, by ktn_no "b_list", by assumption⟩); (case m => assumption); (case u => ktr_units))) | (k_dflt (refine' key_notin_f ?l ?K ?x ?m ?u ?_; (case l => ktn_no "b_list"); (case K => exact keysAre_keep (by assumption) (Fr.keep (by assumption))); (case x => exact ⟨_, _, rfl, by ktn_no "b_list", by assumption⟩); (case m => assumption); (case u => ktr_units))))) | (k_unfold; (try dsimp only)) | walk1 | (dsimp only; walk1)))
        dsimp only [Turned]
        exact back_intro (by assumption) fun f k => hret _ _ _ f k ⟨false, rfl, by simp; exact fun h => hm (h.2 ks (List.mem_of_getElem? hk))⟩
    · clear F2 N2
      ((refine all1 ?_; generalize E1a _ _ = m₁; intro hj); (refine all2 ?_; generalize E2a _ _ _ = h9, E2b _ _ _ = tk; intro F5 N5))
      (repeat' ((fail_if_success (ktn_no "stop")); first | (k_unfold; (try dsimp only)) | walk1 | (dsimp only; walk1)))
      exact back_intro (by assumption) fun f k => hret _ _ _ f k ⟨true, rfl, by
        simp only [true_iff]
        refine ⟨hlen, fun ks hks => ?_⟩
        (refine ex1 (List.getElem?_of_mem hks) ?_; generalize X1a _ _ = j; intro hj')
        exact hj j ks (by rw [hv1]; exact (List.getElem?_eq_some_iff.mp hj').1) hj'⟩
  · (repeat' ((fail_if_success (ktn_no "stop")); first | (k_unfold; (try dsimp only)) | walk1 | (dsimp only; walk1)))
    exact back_intro (by assumption) fun f k => hret _ _ _ f k ⟨false, rfl, by simp; exact fun h => hlen h.1⟩
end
/-! ## NGL5 -/
section
open PySem PySem.Spec PySem.Calls PySem.W PyProof.Rows PyProof.Rows.LCg
local macro_rules | `(tactic| ktn_no "ep?") => `(tactic| skip)
section
variable {prog : Program} {w : World} {A : Around} {E : Value → Shared → Prop} {s : Shared}
theorem item_menu {value slice : Expr} {a : Addr} {l : List Value} {k : Int} {u : Tok} {Q : Value → Shared → Prop} (hl : s.heap.IsList a l.toArray) (h0 : 0 ≤ k) (h1 : k < (l.length : Int)) (hz : l.length ≤ 1000) (h : ∀ x, x ∈ l → Q x s)
    (hs : subscripted slice false (.ref a) (.int k u) = operate [.ref a, .int k u] (getItem (.ref a) (.int k u))) : wpAny (model prog w) A (subscriptTail value slice (.ref a) (.int k u)) Q E s :=
  tail_any hl.typeIs list_getitem_lookup (wpAny_getItem_list hl h0 (by omega) (x := l[k.toNat]'(by omega)) (by rw [List.getElem?_toArray]; exact List.getElem?_eq_getElem _) (h _ (List.getElem_mem _))) hs
end
def MenuOK (d : Val) : Prop := d = none ∨ ∃ x : Int, d = some x ∧ 0 ≤ x ∧ x ≤ 4
theorem menu_val {v : Value} {t0 t1 t2 t3 : Tok} (h : v ∈ [Value.none, .int 0 t0, .int 1 t1, .int 2 t2, .int 2 t3]) : ∃ d, IsVal v d ∧ MenuOK d := by
  (have z99 := h; simp only [List.mem_cons, List.not_mem_nil, or_false] at z99; try clear h; have h := z99; clear z99)
  rcases h with rfl | rfl | rfl | rfl | rfl
  · exact ⟨none, rfl, .inl rfl⟩
  · exact ⟨some 0, ⟨_, rfl⟩, .inr ⟨0, rfl, by decide, by decide⟩⟩
  · exact ⟨some 1, ⟨_, rfl⟩, .inr ⟨1, rfl, by decide, by decide⟩⟩
  · exact ⟨some 2, ⟨_, rfl⟩, .inr ⟨2, rfl, by decide, by decide⟩⟩
  · exact ⟨some 2, ⟨_, rfl⟩, .inr ⟨2, rfl, by decide, by decide⟩⟩
section
variable {prog : Program} {w : World} {A : Around} {E : Value → Shared → Prop} {s : Shared}
theorem ne_nil_t {l b : Addr} {vs : List Value} {Q : Value → Shared → Prop} (hl : s.heap.IsList l vs.toArray) (hb : s.heap.IsList b #[]) (hv : 0 < vs.length) (hu : A.units < cLine) (h : Q (.bool true) s) : wpAny (model prog w) A (compareOp .NotEq (.ref l) (.ref b)) Q E s :=
  cmp_ofNotEq (PySem.SeqAt.RcNeAt.lists_lengths hl hb (by rw [List.size_toArray]; exact bne_iff_ne.mpr (by show vs.length ≠ 0; omega)) hu prog w E Q h)
theorem ne_nil_f {l b : Addr} {Q : Value → Shared → Prop} (hl : s.heap.IsList l #[]) (hb : s.heap.IsList b #[]) (hu : A.units < cLine) (h : Q (.bool false) s) : wpAny (model prog w) A (compareOp .NotEq (.ref l) (.ref b)) Q E s :=
  cmp_ofNotEq (PySem.SeqAt.RcNeAt.lists (e := fun _ => true) hl hb rfl hu (fun j h1 => absurd h1 (Nat.not_lt_zero _)) prog w E Q h)
theorem item_last {value slice : Expr} {a : Addr} {vs : List Value} {x : Value} {u : Tok} {Q : Value → Shared → Prop} (hl : s.heap.IsList a (List.toArray (vs ++ [x]))) (hz : vs.length ≤ 1000) (h : Q x s)
    (hs : subscripted slice false (.ref a) (.int (-1) u) = operate [.ref a, .int (-1) u] (getItem (.ref a) (.int (-1) u))) : wpAny (model prog w) A (subscriptTail value slice (.ref a) (.int (-1) u)) Q E s :=
  tail_any hl.typeIs list_getitem_lookup (wpAny_getItem_list_neg hl (by decide) (by rw [List.size_toArray, List.length_append, List.length_singleton]; omega) (by decide) (by
    rw [List.size_toArray, List.length_append, List.length_singleton, List.getElem?_toArray]
    have e : ((-1 : Int) + ((vs.length + 1 : Nat) : Int)).toNat = vs.length := by omega
    rw [e, List.getElem?_append_right (Nat.le_refl _), Nat.sub_self]; rfl) h) hs
end
abbrev tupO (items : Array Value) : Obj := { cls := .type "tuple", data := .seq items }
/-- the rows, as the ledger bears them, the last one first -/
inductive RowsL : List (Addr × Obj) → List Value → List (Int × List Val) → Prop
  | nil : RowsL [] [] []
  | snoc {tl : List (Addr × Obj)} {vs : List Value} {rs : List (Int × List Val)} {a lv : Addr} {rid : Int} {t : Tok} {ws : List Value} {ds : List Val} {n : Nat} : RowsL tl vs rs → ValsAre ws ds → (∀ p ∈ tl, p.1 ≠ lv) → @Ne Nat a lv →
      RowsL ((a, tupO #[.int rid t, .ref lv]) :: (lv, PySem.W.listOf (List.toArray ws) n) :: tl) (vs ++ [.ref a]) (rs ++ [(rid, ds)])
theorem off1_mem {D : Addr} : ∀ {l : List (Addr × Obj)}, PyProof.Rows.LCg.Off1 D l → ∀ p ∈ l, p.1 ≠ D
  | [], _, _, h => nomatch h
  | _ :: _, x, p, h => by
    rcases List.mem_cons.mp h with rfl | h
    · exact x.1
    · exact off1_mem x.2 p h
theorem RowsL.length {tl : List (Addr × Obj)} {vs : List Value} {rs : List (Int × List Val)} (h : RowsL tl vs rs) : vs.length = rs.length := by
  induction h with
  | nil => rfl
  | snoc _ _ _ _ ih => rw [List.length_append, List.length_append, ih]; rfl
theorem RowsL.rows {h : Heap} {tl : List (Addr × Obj)} {vs : List Value} {rs : List (Int × List Val)} (x : RowsL tl vs rs) (hg : ∀ p ∈ tl, h.get? p.1 = some p.2) : RowsAre h vs rs := by
  refine ⟨x.length, ?_⟩
  induction x with
  | nil => intro i v e; simp at e
  | @snoc tl vs rs a lv rid t ws ds n x hv _ _ ih =>
    intro i v e
    have hl := x.length
    by_cases hi : i < vs.length
    · (have z99 := e; rw [List.getElem?_append_left hi] at z99; try clear e; have e := z99; clear z99)
      obtain ⟨r, hr, ra⟩ := ih (fun p hp => hg p (.tail _ (.tail _ hp))) i v e
      exact ⟨r, by rw [List.getElem?_append_left (by omega)]; exact hr, ra⟩
    · have hi2 : i = vs.length := by
        have := (List.getElem?_eq_some_iff.mp e).1
        (have z99 := this; rw [List.length_append, List.length_singleton] at z99; try clear this; have this := z99; clear z99)
        omega
      subst hi2
      (have z99 := e; rw [List.getElem?_append_right (Nat.le_refl _), Nat.sub_self] at z99; try clear e; have e := z99; clear z99)
      cases e
      refine ⟨(rid, ds), by rw [hl, List.getElem?_append_right (Nat.le_refl _), Nat.sub_self]; rfl, a, lv, t, ws, rfl, ⟨_, hg _ (.head _), rfl, _, rfl⟩, ⟨_, hg _ (.tail _ (.head _)), rfl, _, rfl⟩, hv⟩
theorem rows_last {h : Heap} {tl : List (Addr × Obj)} {vs : List Value} {rs : List (Int × List Val)} {a lv : Addr} {rid : Int} {t : Tok} {ws : List Value} {ds : List Val} {n : Nat} (x : RowsL tl vs rs) (hg : ∀ p ∈ tl, h.get? p.1 = some p.2) (e1 : h.get? a = some (tupO #[.int rid t, .ref lv])) (e2 : h.get? lv = some (PySem.W.listOf (List.toArray ws) n)) (hv : ValsAre ws ds) (h1 : ∀ p ∈ tl, p.1 ≠ lv) (h2 : @Ne Nat a lv) : RowsAre h (vs ++ [.ref a]) (rs ++ [(rid, ds)]) :=
  (RowsL.snoc x hv h1 h2).rows (List.forall_mem_cons.mpr ⟨e1, List.forall_mem_cons.mpr ⟨e2, hg⟩⟩)
def RowGood (i : Nat) (r : Int × List Val) : Prop := 3 * (i : Int) ≤ r.1 ∧ r.1 ≤ 3 * (i : Int) + 1 ∧ 3 ≤ r.2.length ∧ r.2.length ≤ 4 ∧ ∀ d ∈ r.2, MenuOK d
def RowsGood (rs : List (Int × List Val)) : Prop := ∀ (i : Nat) (r : Int × List Val), rs[i]? = some r → RowGood i r
theorem RowsGood.snoc {rs : List (Int × List Val)} {r : Int × List Val} (h : RowsGood rs) (hr : RowGood rs.length r) : RowsGood (rs ++ [r]) := by
  intro i q e
  by_cases hi : i < rs.length
  · rw [List.getElem?_append_left hi] at e; exact h i q e
  · have hi2 : i = rs.length := by
      have := (List.getElem?_eq_some_iff.mp e).1
      (have z99 := this; rw [List.length_append, List.length_singleton] at z99; try clear this; have this := z99; clear z99)
      omega
    subst hi2
    (have z99 := e; rw [List.getElem?_append_right (Nat.le_refl _), Nat.sub_self] at z99; try clear e; have e := z99; clear z99)
    cases e; exact hr
theorem RowsGood.init {rs : List (Int × List Val)} {r : Int × List Val} (h : RowsGood (rs ++ [r])) : RowsGood rs ∧ RowGood rs.length r :=
  ⟨fun i q e => h i q (by rw [List.getElem?_append_left (List.getElem?_eq_some_iff.mp e).1]; exact e), h rs.length r (by rw [List.getElem?_append_right (Nat.le_refl _), Nat.sub_self]; rfl)⟩
theorem draw_five {d : Int} (h0 : 0 ≤ d) (h1 : d < 6) : ∃ nn : Nat, d = (nn : Int) ∧ nn ≤ 5 := ⟨d.toNat, by omega, by omega⟩
theorem menu_snoc {ds : List Val} {x : Val} (hdm : ∀ d ∈ ds, MenuOK d) (hm : MenuOK x) : ∀ d ∈ ds ++ [x], MenuOK d := by
  intro d hd
  rcases List.mem_append.mp hd with hd | hd
  · exact hdm d hd
  · rcases List.mem_singleton.mp hd with rfl
    exact hm
theorem rows3_snoc {rs : List (Int × List Val)} {x : Int} {ds : List Val} (hr3 : ∀ r ∈ rs, r.2.length = 3) (hdl : ds.length = 3) : ∀ r ∈ rs ++ [(x, ds)], r.2.length = 3 := by
  intro r hr9
  rcases List.mem_append.mp hr9 with hr9 | hr9
  · exact hr3 r hr9
  · rcases List.mem_singleton.mp hr9 with rfl
    exact hdl
theorem good_snoc {rs : List (Int × List Val)} {i : Nat} {d : Int} {ds : List Val} (hrg : RowsGood rs) (hrn : rs.length = i) (h0 : 0 ≤ d) (h1 : d < 2) (hdl : ds.length = 3) (hdm : ∀ d ∈ ds, MenuOK d) : RowsGood (rs ++ [(3 * (i : Int) + d, ds)]) := hrg.snoc (by
  rw [hrn]
  refine ⟨?_, ?_, ?_, ?_, hdm⟩
  · dsimp only; omega
  · dsimp only; omega
  · dsimp only; omega
  · dsimp only; omega)
theorem RowsL.elim {tl : List (Addr × Obj)} {vs : List Value} {rs : List (Int × List Val)} {G : Prop} (h : RowsL tl vs rs) (h0 : tl = [] → vs = [] → rs = [] → G)
    (h1 : ∀ (tl' : List (Addr × Obj)) (vs' : List Value) (rs' : List (Int × List Val)) (a lv : Addr) (rid : Int) (t : Tok) (ws : List Value) (ds : List Val) (n : Nat), RowsL tl' vs' rs' → ValsAre ws ds → (∀ p ∈ tl', p.1 ≠ lv) → @Ne Nat a lv →
      tl = (a, tupO #[.int rid t, .ref lv]) :: (lv, PySem.W.listOf (List.toArray ws) n) :: tl' → vs = vs' ++ [.ref a] → rs = rs' ++ [(rid, ds)] → G) : G := by
  cases h with
  | nil => exact h0 rfl rfl rfl
  | snoc x1 x2 x3 x4 => exact h1 _ _ _ _ _ _ _ _ _ _ x1 x2 x3 x4 rfl rfl rfl
theorem good_more {rs : List (Int × List Val)} {rid : Int} {ds : List Val} (hgi : RowsGood rs ∧ RowGood rs.length (rid, ds)) (hd3 : ds.length = 3) : RowsGood (rs ++ [(rid, ds ++ [some 4])]) := by
  refine hgi.1.snoc ⟨hgi.2.1, hgi.2.2.1, ?_, ?_, ?_⟩
  · rw [List.length_append, hd3]; decide
  · rw [List.length_append, hd3]; decide
  · intro d hd
    rcases List.mem_append.mp hd with hd | hd
    · exact hgi.2.2.2.2.2 d hd
    · rcases List.mem_singleton.mp hd with rfl
      exact .inr ⟨4, rfl, by decide, by decide⟩
theorem len_snoc {α : Type} {l : List α} {x : α} {n k : Nat} (h : l.length + 1 = n) (z : n ≤ k) : (l ++ [x]).length ≤ k := by rw [List.length_append, List.length_singleton, h]; exact z
theorem len_front {α : Type} {l : List α} {x : α} {k : Nat} (h : (l ++ [x]).length ≤ k) : l.length ≤ k := by rw [List.length_append] at h; exact Nat.le_trans (Nat.le_add_right _ _) h
set_option maxHeartbeats 4000000 in
theorem ct_rows {w : World} {mean mg mb} {src : Addr} {o : Obj} (ho : SrcOK o) : Tell w mean mg mb 601 8 [.ref src] [(src, o)] (fun _ => True) (fun h r h' => ∃ a rvs rows o', r = .ref a ∧ h'.get? src = some o' ∧ SrcOK o' ∧ (newOf h h').IsList a (List.toArray rvs) ∧ RowsAre (newOf h h') rvs rows ∧ rows.length ≤ 5 ∧ RowsGood rows) := by
  revert w mean mg mb src o ho
  ((refine @all6 _ _ _ _ _ _ (by ktn_no "ne") (by ktn_no "ne") (by ktn_no "ne") (by ktn_no "ne") (by ktn_no "ne") (by ktn_no "ne") _ ?_; generalize E6a _ _ _ _ _ _ _ = w, E6b _ _ _ _ _ _ _ = mean, E6c _ _ _ _ _ _ _ = mg, E6d _ _ _ _ _ _ _ = mb, E6e _ _ _ _ _ _ _ = src, E6f _ _ _ _ _ _ _ = o; intro ho))
  (refine tell_in _ _ _ _ _ _ _ _ _ _ ?_; k_fill; generalize TX.dp (tx _ _ _ _ _ _ _ _ _ _) = dp, TX.un (tx _ _ _ _ _ _ _ _ _ _) = un, TX.gd (tx _ _ _ _ _ _ _ _ _ _) = gd, TX.cn (tx _ _ _ _ _ _ _ _ _ _) = cn, TX.cs (tx _ _ _ _ _ _ _ _ _ _) = cs, TX.a (tx _ _ _ _ _ _ _ _ _ _) = a, TX.ccd (tx _ _ _ _ _ _ _ _ _ _) = ccd, TX.cl (tx _ _ _ _ _ _ _ _ _ _) = cl, TX.outer (tx _ _ _ _ _ _ _ _ _ _) = outer, TX.A₀ (tx _ _ _ _ _ _ _ _ _ _) = A₀, TX.base (tx _ _ _ _ _ _ _ _ _ _) = base, TX.h₀ (tx _ _ _ _ _ _ _ _ _ _) = h₀, TX.L (tx _ _ _ _ _ _ _ _ _ _) = L, TX.m (tx _ _ _ _ _ _ _ _ _ _) = m, TX.s (tx _ _ _ _ _ _ _ _ _ _) = s, TX.Q (tx _ _ _ _ _ _ _ _ _ _) = Q, TX.E (tx _ _ _ _ _ _ _ _ _ _) = E; intro B F X N T hk hpre hd hu hret)
  (refine wpAny_call ?_; k_dflt (refine' enterHC ?k1 ?k2 ?k3 ?k4 ?k5 ?kA ?kF ?kK ?k6 ?k7 ?k8 ?k9 ?kB ?kD ?_ ?c2 ?c3 ?c4; (case k1 => assumption); (case k2 => assumption); (case k3 => assumption); (case k4 => assumption); (case k5 => assumption); (case kA => exact rfl); (case kF => exact rfl); (case kK => assumption); (case k6 => k_is); (case k7 => k_is); (case k8 => ktr_room); (case k9 => first | exact BindsTo.of_eq rfl | exact binds_K (Frag.In.keeps (by assumption) (Fr.keep (by assumption))) rfl (by k_is) rfl rfl rfl); (case kB => exact rfl); (case kD => decide +kernel); (case c2 => exact rfl); (case c3 => exact rfl); (case c4 => exact rfl); k_whole; refine all5 ?_; generalize E5a _ _ _ _ _ _ = g', E5b _ _ _ _ _ _ = L', E5c _ _ _ _ _ _ = h', E5d _ _ _ _ _ _ = tk', E5e _ _ _ _ _ _ = cells'; intro kg' F' N' Y' B' X' T' l1; (try (replace l1 := allLt_of l1; dsimp only [AllLt] at l1)); refine ex1 (CellsAre.one Y') ?_; generalize X1a _ _ = o'; intro q9; generalize q9.1 = e9, q9.2 = d1'; subst e9; clear q9 Y'; (try simp only [List.cons_append, List.nil_append] at N'); (try dsimp only)))
  rename KeepB _ _ _ => kg0
  (repeat' ((fail_if_success (ktn_no "stop")); (fail_if_success (with_reducible show wpAny _ _ (exec (Stmt.Assign _ (Expr.ListComp _ _ _ _) _) _) _ _ _)); (fail_if_success (with_reducible show wpAny _ _ (eval (Expr.ListComp _ _ _ _) _) _ _ _)); (fail_if_success (with_reducible show CompTurned _ _ _ _ _ _ _ _ _ _ _ _)); first | (k_unfold; (try dsimp only)) | walk1 | (dsimp only; walk1)))
  refine forA ?_
  (repeat' ((fail_if_success (ktn_no "stop")); (fail_if_success (with_reducible show wpAny _ _ (exec (Stmt.Assign _ (Expr.ListComp _ _ _ _) _) _) _ _ _)); (fail_if_success (with_reducible show wpAny _ _ (eval (Expr.ListComp _ _ _ _) _) _ _ _)); (fail_if_success (with_reducible show CompTurned _ _ _ _ _ _ _ _ _ _ _ _)); first | ((with_reducible show wpAny _ _ (PySem.call (Value.ref 586) _) _ _ _); k_dflt (refine use_take (U := by intro o9; k_upd) (ret := ?_); ((refine all5 ?_; ktn_no "g5"; intro _ _ _ _ _))); ktn_no "aft") | (k_unfold; (try dsimp only)) | walk1 | (dsimp only; walk1)))
  rename_i lr _ _ _ d0 _ _ _ _ _ _ hd0 hd1 _ _ _ _ _ _ _ _ _ _
  with_reducible rename Fr _ _ _ _ => F8
  with_reducible rename News _ _ _ _ => N8
  with_reducible rename IsRange _ _ _ _ _ _ _ _ => hr
  with_reducible rename SrcOK _ => hs
  (refine ex1 (draw_five hd0 hd1) ?_; generalize X1a _ _ = nn; refine cur2 ?_; intro hnn hn2)
  subst hnn
  have ne1 : @Ne Nat lr (L' + 1) := by k_ne
  have ne2 : @Ne Nat lr src := by k_ne
  have ne3 : @Ne Nat (L' + 1) src := by k_ne
  refine iterRS (fun i k9 => ∀ (vs : List Value) (rs : List (Int × List Val)) (nr : Nat) (o2 : Obj) (tl : List (Addr × Obj)) (m : Str → Option Value), (SrcOK o2) → (RowsL tl vs rs) → (rs.length = i) → (RowsGood rs) → ((∀ r ∈ rs, r.2.length = 3)) → ((∀ p ∈ tl, p.1 ≠ src)) → ((∀ p ∈ tl, p.1 ≠ lr)) → ((∀ p ∈ tl, p.1 ≠ L' + 1)) → k9 (over [(Str.ofString "rows", (.ref lr))] m) ((lr, PySem.W.listOf (List.toArray vs) nr) :: (L' + 1, o') :: (src, o2) :: tl)) rfl hr (rsmall0 (by omega)) (rsize0 _) (fr_over' (es := [(Str.ofString "rows", _)]) F8 ⟨rfl, trivial⟩) N8 (fun _ k9 => k9 ([]) ([]) (_) (_) ([]) _ hs .nil rfl (fun i r e => by simp at e) (fun _ h => (nomatch h)) (fun _ h => (nomatch h)) (fun _ h => (nomatch h)) (fun _ h => (nomatch h))) ?_ ?_
  · clear F8 N8 hr
    ((refine all2 ?_; generalize E2a _ _ _ = i, E2b _ _ _ = tv; intro hlt); (refine all6 ?_; generalize E6a _ _ _ _ _ _ _ = vs, E6b _ _ _ _ _ _ _ = rs, E6c _ _ _ _ _ _ _ = nr, E6d _ _ _ _ _ _ _ = o2, E6e _ _ _ _ _ _ _ = tl, E6f _ _ _ _ _ _ _ = m₁; intro hs2 hrl hrn hrg hr3 htl htl2 htl3); (refine all4 ?_; generalize E4a _ _ _ _ _ = h9, E4b _ _ _ _ _ = tk, E4c _ _ _ _ _ = I, E4d _ _ _ _ _ = o; intro F6 N5 hI))
    rw [Int.zero_add]
    have n1 : @Ne Nat lr I := hI _ (.head _)
    have n2 : @Ne Nat (L' + 1) I := hI _ (.tail _ (.head _))
    have n3 : @Ne Nat src I := hI _ (.tail _ (.tail _ (.head _)))
    have htlI : ∀ p ∈ tl, p.1 ≠ I := fun p hp => hI p (.tail _ (.tail _ (.tail _ hp)))
    have hvl := hrl.length
    have hwl : vs.length ≤ 100 := by omega
    refine wpAny_assign_Name ?_
    (repeat' ((fail_if_success (ktn_no "stop")); (fail_if_success (with_reducible show wpAny _ _ (exec (Stmt.Assign _ (Expr.ListComp _ _ _ _) _) _) _ _ _)); (fail_if_success (with_reducible show wpAny _ _ (eval (Expr.ListComp _ _ _ _) _) _ _ _)); (fail_if_success (with_reducible show CompTurned _ _ _ _ _ _ _ _ _ _ _ _)); first | (k_unfold; (try dsimp only)) | walk1 | (dsimp only; walk1)))
    with_reducible rename Fr _ _ _ _ => F7
    refine listComp_AR (by exact rfl) (by with_unfolding_all rfl) rfl rfl F7 (by with_unfolding_all rfl) (by decide) rfl (by decide) ?_
    (repeat' ((fail_if_success (ktn_no "stop")); (fail_if_success (with_reducible show wpAny _ _ (exec (Stmt.Assign _ (Expr.ListComp _ _ _ _) _) _) _ _ _)); (fail_if_success (with_reducible show wpAny _ _ (eval (Expr.ListComp _ _ _ _) _) _ _ _)); (fail_if_success (with_reducible show CompTurned _ _ _ _ _ _ _ _ _ _ _ _)); first | (k_unfold; (try dsimp only)) | walk1 | (dsimp only; walk1)))
    with_reducible rename Fr _ _ _ _ => F7
    with_reducible rename News _ _ _ _ => N1
    with_reducible rename IsRange _ _ _ _ _ _ _ _ => hr
    refine compRS (nR := 3) (fun i ys k => ∀ (o3 : Obj) (ds : List Val), SrcOK o3 → ValsAre ys ds → ds.length = i → (∀ d ∈ ds, MenuOK d) → k ((I, o) :: (lr, PySem.W.listOf (List.toArray vs) nr) :: (L' + 1, o') :: (src, o3) :: tl)) rfl hr (by decide) (by decide) (by decide) F7 N1 (fun k hk => hk o2 [] hs2 trivial rfl (fun _ h => (nomatch h))) ?_ ?_
    · ((refine all2 ?_; generalize E2a _ _ _ = i2, E2b _ _ _ = t2; intro hi2); (refine all3 ?_; generalize E3a _ _ _ _ = ys, E3b _ _ _ _ = o3, E3c _ _ _ _ = ds; intro hs3 hys hdl hdm); (refine all8 ?_; generalize E8a _ _ _ _ _ _ _ _ _ = I2, E8b _ _ _ _ _ _ _ _ _ = mC, E8c _ _ _ _ _ _ _ _ _ = h9, E8d _ _ _ _ _ _ _ _ _ = tk, E8e _ _ _ _ _ _ _ _ _ = oI, E8f _ _ _ _ _ _ _ _ _ = C, E8g _ _ _ _ _ _ _ _ _ = oC, E8h _ _ _ _ _ _ _ _ _ = D); (refine all1 ?_; generalize E1a _ _ = E1; intro F5 hoC N5 off5 ne5))
      clear N1 F7 hr
      refine comp_store rfl rfl F5 hoC N5 off5 ne5 ?_
      ((refine all3 ?_; generalize E3a _ _ _ _ = h', E3b _ _ _ _ = oC', E3c _ _ _ _ = m₂; intro F6 hoC' hx6 hx7 N6))
      clear N5 F5 hoC
      refine hide fun G99 hG99 => ?_
      have ⟨⟨y1, y2, y3⟩, ⟨y4, y5, y6⟩, ⟨y7, y8, y9⟩, ⟨z1, z2, z3⟩, offt⟩ := off5
      refine hG99 ?_
      clear hG99 G99
      have htlI2 : ∀ p ∈ tl, p.1 ≠ I2 := fun p hp => (offt.mem p hp).1
      refine tests_nilT ?_
      (repeat' ((fail_if_success (ktn_no "stop")); (fail_if_success (with_reducible show wpAny _ _ (exec (Stmt.Assign _ (Expr.ListComp _ _ _ _) _) _) _ _ _)); (fail_if_success (with_reducible show wpAny _ _ (eval (Expr.ListComp _ _ _ _) _) _ _ _)); (fail_if_success (with_reducible show CompTurned _ _ _ _ _ _ _ _ _ _ _ _)); first | ((with_reducible show wpAny _ _ (subscriptTail _ _ (Value.ref _) (Value.int _ _)) _ _ _); k_dflt (refine' item_menu ?z ?a ?f ?h ?_ ?s; (case z => ktn_no "b_list"); (case a => assumption); (case f => (show _ < (5 : Int); assumption)); (case h => (simp; done)); (case s => with_unfolding_all rfl)); intro v9 hv9; (obtain ⟨d9, hvd9, hmd9⟩ := menu_val hv9); clear hv9) | ((with_reducible show wpAny _ _ (PySem.call (Value.ref 586) _) _ _ _); k_dflt (refine use_take (U := by intro o9; k_upd) (ret := ?_); ((refine all5 ?_; ktn_no "g5"; intro _ _ _ _ _))); ktn_no "aft") | (k_unfold; (try dsimp only)) | walk1 | (dsimp only; walk1)))
      with_reducible rename Fr _ _ _ _ => F7
      with_reducible rename News _ _ _ _ => N7
      with_reducible rename IsVal _ _ => hv6
      with_reducible rename MenuOK _ => hm6
      refine' CompTurned.intro ((I, o) :: (lr, PySem.W.listOf (List.toArray vs) nr) :: (L' + 1, o') :: (src, _) :: tl) F7 hoC' N7 ?sub ?off ?j
      case sub => ktn_no "subs"
      case off => exact ⟨⟨y1, y2, y3⟩, ⟨y4, y5, y6⟩, ⟨y7, y8, y9⟩, ⟨z1, z2, z3⟩, offt⟩
      case j => exact fun k hk => hk _ (ds ++ [_]) (by assumption) (valsAre_snoc hys hv6) (by rw [List.length_append, hdl]; rfl) (menu_snoc hdm hm6)
    · ((refine all3 ?_; generalize E3a _ _ _ _ = ys, E3b _ _ _ _ = o3, E3c _ _ _ _ = ds; intro hs3 hys hdl hdm); (refine all3 ?_; generalize E3a _ _ _ _ = D, E3b _ _ _ _ = h9, E3c _ _ _ _ = tk; intro F5 N5 off5))
      clear N1 F7 hr
      dsimp only [List.map] at off5
      (repeat' ((fail_if_success (ktn_no "stop")); (fail_if_success (with_reducible show wpAny _ _ (exec (Stmt.Assign _ (Expr.ListComp _ _ _ _) _) _) _ _ _)); (fail_if_success (with_reducible show wpAny _ _ (eval (Expr.ListComp _ _ _ _) _) _ _ _)); (fail_if_success (with_reducible show CompTurned _ _ _ _ _ _ _ _ _ _ _ _)); first | ((with_reducible show wpAny _ _ (PySem.call (Value.ref 586) _) _ _ _); k_dflt (refine use_take (U := by intro o9; k_upd) (ret := ?_); ((refine all5 ?_; ktn_no "g5"; intro _ _ _ _ _))); ktn_no "aft") | (k_unfold; (try dsimp only)) | walk1 | (dsimp only; walk1)))
      rename_i A9 _ _ _ _ _
      with_reducible rename Fr _ _ _ _ => F8
      with_reducible rename News _ _ _ _ => N8
      try simp only [List.push_toArray] at N8
      have hDtl : ∀ p ∈ tl, p.1 ≠ D := fun p hp => off5 _ (.tail _ (.tail _ (.tail _ (.tail _ (List.mem_map_of_mem hp)))))
      refine' Turned.next ((lr, PySem.W.listOf (List.toArray (vs ++ [Value.ref A9])) (nr + 1)) :: (L' + 1, o') :: (src, _) :: (A9, tupO #[.int (3 * (i : Int) + _) _, .ref D]) :: (D, PySem.W.listOf (List.toArray ys) ys.length) :: tl) (fr_over' (es := [(Str.ofString "rows", _)]) F8 ⟨rfl, trivial⟩) N8 ?mI ?mem ?ne ?J
      case mI => k_mem
      case mem => ktn_no "subs"
      case ne => exact List.forall_mem_cons.mpr ⟨n1, List.forall_mem_cons.mpr ⟨n2, List.forall_mem_cons.mpr ⟨n3, List.forall_mem_cons.mpr ⟨by k_ne, List.forall_mem_cons.mpr ⟨by k_ne, htlI⟩⟩⟩⟩⟩
      case J => exact fun _ k9 => k9 (vs ++ [.ref A9]) (rs ++ [(3 * (i : Int) + _, ds)]) (nr + 1) _ _ _ (by assumption) (.snoc hrl hys hDtl (by k_ne)) (by rw [List.length_append, hrn]; rfl) (good_snoc hrg hrn (by assumption) (by assumption) hdl hdm) (rows3_snoc hr3 hdl) (List.forall_mem_cons.mpr ⟨by k_ne, List.forall_mem_cons.mpr ⟨by k_ne, htl⟩⟩) (List.forall_mem_cons.mpr ⟨by k_ne, List.forall_mem_cons.mpr ⟨by k_ne, htl2⟩⟩) (List.forall_mem_cons.mpr ⟨by k_ne, List.forall_mem_cons.mpr ⟨by k_ne, htl3⟩⟩)
  · clear F8 N8 hr
    ((refine all6 ?_; generalize E6a _ _ _ _ _ _ _ = vs, E6b _ _ _ _ _ _ _ = rs, E6c _ _ _ _ _ _ _ = nr, E6d _ _ _ _ _ _ _ = o2, E6e _ _ _ _ _ _ _ = tl, E6f _ _ _ _ _ _ _ = m₁; intro hs2 hrl hrn hrg hr3 htl htl2 htl3); (refine all2 ?_; generalize E2a _ _ _ = h9, E2b _ _ _ = tk; intro F6 N5))
    have hvl := hrl.length
    have hwl : vs.length ≤ 100 := by omega
    refine RowsL.elim hrl ?_ ?_
    · (intro e1 e2 e3)
      subst e1
      subst e2
      subst e3
      (repeat' ((fail_if_success (ktn_no "stop")); (fail_if_success (with_reducible show wpAny _ _ (exec (Stmt.Assign _ (Expr.ListComp _ _ _ _) _) _) _ _ _)); (fail_if_success (with_reducible show wpAny _ _ (eval (Expr.ListComp _ _ _ _) _) _ _ _)); (fail_if_success (with_reducible show CompTurned _ _ _ _ _ _ _ _ _ _ _ _)); first | ((with_reducible show wpAny _ _ (compareOp CmpOp.NotEq (Value.ref _) (Value.ref _)) _ _ _); (first | (refine' ne_nil_f ?l ?b ?u ?_; (case l => ktn_no "b_list"); (case b => ktn_no "b_list"); (case u => ktr_units)) | (refine' ne_nil_t ?l ?b ?v ?u ?_; (case l => ktn_no "b_list"); (case b => ktn_no "b_list"); (case v => (simp; done)); (case u => ktr_units)))) | (k_unfold; (try dsimp only)) | walk1 | (dsimp only; walk1)))
      with_reducible rename Fr _ _ _ _ => F8
      with_reducible rename News _ _ _ _ => N8
      refine back_intro F8 fun f k => hret _ _ _ f k ⟨_, [], [], _, rfl, N8.get (by k_mem), hs2, ⟨_, madeX kg0 N8 (by k_mem) (by k_ne), rfl, _, rfl⟩, ⟨rfl, fun i v e => by simp at e⟩, by decide, fun i r e => by simp at e⟩
    · ((refine all8 ?_; generalize E8a _ _ _ _ _ _ _ _ _ = tl5, E8b _ _ _ _ _ _ _ _ _ = vs5, E8c _ _ _ _ _ _ _ _ _ = rs5, E8d _ _ _ _ _ _ _ _ _ = a, E8e _ _ _ _ _ _ _ _ _ = lv, E8f _ _ _ _ _ _ _ _ _ = rid, E8g _ _ _ _ _ _ _ _ _ = t, E8h _ _ _ _ _ _ _ _ _ = ws); (refine all2 ?_; generalize E2a _ _ _ = ds, E2b _ _ _ = n; intro hrl5 hws hlv hav e1 e2 e3))
      subst e1
      subst e2
      subst e3
      have hd3 : ds.length = 3 := hr3 (rid, ds) (List.mem_append_right _ (List.mem_singleton.mpr rfl))
      have hwsl := ValsAre.length hws
      have hwl2 : ws.length ≤ 100 := by omega
      have hgi := hrg.init
      have hvs1 : vs5.length ≤ 1000 := Nat.le_trans (len_front hwl) (by decide)
      (have z99 := hrn; rw [List.length_append, List.length_singleton] at z99; try clear hrn; have hrn := z99; clear z99)
      have n5 : @Ne Nat a src := htl _ (.head _)
      have n6 : @Ne Nat lv src := htl _ (.tail _ (.head _))
      have n7 : @Ne Nat a lr := htl2 _ (.head _)
      have n8 : @Ne Nat lv lr := htl2 _ (.tail _ (.head _))
      have htl' : ∀ p ∈ tl5, p.1 ≠ src := fun p hp => htl p (.tail _ (.tail _ hp))
      have n9 : @Ne Nat a (L' + 1) := htl3 _ (.head _)
      have n10 : @Ne Nat lv (L' + 1) := htl3 _ (.tail _ (.head _))
      have htl2' : ∀ p ∈ tl5, p.1 ≠ lr := fun p hp => htl2 p (.tail _ (.tail _ hp))
      (repeat' ((fail_if_success (ktn_no "stop")); (fail_if_success (with_reducible show wpAny _ _ (exec (Stmt.Assign _ (Expr.ListComp _ _ _ _) _) _) _ _ _)); (fail_if_success (with_reducible show wpAny _ _ (eval (Expr.ListComp _ _ _ _) _) _ _ _)); (fail_if_success (with_reducible show CompTurned _ _ _ _ _ _ _ _ _ _ _ _)); first | ((with_reducible show wpAny _ _ (subscriptTail (PySem.Expr.Name _ _) (PySem.Expr.UnaryOp _ _ _) (Value.ref _) (Value.int _ _)) _ _ _); (k_dflt (refine' item_last ?z ?a ?_ ?s; (case z => ktn_no "b_list"); (case a => assumption); (case s => with_unfolding_all rfl)))) | ((with_reducible show wpAny _ _ (compareOp CmpOp.NotEq (Value.ref _) (Value.ref _)) _ _ _); (first | (refine' ne_nil_f ?l ?b ?u ?_; (case l => ktn_no "b_list"); (case b => ktn_no "b_list"); (case u => ktr_units)) | (refine' ne_nil_t ?l ?b ?v ?u ?_; (case l => ktn_no "b_list"); (case b => ktn_no "b_list"); (case v => (simp; done)); (case u => ktr_units)))) | ((with_reducible show wpAny _ _ (PySem.call (Value.ref 586) _) _ _ _); k_dflt (refine use_take (U := by intro o9; k_upd) (ret := ?_); ((refine all5 ?_; ktn_no "g5"; intro _ _ _ _ _))); ktn_no "aft") | (k_unfold; (try dsimp only)) | walk1 | (dsimp only; walk1)))
      · with_reducible rename Fr _ _ _ _ => F8
        with_reducible rename News _ _ _ _ => N8
        try simp only [List.push_toArray] at N8
        exact back_intro F8 fun f k => hret _ _ _ f k ⟨_, _, rs5 ++ [(rid, ds ++ [some 4])], _, rfl, N8.get (by k_mem), by assumption, ⟨_, madeX kg0 N8 (by k_mem) (by k_ne), rfl, _, rfl⟩, rows_last hrl5 (madeX_all kg0 N8 (by intro p hp; repeat (first | exact hp | refine List.Mem.tail _ ?_)) htl') (madeX kg0 N8 (by k_mem) n5) (madeX kg0 N8 (by k_mem) n6) (valsAre_snoc hws ⟨_, rfl⟩) hlv hav, len_snoc hrn hn2, good_more hgi hd3⟩
      · with_reducible rename Fr _ _ _ _ => F8
        with_reducible rename News _ _ _ _ => N8
        try simp only [List.push_toArray] at N8
        exact back_intro F8 fun f k => hret _ _ _ f k ⟨_, _, rs5 ++ [(rid, ds)], _, rfl, N8.get (by k_mem), by assumption, ⟨_, madeX kg0 N8 (by k_mem) (by k_ne), rfl, _, rfl⟩, rows_last hrl5 (madeX_all kg0 N8 (by intro p hp; repeat (first | exact hp | refine List.Mem.tail _ ?_)) htl') (madeX kg0 N8 (by k_mem) n5) (madeX kg0 N8 (by k_mem) n6) hws hlv hav, len_snoc hrn hn2, hrg⟩
end
/-! ## NGL8 -/
section
open PySem PySem.Spec PySem.Calls PySem.W PyProof.Rows PyProof.Rows.LCg
local macro_rules | `(tactic| ktn_no "ep?") => `(tactic| skip)
/-- of h': what kp bears, and what is new since h -/
def withNew (kp h h' : Heap) : Heap := hideAll h' ((List.range h'.objs.size).filter fun b => (kp.get? b).isNone && (h.get? b).isSome)
theorem withNew_old {kp h h' : Heap} {b : Addr} {o o' : Obj} (e : h'.get? b = some o) (f : kp.get? b = some o') : (withNew kp h h').get? b = some o :=
  hideAll_get _ e fun hm => by have := (List.mem_filter.mp hm).2; rw [f] at this; simp at this
theorem withNew_new {kp h h' : Heap} {b : Addr} {o : Obj} (e : h'.get? b = some o) (f : h.get? b = none) : (withNew kp h h').get? b = some o :=
  hideAll_get _ e fun hm => by have := (List.mem_filter.mp hm).2; rw [f] at this; simp at this
theorem of_withNew {kp h h' : Heap} {b : Addr} {o : Obj} (e : (withNew kp h h').get? b = some o) : h'.get? b = some o ∧ ((∃ o', kp.get? b = some o') ∨ h.get? b = none) := by
  have e' : h'.get? b = some o := of_hideAll _ e
  refine ⟨e', ?_⟩
  cases q : kp.get? b with
  | some o' => exact .inl ⟨o', rfl⟩
  | none =>
    cases q2 : h.get? b with
    | none => exact .inr rfl
    | some o2 =>
      have hm : b ∈ (List.range h'.objs.size).filter fun b => (kp.get? b).isNone && (h.get? b).isSome := List.mem_filter.mpr ⟨List.mem_range.mpr (Heap.lt_size e'), by rw [q, q2]; rfl⟩
      unfold withNew at e
      rw [hideAll_none _ hm] at e; cases e
theorem hkl_of {kss : List (List Val)} {n : Nat} (h : ∀ ks ∈ kss, ks.length = n + 1) {i : Nat} {ks : List Val} (e : kss[i]? = some ks) : ks.length = n + 1 := h ks (List.mem_of_getElem? e)
theorem pick_uptoI {vs : List Value} {d : Int} (h : 0 ≤ d) : PySem.W.kms_pick vs none (some d) = vs.take d.toNat := by
  obtain ⟨n, rfl⟩ := Int.eq_ofNat_of_zero_le h
  exact pick_upto
theorem pick_fromN {vs : List Value} {n : Nat} : PySem.W.kms_pick vs (some ((n : Int) + 1)) none = vs.drop (n + 1) := by
  unfold PySem.W.kms_pick
  have e1 : PySem.W.kms_lo (some ((n : Int) + 1)) vs.length = min (n + 1) vs.length := by
    unfold PySem.W.kms_lo; simp; try omega
  have e2 : PySem.W.kms_hi none vs.length = vs.length := rfl
  rw [e1, e2]
  by_cases h : n + 1 ≤ vs.length
  · rw [Nat.min_eq_left h, List.take_of_length_le (by rw [List.length_drop]; exact Nat.le_refl _)]
  · rw [Nat.min_eq_right (by omega), List.drop_of_length_le (Nat.le_refl _), List.drop_of_length_le (by omega), List.take_nil]
theorem pick_fromI {vs : List Value} {d : Int} (h : 0 ≤ d) : PySem.W.kms_pick vs (some (d + 1)) none = vs.drop (d.toNat + 1) := by
  obtain ⟨n, rfl⟩ := Int.eq_ofNat_of_zero_le h
  exact pick_fromN
theorem pick_from1 {vs : List Value} : PySem.W.kms_pick vs (some 1) none = vs.drop 1 := by
  unfold PySem.W.kms_pick
  have e1 : PySem.W.kms_lo (some 1) vs.length = min 1 vs.length := by
    unfold PySem.W.kms_lo; simp; try omega
  have e2 : PySem.W.kms_hi none vs.length = vs.length := rfl
  rw [e1, e2]
  cases vs with
  | nil => rfl
  | cons v vs => simp
theorem freshX {g h h' : Heap} {L' : Addr} {news' : List (Addr × Obj)} {l d : Addr} {o o₁ : Obj} (kg : KeepB [(d, o)] h g) (N : News g L' h' news') (hm : (l, o₁) ∈ news') (hne : @Ne Nat l d) : h.get? l = none := by
  cases q : h.get? l with
  | none => rfl
  | some o' => have := N.fresh hm; rw [kg _ _ q (by simpa using hne)] at this; cases this
theorem wn_list {g h h' kp : Heap} {L' : Addr} {news' : List (Addr × Obj)} {l d : Addr} {o : Obj} {vs : List Value} {n : Nat} (kg : KeepB [(d, o)] h g) (N : News g L' h' news') (hm : (l, PySem.W.listOf (List.toArray vs) n) ∈ news') (hne : @Ne Nat l d) : (withNew kp h h').IsList l (List.toArray vs) :=
  ⟨_, withNew_new (N.get hm) (freshX kg N hm hne), rfl, _, rfl⟩
theorem keysAre_drop {h : Heap} {vs : List Value} {kss : List (List Val)} (K : KeysAre h vs kss) (n : Nat) : KeysAre h (vs.drop n) (kss.drop n) :=
  ⟨by rw [List.length_drop, List.length_drop, K.1], fun i v e => by rw [List.getElem?_drop] at e; obtain ⟨ks, hk, x⟩ := K.2 _ v e; exact ⟨ks, by rw [List.getElem?_drop]; exact hk, x⟩⟩
theorem keysAre_take {h : Heap} {vs : List Value} {kss : List (List Val)} (K : KeysAre h vs kss) (n : Nat) : KeysAre h (vs.take n) (kss.take n) :=
  ⟨by rw [List.length_take, List.length_take, K.1], fun i v e => by
    (have z99 := e; rw [List.getElem?_take] at z99; try clear e; have e := z99; clear z99)
    split at e
    · rename_i hi
      obtain ⟨ks, hk, x⟩ := K.2 _ v e
      exact ⟨ks, by rw [List.getElem?_take, if_pos hi]; exact hk, x⟩
    · cases e⟩
theorem keysAre_append {h : Heap} {vs ws : List Value} {kss lss : List (List Val)} (K : KeysAre h vs kss) (M : KeysAre h ws lss) : KeysAre h (vs ++ ws) (kss ++ lss) :=
  ⟨by rw [List.length_append, List.length_append, K.1, M.1], fun i v e => by
    by_cases hi : i < vs.length
    · (have z99 := e; rw [List.getElem?_append_left hi] at z99; try clear e; have e := z99; clear z99)
      obtain ⟨ks, hk, x⟩ := K.2 _ v e
      exact ⟨ks, by rw [List.getElem?_append_left (K.1 ▸ hi)]; exact hk, x⟩
    · (have z99 := e; rw [List.getElem?_append_right (by omega)] at z99; try clear e; have e := z99; clear z99)
      obtain ⟨ks, hk, x⟩ := M.2 _ v e
      exact ⟨ks, by rw [List.getElem?_append_right (by rw [← K.1]; omega), ← K.1]; exact hk, x⟩⟩
theorem keysAre_one {h : Heap} {l : Addr} {ws : List Value} {ks : List Val} (hl : h.IsList l (List.toArray ws)) (hv : ValsAre ws ks) : KeysAre h [.ref l] [ks] :=
  ⟨rfl, fun i v e => by
    cases i with
    | zero => cases e; exact ⟨ks, rfl, l, ws, rfl, hl, hv⟩
    | succ i => simp at e⟩
theorem valsAre_cons {v : Value} {d : Val} {vs : List Value} {ds : List Val} (h1 : IsVal v d) (h2 : ValsAre vs ds) : ValsAre ([v] ++ vs) (d :: ds) := ⟨h1, h2⟩
theorem valsAre_drop1 : ∀ {vs : List Value} {ds : List Val}, ValsAre vs ds → ValsAre (vs.drop 1) ds.tail
  | [], [], _ => trivial
  | _ :: _, _ :: _, h => h.2
def ones (n : Nat) : List Val := List.replicate n (some 1)
def BentOf (nc : Nat) (kss kss' : List (List Val)) : Prop :=
  kss' = kss.drop 1 ∨ kss' = kss ++ [ones (if kss = [] then 1 else nc) ++ [some 50]] ∨ (∃ (at' : Nat) (ks : List Val), kss[at']? = some ks ∧ kss' = kss.take at' ++ [some 7 :: ks.tail] ++ kss.drop (at' + 1)) ∨ kss' = kss
def cOf (nc : Nat) (kss : List (List Val)) : Nat := if kss = [] then 1 else nc
theorem cOf_12 {nc : Nat} (h0 : 1 ≤ nc) (h1 : nc ≤ 2) (kss : List (List Val)) : cOf nc kss = 1 ∨ cOf nc kss = 2 := by
  unfold cOf
  split
  · exact .inl rfl
  · omega
theorem cOf_max {n c : Nat} (e : n = c + 1) (h : c = 1 ∨ c = 2) : (if (n : Int) - 1 > 1 then (n : Int) - 1 else 1) = (c : Int) := by
  rcases h with rfl | rfl <;> (rw [e]; rfl)
theorem key_first {h : Heap} {vs : List Value} {kss : List (List Val)} {nc : Nat} {b : Addr} {y z : Value} (K : KeysAre h vs kss) (hkl : ∀ ks ∈ kss, ks.length = nc + 1) (hb : h.IsList b (List.toArray [y, z])) :
    ∃ l ws, (vs ++ [Value.ref b])[0]? = some (.ref l) ∧ h.IsList l (List.toArray ws) ∧ ws.length = cOf nc kss + 1 := by
  rcases vs with _ | ⟨v, vs⟩
  · have e : kss = [] := List.length_eq_zero_iff.mp K.1.symm
    exact ⟨b, _, rfl, hb, by unfold cOf; rw [if_pos e]; rfl⟩
  · obtain ⟨ks, hk, l, ws, e1, e2, e3⟩ := K.2 0 v rfl
    have hn : kss ≠ [] := by intro e; rw [e] at hk; cases hk
    exact ⟨l, ws, by rw [e1]; rfl, e2, by unfold cOf; rw [if_neg hn, ValsAre.length e3, hkl ks (List.mem_of_getElem? hk)]⟩
theorem vals_ones {t u : Tok} : ∀ c : Nat, ValsAre (List.replicate c (.int 1 t) ++ [.int 50 u]) (ones c ++ [some 50])
  | 0 => ⟨⟨_, rfl⟩, trivial⟩
  | c + 1 => ⟨⟨_, rfl⟩, vals_ones c⟩
section
variable {prog : Program} {w : World} {A : Around} {E : Value → Shared → Prop} {s : Shared}
theorem item_first {value slice : Expr} {a b : Addr} {vs : List Value} {kss : List (List Val)} {nc : Nat} {y z : Value} {u : Tok} {Q : Value → Shared → Prop} {g : Heap} {L' : Addr} {m' : Str → Option Value} (K : KeysAre g vs kss) (F : Fr g L' s.heap m') (hkl : ∀ ks ∈ kss, ks.length = nc + 1) (hb : s.heap.IsList b (List.toArray [y, z])) (hl : s.heap.IsList a (List.toArray (vs ++ [Value.ref b])))
    (hc : cOf nc kss = 1 ∨ cOf nc kss = 2)
    (h : ∀ l ws, s.heap.IsList l (List.toArray ws) → ws.length ≤ 100 → (if (ws.length : Int) - 1 > 1 then (ws.length : Int) - 1 else 1) = (cOf nc kss : Int) → Q (.ref l) s)
    (hs : subscripted slice false (.ref a) (.int 0 u) = operate [.ref a, .int 0 u] (getItem (.ref a) (.int 0 u))) : wpAny (model prog w) A (subscriptTail value slice (.ref a) (.int 0 u)) Q E s :=
  let ⟨l, ws, e, il, hw⟩ := key_first (keysAre_keep K F.keep) hkl hb
  tail_any hl.typeIs list_getitem_lookup (wpAny_getItem_list hl (by decide) (by decide) (by rw [List.getElem?_toArray]; exact e) (h l ws il (by omega) (cOf_max hw hc))) hs
theorem item_key {h' : Heap} {value slice : Expr} {a : Addr} {vs : List Value} {kss : List (List Val)} {nc : Nat} {k : Int} {u : Tok} {Q : Value → Shared → Prop} (K : KeysAre h' vs kss) (hkl : ∀ ks ∈ kss, ks.length = nc + 1) (hl : s.heap.IsList a (List.toArray vs)) (hn : nc ≤ 2)
    (h0 : 0 ≤ k) (h1 : k < (vs.length : Int)) (hz : vs.length ≤ 5)
    (h : ∀ l ws ks, h'.IsList l (List.toArray ws) → kss[k.toNat]? = some ks → ValsAre ws ks → ws.length ≤ 3 → Q (.ref l) s)
    (hs : subscripted slice false (.ref a) (.int k u) = operate [.ref a, .int k u] (getItem (.ref a) (.int k u))) : wpAny (model prog w) A (subscriptTail value slice (.ref a) (.int k u)) Q E s :=
  let ⟨ks, hk, l, ws, e1, e2, e3⟩ := K.2 k.toNat (vs[k.toNat]'(by omega)) (List.getElem?_eq_getElem _)
  tail_any hl.typeIs list_getitem_lookup (wpAny_getItem_list hl h0 (by omega) (x := .ref l) (by rw [List.getElem?_toArray, List.getElem?_eq_getElem (by omega), e1]) (h l ws ks e2 hk e3 (by rw [ValsAre.length e3, hkl ks (List.mem_of_getElem? hk)]; omega))) hs
theorem ne_nil_or {l b : Addr} {vs : List Value} {Q : Value → Shared → Prop} (hl : s.heap.IsList l vs.toArray) (hb : s.heap.IsList b #[]) (hu : A.units < cLine) (h1 : 0 < vs.length → Q (.bool true) s) (h2 : Q (.bool false) s) : wpAny (model prog w) A (compareOp .NotEq (.ref l) (.ref b)) Q E s := by
  rcases vs with _ | ⟨v, vs⟩
  · exact ne_nil_f hl hb hu h2
  · exact ne_nil_t hl hb (Nat.succ_pos _) hu (h1 (Nat.succ_pos _))
end
section
variable {prog : Program} {w : World} {A : Around} {E : Value → Shared → Prop} {s : Shared} {h₀ : Heap} {L : Addr} {m : Str → Option Value} {news : List (Addr × Obj)}
theorem mul_1 {l : Addr} {v : Value} {k : Nat} {x : Int} {u : Tok} {Q : Value → Shared → Prop} (hx : x = 1) (F : Fr h₀ L s.heap m) (N : News h₀ L s.heap news) (hm : (l, PySem.W.listOf #[v] k) ∈ news)
    (h : ∀ D h', Fr h₀ L h' m → News h₀ L h' ((D, PySem.W.listOf (List.toArray (List.replicate 1 v)) 0) :: news) → (∀ p ∈ news, p.1 < D) → Q (.ref D) { s with heap := h' }) : wpAny (model prog w) A (binaryOp .Mult (.ref l) (.int x u)) Q E s := by
  subst hx
  exact mul_list F N (N.get hm) (by decide) (by decide) (by show _ ≤ (16777216 : Nat); simp) fun h' F' N' => h _ h' F' N' fun p hp => Heap.lt_size (N p hp).1
theorem mul_2 {l : Addr} {v : Value} {k : Nat} {x : Int} {u : Tok} {Q : Value → Shared → Prop} (hx : x = 2) (F : Fr h₀ L s.heap m) (N : News h₀ L s.heap news) (hm : (l, PySem.W.listOf #[v] k) ∈ news)
    (h : ∀ D h', Fr h₀ L h' m → News h₀ L h' ((D, PySem.W.listOf (List.toArray (List.replicate 2 v)) 0) :: news) → (∀ p ∈ news, p.1 < D) → Q (.ref D) { s with heap := h' }) : wpAny (model prog w) A (binaryOp .Mult (.ref l) (.int x u)) Q E s := by
  subst hx
  exact mul_list F N (N.get hm) (by decide) (by decide) (by show _ ≤ (16777216 : Nat); simp) fun h' F' N' => h _ h' F' N' fun p hp => Heap.lt_size (N p hp).1
theorem mul_c {l : Addr} {v : Value} {k c : Nat} {x : Int} {u : Tok} {Q : Value → Shared → Prop} (hx : x = (c : Int)) (hc : c = 1 ∨ c = 2) (F : Fr h₀ L s.heap m) (N : News h₀ L s.heap news) (hm : (l, PySem.W.listOf #[v] k) ∈ news)
    (h : ∀ D h', Fr h₀ L h' m → News h₀ L h' ((D, PySem.W.listOf (List.toArray (List.replicate c v)) 0) :: news) → (∀ p ∈ news, p.1 < D) → Q (.ref D) { s with heap := h' }) : wpAny (model prog w) A (binaryOp .Mult (.ref l) (.int x u)) Q E s := by
  rcases hc with rfl | rfl
  · exact mul_1 hx F N hm h
  · exact mul_2 hx F N hm h
theorem slice_up {value slice : Expr} {l : Addr} {vs : List Value} {vl vu : Value} {d : Int} {ops : List Value} {Q : Value → Shared → Prop}
    (F : Fr h₀ L s.heap m) (N : News h₀ L s.heap news) (hl : s.heap.IsList l vs.toArray) (pl : IsPart vl none) (pu : IsPart vu (some d)) (h0 : 0 ≤ d)
    (h : ∀ D h', Fr h₀ L h' m → News h₀ L h' ((D, PySem.W.listOf (List.toArray (vs.take d.toNat)) 0) :: news) → (∀ p ∈ news, p.1 < D) → Q (.ref D) { s with heap := h' })
    (hs : subscripted slice false (.ref l) (.ref s.heap.objs.size) = operate ops (getItem (.ref l) (.ref s.heap.objs.size)))
    (hsz : vs.length ≤ 1000) :
    wpAny (model prog w) A (subscriptTail value slice (.ref l) (.ref s.heap.objs.size)) Q E { s with heap := s.heap.push { cls := .type "slice", data := .fields #[vl, vu, .none] } } :=
  slice_any F N hl pl pu (by rw [pick_uptoI h0]; exact h) hs hsz
theorem slice_fr {value slice : Expr} {l : Addr} {vs : List Value} {vl vu : Value} {d : Int} {ops : List Value} {Q : Value → Shared → Prop}
    (F : Fr h₀ L s.heap m) (N : News h₀ L s.heap news) (hl : s.heap.IsList l vs.toArray) (pl : IsPart vl (some (d + 1))) (pu : IsPart vu none) (h0 : 0 ≤ d)
    (h : ∀ D h', Fr h₀ L h' m → News h₀ L h' ((D, PySem.W.listOf (List.toArray (vs.drop (d.toNat + 1))) 0) :: news) → (∀ p ∈ news, p.1 < D) → Q (.ref D) { s with heap := h' })
    (hs : subscripted slice false (.ref l) (.ref s.heap.objs.size) = operate ops (getItem (.ref l) (.ref s.heap.objs.size)))
    (hsz : vs.length ≤ 1000) :
    wpAny (model prog w) A (subscriptTail value slice (.ref l) (.ref s.heap.objs.size)) Q E { s with heap := s.heap.push { cls := .type "slice", data := .fields #[vl, vu, .none] } } :=
  slice_any F N hl pl pu (by rw [pick_fromI h0]; exact h) hs hsz
theorem slice_1 {value slice : Expr} {l : Addr} {vs : List Value} {vl vu : Value} {ops : List Value} {Q : Value → Shared → Prop}
    (F : Fr h₀ L s.heap m) (N : News h₀ L s.heap news) (hl : s.heap.IsList l vs.toArray) (pl : IsPart vl (some 1)) (pu : IsPart vu none)
    (h : ∀ D h', Fr h₀ L h' m → News h₀ L h' ((D, PySem.W.listOf (List.toArray (vs.drop 1)) 0) :: news) → (∀ p ∈ news, p.1 < D) → Q (.ref D) { s with heap := h' })
    (hs : subscripted slice false (.ref l) (.ref s.heap.objs.size) = operate ops (getItem (.ref l) (.ref s.heap.objs.size)))
    (hsz : vs.length ≤ 1000) :
    wpAny (model prog w) A (subscriptTail value slice (.ref l) (.ref s.heap.objs.size)) Q E { s with heap := s.heap.push { cls := .type "slice", data := .fields #[vl, vu, .none] } } :=
  slice_any F N hl pl pu (by rw [pick_from1]; exact h) hs hsz
end
local macro_rules | `(tactic| ktn_no "sl") => `(tactic| ((with_reducible show wpAny _ _ (subscriptTail _ (PySem.Expr.Slice _ _ none _) (Value.ref _) (Value.ref _)) _ _ _); k_dflt (first | refine slice_1 (by k_asm) (by k_asm) (by ktn_no "b_list") (by kmk_part) (by kmk_part) ?_ (by with_unfolding_all rfl) (by (try simp only [List.length_cons]); ktn_no "om") | refine slice_up (by k_asm) (by k_asm) (by ktn_no "b_list") (by kmk_part) (by kmk_part) (by assumption) ?_ (by with_unfolding_all rfl) (by (try simp only [List.length_cons]); ktn_no "om") | refine slice_fr (by k_asm) (by k_asm) (by ktn_no "b_list") (by kmk_part) (by kmk_part) (by assumption) ?_ (by with_unfolding_all rfl) (by (try simp only [List.length_cons]); ktn_no "om")); ktn_no "k23"; (try k_sweep)))
set_option maxHeartbeats 4000000 in
theorem ct_bent {w : World} {mean mg mb} {src lk : Addr} {o : Obj} {kp : Heap} {vs : List Value} {kss : List (List Val)} {nc : Nat} (ho : SrcOK o) (hn0 : 1 ≤ nc) (hn1 : nc ≤ 2) (hl : kss.length ≤ 5) (hkl : ∀ ks ∈ kss, ks.length = nc + 1) : Tell w mean mg mb 620 6 [.ref src, .ref lk] [(src, o)] (fun h => (∀ b o, kp.get? b = some o → h.get? b = some o ∧ b ≠ src) ∧ kp.IsList lk (List.toArray vs) ∧ KeysAre kp vs kss) (fun h r h' => ∃ a vs' kss' o', r = .ref a ∧ h'.get? src = some o' ∧ SrcOK o' ∧ (withNew kp h h').IsList a (List.toArray vs') ∧ KeysAre (withNew kp h h') vs' kss' ∧ BentOf nc kss kss') := by
  revert w mean mg mb src lk o kp vs kss nc ho hn0 hn1 hl hkl
  ((refine @all8 _ _ _ _ _ _ _ _ (by ktn_no "ne") (by ktn_no "ne") (by ktn_no "ne") (by ktn_no "ne") (by ktn_no "ne") (by ktn_no "ne") (by ktn_no "ne") (by ktn_no "ne") _ ?_; generalize E8a _ _ _ _ _ _ _ _ _ = w, E8b _ _ _ _ _ _ _ _ _ = mean, E8c _ _ _ _ _ _ _ _ _ = mg, E8d _ _ _ _ _ _ _ _ _ = mb, E8e _ _ _ _ _ _ _ _ _ = src, E8f _ _ _ _ _ _ _ _ _ = lk, E8g _ _ _ _ _ _ _ _ _ = o, E8h _ _ _ _ _ _ _ _ _ = kp); (refine @all3 _ _ _ (by ktn_no "ne") (by ktn_no "ne") (by ktn_no "ne") _ ?_; generalize E3a _ _ _ _ = vs, E3b _ _ _ _ = kss, E3c _ _ _ _ = nc; intro ho hn0 hn1 hl hkl))
  (refine tell_in _ _ _ _ _ _ _ _ _ _ ?_; k_fill; generalize TX.dp (tx _ _ _ _ _ _ _ _ _ _) = dp, TX.un (tx _ _ _ _ _ _ _ _ _ _) = un, TX.gd (tx _ _ _ _ _ _ _ _ _ _) = gd, TX.cn (tx _ _ _ _ _ _ _ _ _ _) = cn, TX.cs (tx _ _ _ _ _ _ _ _ _ _) = cs, TX.a (tx _ _ _ _ _ _ _ _ _ _) = a, TX.ccd (tx _ _ _ _ _ _ _ _ _ _) = ccd, TX.cl (tx _ _ _ _ _ _ _ _ _ _) = cl, TX.outer (tx _ _ _ _ _ _ _ _ _ _) = outer, TX.A₀ (tx _ _ _ _ _ _ _ _ _ _) = A₀, TX.base (tx _ _ _ _ _ _ _ _ _ _) = base, TX.h₀ (tx _ _ _ _ _ _ _ _ _ _) = h₀, TX.L (tx _ _ _ _ _ _ _ _ _ _) = L, TX.m (tx _ _ _ _ _ _ _ _ _ _) = m, TX.s (tx _ _ _ _ _ _ _ _ _ _) = s, TX.Q (tx _ _ _ _ _ _ _ _ _ _) = Q, TX.E (tx _ _ _ _ _ _ _ _ _ _) = E; intro B F X N T hk hpre hd hu hret)
  (generalize (hpre).1 = hk1, (hpre).2.1 = p1, (hpre).2.2 = p2)
  ktr_enter
  rename KeepB _ _ _ => kg0
  have kk : ∀ b o, kp.get? b = some o → _ := fun b o e => kg0 b o (hk1 b o e).1 (by simpa using (hk1 b o e).2)
  have Il : Heap.IsList _ lk (List.toArray vs) := let ⟨o, e, r⟩ := p1; ⟨o, kk _ _ e, r⟩
  have Ik := keysAre_keep p2 kk
  have hvz : vs.length ≤ 5 := by rw [p2.1]; exact hl
  have hc9 := cOf_12 hn0 hn1 kss
  (repeat' ((fail_if_success (ktn_no "stop")); first | ((with_reducible show wpAny _ _ (binaryOp _ _ _) _ _ _); (k_dflt (refine' mul_c ?x53 ?c53 ?F53 ?N53 ?m53 ?_; (case x53 => assumption); (case c53 => assumption); (case F53 => k_asm); (case N53 => k_asm); (case m53 => k_mem)); ktn_no "k23"; (try k_sweep))) | ((with_reducible show wpAny _ _ (call (Value.builtin "len") [Value.ref _]) _ _ _); refine len_list (by ktn_no "b_list") (by simp only [List.size_toArray]; ktn_no "om") ?_; (try simp only [List.size_toArray])) | ((with_reducible show wpAny _ _ (subscriptTail _ _ _ _) _ _ _); ktn_no "sl") | ((with_reducible show wpAny _ _ (subscriptTail (PySem.Expr.Name _ _) (PySem.Expr.Name _ _) (Value.ref _) (Value.int _ _)) _ _ _); k_dflt (refine' item_key ?k52 ?n52 ?l52 ?m52 ?a52 ?f52 ?z52 ?_ ?s52; (case l52 => ktn_no "b_list"); (case k52 => assumption); (case n52 => assumption); (case m52 => assumption); (case a52 => assumption); (case f52 => assumption); (case z52 => assumption); (case s52 => with_unfolding_all rfl)); ((refine all3 ?_; ktn_no "g3"; intro _ _ _ _))) | ((with_reducible show wpAny _ _ (subscriptTail (PySem.Expr.Name _ _) (PySem.Expr.Constant _ _ _) (Value.ref _) (Value.int _ _)) _ _ _); k_dflt (refine' item_first ?k51 ?F51 ?n51 ?b51 ?l51 ?c51 ?_ ?s51; (case F51 => k_asm); (case l51 => ktn_no "b_list"); (case b51 => ktn_no "b_list"); (case k51 => assumption); (case n51 => assumption); (case c51 => assumption); (case s51 => with_unfolding_all rfl)); ((refine all2 ?_; ktn_no "g2"; intro _ _ _))) | ((with_reducible show wpAny _ _ (compareOp _ _ _) _ _ _); (refine' ne_nil_or ?l54 ?b54 ?u54 ?_ ?_; (case l54 => ktn_no "b_list"); (case b54 => ktn_no "b_list"); (case u54 => ktr_units); (all_goals (intros)))) | ((with_reducible show wpAny _ _ (PySem.call (Value.ref 586) _) _ _ _); k_dflt (refine use_take (ht0 := by first | decide | ktn_no "om") (ht1 := by first | decide | ktn_no "om") (U := by intro o9; k_upd) (ret := ?_); ((refine all5 ?_; ktn_no "g5"; intro _ _ _ _ _))); ktn_no "aft") | ((with_reducible show wpAny _ _ (binaryOp _ (Value.ref _) (Value.ref _)) _ _ _); k_dflt (refine add_lst (by k_asm) (by k_asm) (by ktn_no "b_list") (by ktn_no "b_list") (by (try simp only [List.length_cons, List.length_nil, List.length_append, List.length_take, List.length_drop, List.length_replicate]); ktn_no "om") ?_); ktn_no "k23"; (try k_sweep)) | (k_unfold; (try dsimp only)) | walk1 | (dsimp only; walk1)))
  · with_reducible rename Fr _ _ _ _ => F8
    with_reducible rename News _ _ _ _ => N8
    have hkeep : ∀ b o, kp.get? b = some o → (withNew kp s.heap _).get? b = some o := fun b o e => withNew_old (F8.keep _ _ (kk b o e)) e
    exact back_intro F8 fun f k => hret _ _ _ f k ⟨_, vs.drop 1, kss.drop 1, _, rfl, N8.get (by k_mem), by assumption, wn_list kg0 N8 (by k_mem) (by k_ne), keysAre_drop (keysAre_keep p2 hkeep) 1, .inl rfl⟩
  · with_reducible rename Fr _ _ _ _ => F8
    with_reducible rename News _ _ _ _ => N8
    have hkeep : ∀ b o, kp.get? b = some o → (withNew kp s.heap _).get? b = some o := fun b o e => withNew_old (F8.keep _ _ (kk b o e)) e
    exact back_intro F8 fun f k => hret _ _ _ f k ⟨_, vs ++ [.ref _], kss ++ [ones (cOf nc kss) ++ [some 50]], _, rfl, N8.get (by k_mem), by assumption, wn_list kg0 N8 (by k_mem) (by k_ne), keysAre_append (keysAre_keep p2 hkeep) (keysAre_one (ws := List.replicate (cOf nc kss) (.int 1 _) ++ [.int 50 _]) (wn_list kg0 N8 (by k_mem) (by k_ne)) (vals_ones _)), .inr (.inl rfl)⟩
  · with_reducible rename Fr _ _ _ _ => F8
    with_reducible rename News _ _ _ _ => N8
    have hkeep : ∀ b o, kp.get? b = some o → (withNew kp s.heap _).get? b = some o := fun b o e => withNew_old (F8.keep _ _ (kk b o e)) e
    exact back_intro F8 fun f k => hret _ _ _ f k ⟨_, List.take _ vs ++ [.ref _] ++ List.drop (_ + 1) vs, kss.take _ ++ [some 7 :: List.tail _] ++ kss.drop (_ + 1), _, rfl, N8.get (by k_mem), by assumption, wn_list kg0 N8 (by k_mem) (by k_ne), keysAre_append (keysAre_append (keysAre_take (keysAre_keep p2 hkeep) _) (keysAre_one (ws := [.int 7 _] ++ List.drop 1 _) (wn_list kg0 N8 (by k_mem) (by k_ne)) (valsAre_cons (isValI (i := 7)) (valsAre_drop1 (by assumption))))) (keysAre_drop (keysAre_keep p2 hkeep) _), .inr (.inr (.inl ⟨_, _, by assumption, rfl⟩))⟩
  · with_reducible rename Fr _ _ _ _ => F8
    with_reducible rename News _ _ _ _ => N8
    have hkeep : ∀ b o, kp.get? b = some o → (withNew kp s.heap _).get? b = some o := fun b o e => withNew_old (F8.keep _ _ (kk b o e)) e
    exact back_intro F8 fun f k => hret _ _ _ f k ⟨_, vs, kss, _, rfl, N8.get (by k_mem), by assumption, (let ⟨o, e, r⟩ := p1; ⟨o, hkeep _ _ e, r⟩), keysAre_keep p2 hkeep, .inr (.inr (.inr rfl))⟩
  · with_reducible rename Fr _ _ _ _ => F8
    with_reducible rename News _ _ _ _ => N8
    have hkeep : ∀ b o, kp.get? b = some o → (withNew kp s.heap _).get? b = some o := fun b o e => withNew_old (F8.keep _ _ (kk b o e)) e
    exact back_intro F8 fun f k => hret _ _ _ f k ⟨_, vs, kss, _, rfl, N8.get (by k_mem), by assumption, (let ⟨o, e, r⟩ := p1; ⟨o, hkeep _ _ e, r⟩), keysAre_keep p2 hkeep, .inr (.inr (.inr rfl))⟩
end
/-! ## NGL10 -/
section
open PySem PySem.Spec PySem.Calls PySem.W PyProof.Rows PyProof.Rows.LCg
local macro_rules | `(tactic| ktn_no "ep?") => `(tactic| skip)
theorem pick_last {vs : List Value} : PySem.W.kms_pick vs none (some (-1)) = vs.take (vs.length - 1) := by
  unfold PySem.W.kms_pick
  have e1 : PySem.W.kms_lo none vs.length = 0 := rfl
  have e2 : PySem.W.kms_hi (some (-1)) vs.length = vs.length - 1 := by
    unfold PySem.W.kms_hi
    simp
    try omega
  rw [e1, e2, List.drop_zero, Nat.sub_zero]
theorem valsAre_dl {vs : List Value} {ds : List Val} (h : ValsAre vs ds) : ValsAre (vs.take (vs.length - 1)) ds.dropLast := by
  rw [ValsAre.length h, List.dropLast_eq_take]
  exact valsAre_takeE rfl h
theorem nodup_take {α : Type} {fs : List α} : fs.Nodup ↔ ∀ (a : Nat) (x : α), fs[a]? = some x → x ∉ fs.take a := by
  unfold List.Nodup
  rw [List.pairwise_iff_getElem]
  constructor
  · intro h a x hx hm
    obtain ⟨ha, rfl⟩ := List.getElem?_eq_some_iff.mp hx
    obtain ⟨j, hj, e⟩ := List.getElem_of_mem hm
    (have z99 := e; rw [List.getElem_take] at z99; try clear e; have e := z99; clear z99)
    (have z99 := hj; rw [List.length_take] at z99; try clear hj; have hj := z99; clear z99)
    exact h j a (by omega) ha (by omega) e
  · intro h i j hi hj hij e
    refine h j _ (List.getElem?_eq_getElem hj) ?_
    rw [← e]
    have hi' : i < (fs.take j).length := by rw [List.length_take]; omega
    have e2 : (fs.take j)[i] = fs[i] := List.getElem_take
    rw [← e2]
    exact List.getElem_mem _
def firstsOf (kss : List (List Val)) : List (List Val) := (kss.map List.dropLast).filter fun ks => !ks.any (·.isNone)
theorem firsts_step {kss : List (List Val)} {i : Nat} {ks : List Val} (hk : kss[i]? = some ks) : firstsOf (kss.take (i + 1)) = firstsOf (kss.take i) ++ (if ks.dropLast.any (·.isNone) then [] else [ks.dropLast]) := by
  unfold firstsOf
  rw [List.take_add_one, hk, List.map_append, List.filter_append]
  congr 1
  show List.filter _ [ks.dropLast] = _
  rw [List.filter_cons, List.filter_nil]
  cases ks.dropLast.any (·.isNone) <;> rfl
theorem KeysIn.length {tl : List (Addr × Obj)} : ∀ {vs : List Value} {cs : List (List Val)}, KeysIn tl vs cs → vs.length = cs.length
  | [], [], _ => rfl
  | _ :: _, _ :: _, h => by rw [List.length_cons, List.length_cons, h.2.length]
section
variable {prog : Program} {w : World} {A : Around} {s : Shared} {E : Value → Shared → Prop}
theorem key_in_t {l : Addr} {vs : List Value} {kss : List (List Val)} {x : Value} {es : List Val} {Q : Value → Shared → Prop} (hu : A.units + 10 < cLine) (hl : s.heap.IsList l vs.toArray) (K : KeysAre s.heap vs kss) (hx : KeyAre s.heap x es) (hin : es ∈ kss) (h : Q (.bool true) s) :
    wpAny (model prog w) A (compareOp .In x (.ref l)) Q E s := key_in hu hl K hx (by rw [decide_eq_true hin]; exact h)
theorem key_in_f {l : Addr} {vs : List Value} {kss : List (List Val)} {x : Value} {es : List Val} {Q : Value → Shared → Prop} (hu : A.units + 10 < cLine) (hl : s.heap.IsList l vs.toArray) (K : KeysAre s.heap vs kss) (hx : KeyAre s.heap x es) (hin : ¬ es ∈ kss) (h : Q (.bool false) s) :
    wpAny (model prog w) A (compareOp .In x (.ref l)) Q E s := key_in hu hl K hx (by rw [decide_eq_false hin]; exact h)
end
theorem firsts_len {kss : List (List Val)} : (firstsOf kss).length ≤ kss.length := by
  unfold firstsOf
  exact Nat.le_trans (List.length_filter_le _ _) (by rw [List.length_map]; exact Nat.le_refl _)
theorem firsts_t {n : List (Addr × Obj)} {ys : List Value} {kss : List (List Val)} {i : Nat} {ks : List Val} (hk : kss[i]? = some ks) (hnn : ks.dropLast.any (·.isNone) = true) (h : KeysIn n ys (firstsOf (kss.take i))) : KeysIn n ys (firstsOf (kss.take (i + 1))) := by
  rw [firsts_step hk, hnn, if_pos rfl, List.append_nil]
  exact h
theorem firsts_f {n : List (Addr × Obj)} {ys : List Value} {kss : List (List Val)} {i : Nat} {ks : List Val} {D9 : Addr} {ws9 : List Value} {o : Nat} (hk : kss[i]? = some ks) (hnn : ks.dropLast.any (·.isNone) = false) (hv9 : ValsAre ws9 ks) (hks : KeysIn n ys (firstsOf (kss.take i))) :
    KeysIn ((D9, PySem.W.listOf (List.toArray (ws9.take (ws9.length - 1))) o) :: n) (ys ++ [.ref D9]) (firstsOf (kss.take (i + 1))) := by
  rw [firsts_step hk, hnn, if_neg (by decide)]
  exact KeysIn.snoc ⟨D9, _, _, rfl, .head _, valsAre_dl hv9⟩ (hks.mono fun p hp => .tail _ hp)
theorem keys_pick {h : Heap} {n : List (Addr × Obj)} {vs : List Value} {fs : List (List Val)} {i : Nat} {va : Value} {ka : List Val} (hks : KeysIn n vs fs) (hg : ∀ p ∈ n, h.get? p.1 = some p.2) (hva : vs[i]? = some va) (hka : fs[i]? = some ka) : KeyAre h va ka := by
  obtain ⟨ka', hka', hx⟩ := (hks.keys hg).2 i va hva
  (have z99 := hka'; rw [hka] at z99; try clear hka'; have hka' := z99; clear z99)
  cases hka'
  exact hx
theorem all_once {α : Type} {fs : List α} {i : Nat} {ka : α} (hj : ∀ (a : Nat) (x : α), a < i → fs[a]? = some x → x ∉ fs.take a) (hka : fs[i]? = some ka) (hin : ¬ ka ∈ fs.take i) : ∀ (a : Nat) (x : α), a < i + 1 → fs[a]? = some x → x ∉ fs.take a := fun a x ha hx' => by
  rcases Nat.lt_succ_iff_lt_or_eq.mp ha with z | z
  · exact hj a x z hx'
  · subst z; rw [hka] at hx'; cases hx'; exact hin
theorem once_f {uq : Bool} {fs : List (List Val)} {i : Nat} {ka : List Val} (hu : uq = true) (hka : fs[i]? = some ka) (hin : ka ∈ fs.take i) : false = true ↔ (uq = true → fs.Nodup) := by
  subst hu
  simp only [Bool.false_eq_true, false_iff, forall_const]
  exact fun h => (nodup_take.mp h) i ka hka hin
theorem once_t {uq : Bool} {fs : List (List Val)} {n : Nat} (hn : n = fs.length) (hj : ∀ (a : Nat) (x : List Val), a < n → fs[a]? = some x → x ∉ fs.take a) : true = true ↔ (uq = true → fs.Nodup) := by
  subst hn
  simp only [true_iff]
  intro _
  rw [nodup_take]
  intro a x hx
  exact hj a x (List.getElem?_eq_some_iff.mp hx).1 hx
theorem nm_a {h₀ h : Heap} {L a : Addr} {o : Obj} {r : List (Addr × Obj)} (_ : News h₀ L h ((a, o) :: r)) : ∃ a', a' = a := ⟨a, rfl⟩
set_option maxHeartbeats 4000000 in
theorem ct_once {w : World} {mean mg mb} {xi lci lk : Addr} {cvs vs : List Value} {cols : List (Int × Bool)} {uq : Bool} {kss : List (List Val)} (hl1 : kss.length ≤ 10) (hkl : ∀ ks ∈ kss, ks.length ≤ 20) : Tell w mean mg mb 625 6 [.ref xi, .ref lk] [] (fun h => IsIdx w h xi lci cvs cols uq ∧ h.IsList lk (List.toArray vs) ∧ KeysAre h vs kss) (fun h r h' => ∃ b, r = .bool b ∧ (b = true ↔ (uq = true → (firstsOf kss).Nodup))) := by
  revert w mean mg mb xi lci lk cvs vs cols uq kss hl1 hkl
  ((refine @all8 _ _ _ _ _ _ _ _ (by ktn_no "ne") (by ktn_no "ne") (by ktn_no "ne") (by ktn_no "ne") (by ktn_no "ne") (by ktn_no "ne") (by ktn_no "ne") (by ktn_no "ne") _ ?_; generalize E8a _ _ _ _ _ _ _ _ _ = w, E8b _ _ _ _ _ _ _ _ _ = mean, E8c _ _ _ _ _ _ _ _ _ = mg, E8d _ _ _ _ _ _ _ _ _ = mb, E8e _ _ _ _ _ _ _ _ _ = xi, E8f _ _ _ _ _ _ _ _ _ = lci, E8g _ _ _ _ _ _ _ _ _ = lk, E8h _ _ _ _ _ _ _ _ _ = cvs); (refine @all4 _ _ _ _ (by ktn_no "ne") (by ktn_no "ne") (by ktn_no "ne") (by ktn_no "ne") _ ?_; generalize E4a _ _ _ _ _ = vs, E4b _ _ _ _ _ = cols, E4c _ _ _ _ _ = uq, E4d _ _ _ _ _ = kss; intro hl1 hkl))
  (refine tell_in _ _ _ _ _ _ _ _ _ _ ?_; k_fill; generalize TX.dp (tx _ _ _ _ _ _ _ _ _ _) = dp, TX.un (tx _ _ _ _ _ _ _ _ _ _) = un, TX.gd (tx _ _ _ _ _ _ _ _ _ _) = gd, TX.cn (tx _ _ _ _ _ _ _ _ _ _) = cn, TX.cs (tx _ _ _ _ _ _ _ _ _ _) = cs, TX.a (tx _ _ _ _ _ _ _ _ _ _) = a, TX.ccd (tx _ _ _ _ _ _ _ _ _ _) = ccd, TX.cl (tx _ _ _ _ _ _ _ _ _ _) = cl, TX.outer (tx _ _ _ _ _ _ _ _ _ _) = outer, TX.A₀ (tx _ _ _ _ _ _ _ _ _ _) = A₀, TX.base (tx _ _ _ _ _ _ _ _ _ _) = base, TX.h₀ (tx _ _ _ _ _ _ _ _ _ _) = h₀, TX.L (tx _ _ _ _ _ _ _ _ _ _) = L, TX.m (tx _ _ _ _ _ _ _ _ _ _) = m, TX.s (tx _ _ _ _ _ _ _ _ _ _) = s, TX.Q (tx _ _ _ _ _ _ _ _ _ _) = Q, TX.E (tx _ _ _ _ _ _ _ _ _ _) = E; intro B F X N T hk hpre hd hu hret)
  (refine cur3 ?_ (hpre); intro p1 p2 p3)
  ktr_enter
  rename KeepB _ _ _ => kg0
  have kk : ∀ b o, s.heap.get? b = some o → _ := fun b o e => kg0 b o e (by simp)
  have Ii := isIdx_keep p1 kk
  have I1 := isList_base kg0 p2
  have K1 := keysAre_keep p3 kk
  have hv1 := K1.1
  refine idx_out Ii ?_
  ((refine all8 ?_; generalize E8a _ _ _ _ _ _ _ _ _ = dx, E8b _ _ _ _ _ _ _ _ _ = t1, E8c _ _ _ _ _ _ _ _ _ = t2, E8d _ _ _ _ _ _ _ _ _ = t3, E8e _ _ _ _ _ _ _ _ _ = t4, E8f _ _ _ _ _ _ _ _ _ = t5, E8g _ _ _ _ _ _ _ _ _ = t6, E8h _ _ _ _ _ _ _ _ _ = t7); (refine all5 ?_; generalize E5a _ _ _ _ _ _ = tn, E5b _ _ _ _ _ _ = tb, E5c _ _ _ _ _ _ = rt, E5d _ _ _ _ _ _ = og, E5e _ _ _ _ _ _ = sq; intro i1 i2 i3 i4))
  have Ix := inst_of i1 i2
  by_cases huq : uq = true
  · (repeat' ((fail_if_success (ktn_no "stop")); (fail_if_success (with_reducible show wpAny _ _ (exec (Stmt.Assign _ (Expr.ListComp _ _ _ _) _) _) _ _ _)); (fail_if_success (with_reducible show wpAny _ _ (eval (Expr.ListComp _ _ _ _) _) _ _ _)); (fail_if_success (with_reducible show CompTurned _ _ _ _ _ _ _ _ _ _ _ _)); first | (k_unfold; (try dsimp only)) | walk1 | (dsimp only; walk1)))
    with_reducible rename Fr _ _ _ _ => F7
    with_reducible rename News _ _ _ _ => N1
    refine listComp_A (by exact rfl) (by with_unfolding_all rfl) rfl rfl F7 (by with_unfolding_all rfl) (by decide) rfl (by decide) ?_
    (repeat' ((fail_if_success (ktn_no "stop")); (fail_if_success (with_reducible show wpAny _ _ (exec (Stmt.Assign _ (Expr.ListComp _ _ _ _) _) _) _ _ _)); (fail_if_success (with_reducible show wpAny _ _ (eval (Expr.ListComp _ _ _ _) _) _ _ _)); (fail_if_success (with_reducible show CompTurned _ _ _ _ _ _ _ _ _ _ _ _)); first | (k_unfold; (try dsimp only)) | walk1 | (dsimp only; walk1)))
    refine compAS (vs := vs) (news := []) (fun i ys k => ∀ n, KeysIn n ys (firstsOf (kss.take i)) → k n) rfl (by ktn_no "b_list") (by omega) (.inl (let ⟨o, e, _⟩ := I1; ⟨o, e⟩)) F7 N1 (fun k hk => hk [] trivial) (fun I j h v tk Q E1 _ _ q => wpAny_pure q) ?_ ?_
    · ((refine all2 ?_; generalize E2a _ _ _ = i, E2b _ _ _ = v; intro hv); (refine all2 ?_; generalize E2a _ _ _ = ys, E2b _ _ _ = n₁; intro hks); (refine all8 ?_; generalize E8a _ _ _ _ _ _ _ _ _ = I, E8b _ _ _ _ _ _ _ _ _ = mC, E8c _ _ _ _ _ _ _ _ _ = h9, E8d _ _ _ _ _ _ _ _ _ = tk, E8e _ _ _ _ _ _ _ _ _ = oI, E8f _ _ _ _ _ _ _ _ _ = C, E8g _ _ _ _ _ _ _ _ _ = oC, E8h _ _ _ _ _ _ _ _ _ = D); (refine all1 ?_; generalize E1a _ _ = E1; intro F5 hoC N5 off5 ne5))
      clear N1 F7
      (refine ex1 (K1.2 i v hv) ?_; generalize X1a _ _ = ks; refine cur2 ?_; intro hk r91; refine ex2 (r91) ?_; generalize X2a _ _ _ = l9, X2b _ _ _ = ws9; refine cur3 ?_; intro z93_0 il9 hv9; subst z93_0)
      have hkl9 := hkl ks (List.mem_of_getElem? hk)
      have hwl9 := ValsAre.length hv9
      refine comp_store rfl rfl F5 hoC N5 off5 ne5 ?_
      ((refine all3 ?_; generalize E3a _ _ _ _ = h', E3b _ _ _ _ = oC', E3c _ _ _ _ = m₂; intro F6 hoC' hx6 hx7 N6))
      clear N5 F5 hoC
      refine wpAny_tests_one ?_
      by_cases hnn : ks.dropLast.any (·.isNone) = true
      · (repeat' ((fail_if_success (ktn_no "stop")); (fail_if_success (with_reducible show wpAny _ _ (exec (Stmt.Assign _ (Expr.ListComp _ _ _ _) _) _) _ _ _)); (fail_if_success (with_reducible show wpAny _ _ (eval (Expr.ListComp _ _ _ _) _) _ _ _)); (fail_if_success (with_reducible show CompTurned _ _ _ _ _ _ _ _ _ _ _ _)); first | ((with_reducible show wpAny _ _ (compareOp _ _ _) _ _ _); (first | (refine' none_notin_t ?b ?l ?v ?_; (case b => assumption); (case l => ktn_no "b_list"); (case v => exact valsAre_dl (by assumption))) | (refine' none_notin_f ?b ?l ?v ?_; (case b => assumption); (case l => ktn_no "b_list"); (case v => exact valsAre_dl (by assumption))))) | ((with_reducible show wpAny _ _ (subscriptTail _ (PySem.Expr.Slice _ _ none _) (Value.ref _) (Value.ref _)) _ _ _); k_dflt (refine' slice_any ?F ?N ?l ?p ?q ?_ ?s ?z; (case F => k_asm); (case N => k_asm); (case l => ktn_no "b_list"); (case p => kmk_part); (case q => kmk_part); (case s => with_unfolding_all rfl); (case z => ((try simp only [List.length_cons]); ktn_no "om"))); (refine all2 ?_; generalize E2a _ _ _ = D', E2b _ _ _ = h'; intro F' N' l1); (try k_lt l1); (try k_sweep); (try simp only [pick_last] at N'); (try simp only [pick_upto] at N')) | (k_unfold; (try dsimp only)) | walk1 | (dsimp only; walk1)))
        with_reducible rename Fr _ _ _ _ => F7
        with_reducible rename News _ _ _ _ => N7
        exact CompTurned.intro n₁ F7 hoC' N7 (fun p hp => .tail _ hp) off5 fun k hk' => hk' _ (firsts_t hk hnn hks)
      · replace hnn := Bool.eq_false_iff.mpr hnn
        (repeat' ((fail_if_success (ktn_no "stop")); (fail_if_success (with_reducible show wpAny _ _ (exec (Stmt.Assign _ (Expr.ListComp _ _ _ _) _) _) _ _ _)); (fail_if_success (with_reducible show wpAny _ _ (eval (Expr.ListComp _ _ _ _) _) _ _ _)); (fail_if_success (with_reducible show CompTurned _ _ _ _ _ _ _ _ _ _ _ _)); first | ((with_reducible show wpAny _ _ (compareOp _ _ _) _ _ _); (first | (refine' none_notin_t ?b ?l ?v ?_; (case b => assumption); (case l => ktn_no "b_list"); (case v => exact valsAre_dl (by assumption))) | (refine' none_notin_f ?b ?l ?v ?_; (case b => assumption); (case l => ktn_no "b_list"); (case v => exact valsAre_dl (by assumption))))) | ((with_reducible show wpAny _ _ (subscriptTail _ (PySem.Expr.Slice _ _ none _) (Value.ref _) (Value.ref _)) _ _ _); k_dflt (refine' slice_any ?F ?N ?l ?p ?q ?_ ?s ?z; (case F => k_asm); (case N => k_asm); (case l => ktn_no "b_list"); (case p => kmk_part); (case q => kmk_part); (case s => with_unfolding_all rfl); (case z => ((try simp only [List.length_cons]); ktn_no "om"))); (refine all2 ?_; generalize E2a _ _ _ = D', E2b _ _ _ = h'; intro F' N' l1); (try k_lt l1); (try k_sweep); (try simp only [pick_last] at N'); (try simp only [pick_upto] at N')) | (k_unfold; (try dsimp only)) | walk1 | (dsimp only; walk1)))
        with_reducible rename Fr _ _ _ _ => F7
        with_reducible rename News _ _ _ _ => N7
        (refine ex1 (nm_a N7) ?_; generalize X1a _ _ = D9; intro hD9)
        subst hD9
        refine CompTurned.intro ((D9, PySem.W.listOf (List.toArray (ws9.take (ws9.length - 1))) 0) :: n₁) F7 hoC' N7 ?sub ?off fun k hk' => hk' _ (firsts_f hk hnn hv9 hks)
        case sub => ktn_no "subs"
        case off => exact ⟨⟨by k_ne, by k_ne, by k_ne⟩, off5⟩
    · ((refine all2 ?_; generalize E2a _ _ _ = ys, E2b _ _ _ = n₁; intro hks); (refine all3 ?_; generalize E3a _ _ _ _ = D, E3b _ _ _ _ = h9, E3c _ _ _ _ = tk; intro F5 N5 off5))
      clear N1 F7
      (have z99 := hks; rw [hv1, List.take_length] at z99; try clear hks; have hks := z99; clear z99)
      have hyl := hks.length
      have hfl : (firstsOf kss).length ≤ kss.length := firsts_len
      have hDt : ∀ p ∈ n₁, p.1 ≠ D := off5.all
      (repeat' ((fail_if_success (ktn_no "stop")); (fail_if_success (with_reducible show wpAny _ _ (exec (Stmt.Assign _ (Expr.ListComp _ _ _ _) _) _) _ _ _)); (fail_if_success (with_reducible show wpAny _ _ (eval (Expr.ListComp _ _ _ _) _) _ _ _)); (fail_if_success (with_reducible show CompTurned _ _ _ _ _ _ _ _ _ _ _ _)); first | (k_unfold; (try dsimp only)) | walk1 | (dsimp only; walk1)))
      refine forA ?_
      (repeat' ((fail_if_success (ktn_no "stop")); (fail_if_success (with_reducible show wpAny _ _ (exec (Stmt.Assign _ (Expr.ListComp _ _ _ _) _) _) _ _ _)); (fail_if_success (with_reducible show wpAny _ _ (eval (Expr.ListComp _ _ _ _) _) _ _ _)); (fail_if_success (with_reducible show CompTurned _ _ _ _ _ _ _ _ _ _ _ _)); first | ((with_reducible show wpAny _ _ (call (Value.builtin "len") [Value.ref _]) _ _ _); refine' len_list ?ll ?lf ?_; (case ll => ktn_no "b_list"); (case lf => (simp only [List.size_toArray, List.length_cons]; ktn_no "om")); (try simp only [List.size_toArray])) | (k_unfold; (try dsimp only)) | walk1 | (dsimp only; walk1)))
      with_reducible rename Fr _ _ _ _ => F8
      with_reducible rename News _ _ _ _ => N8
      with_reducible rename IsRange _ _ _ _ _ _ _ _ => hr
      refine iterRS (fun i k9 => ∀ (m : Str → Option Value), (∀ (a : Nat) (x : List Val), a < i → (firstsOf kss)[a]? = some x → x ∉ (firstsOf kss).take a) → k9 (over [(Str.ofString "firsts", (.ref D))] m) ((D, lst ys) :: n₁)) rfl hr (rsmall0 (by omega)) (rsize0 _) (fr_over' (es := [(Str.ofString "firsts", _)]) F8 ⟨rfl, trivial⟩) N8 (fun _ k9 => k9 _ (fun a x h => absurd h (Nat.not_lt_zero _))) ?_ ?_
      · clear F8 N8 hr
        ((refine all2 ?_; generalize E2a _ _ _ = i, E2b _ _ _ = tv; intro hlt); (refine all1 ?_; generalize E1a _ _ = m₁; intro hj); (refine all4 ?_; generalize E4a _ _ _ _ _ = h9, E4b _ _ _ _ _ = tk, E4c _ _ _ _ _ = I, E4d _ _ _ _ _ = o; intro F6 N5 hI))
        rw [Int.zero_add]
        (refine ex1 ((⟨(firstsOf kss)[i]'(by omega), List.getElem?_eq_getElem (by omega)⟩ : ∃ ka, (firstsOf kss)[i]? = some ka)) ?_; generalize X1a _ _ = ka; intro hka)
        (refine ex1 ((⟨ys[i]'(by omega), List.getElem?_eq_getElem (by omega)⟩ : ∃ va, ys[((i : Nat) : Int).toNat]? = some va)) ?_; generalize X1a _ _ = va; intro hva)
        refine wpAny_assign_Name ?_
        (repeat' ((fail_if_success (ktn_no "stop")); (fail_if_success (with_reducible show wpAny _ _ (exec (Stmt.Assign _ (Expr.ListComp _ _ _ _) _) _) _ _ _)); (fail_if_success (with_reducible show wpAny _ _ (eval (Expr.ListComp _ _ _ _) _) _ _ _)); (fail_if_success (with_reducible show CompTurned _ _ _ _ _ _ _ _ _ _ _ _)); first | ((with_reducible show wpAny _ _ (subscriptTail _ (PySem.Expr.Slice _ _ none _) (Value.ref _) (Value.ref _)) _ _ _); k_dflt (refine' slice_any ?F ?N ?l ?p ?q ?_ ?s ?z; (case F => k_asm); (case N => k_asm); (case l => ktn_no "b_list"); (case p => kmk_part); (case q => kmk_part); (case s => with_unfolding_all rfl); (case z => ((try simp only [List.length_cons]); ktn_no "om"))); (refine all2 ?_; generalize E2a _ _ _ = D', E2b _ _ _ = h'; intro F' N' l1); (try k_lt l1); (try k_sweep); (try simp only [pick_last] at N'); (try simp only [pick_upto] at N')) | (k_unfold; (try dsimp only)) | walk1 | (dsimp only; walk1)))
        with_reducible rename Fr _ _ _ _ => F7
        with_reducible rename News _ _ _ _ => N7
        have hg : ∀ p ∈ n₁, _ := fun p hp => (N7 p (.tail _ (.tail _ (.tail _ hp)))).1
        by_cases hin : ka ∈ (firstsOf kss).take i
        · refine key_in_t (by ktr_units) (by ktn_no "b_list") (keysAre_take (hks.keys hg) i) (keys_pick hks hg hva hka) hin ?_
          (repeat' ((fail_if_success (ktn_no "stop")); (fail_if_success (with_reducible show wpAny _ _ (exec (Stmt.Assign _ (Expr.ListComp _ _ _ _) _) _) _ _ _)); (fail_if_success (with_reducible show wpAny _ _ (eval (Expr.ListComp _ _ _ _) _) _ _ _)); (fail_if_success (with_reducible show CompTurned _ _ _ _ _ _ _ _ _ _ _ _)); first | (k_unfold; (try dsimp only)) | walk1 | (dsimp only; walk1)))
          dsimp only [Turned]
          exact back_intro (by assumption) fun f k => hret _ _ _ f k ⟨false, rfl, once_f huq hka hin⟩
        · refine key_in_f (by ktr_units) (by ktn_no "b_list") (keysAre_take (hks.keys hg) i) (keys_pick hks hg hva hka) hin ?_
          (repeat' ((fail_if_success (ktn_no "stop")); (fail_if_success (with_reducible show wpAny _ _ (exec (Stmt.Assign _ (Expr.ListComp _ _ _ _) _) _) _ _ _)); (fail_if_success (with_reducible show wpAny _ _ (eval (Expr.ListComp _ _ _ _) _) _ _ _)); (fail_if_success (with_reducible show CompTurned _ _ _ _ _ _ _ _ _ _ _ _)); first | (k_unfold; (try dsimp only)) | walk1 | (dsimp only; walk1)))
          with_reducible rename Fr _ _ _ _ => F8
          with_reducible rename News _ _ _ _ => N8
          refine' Turned.next ((D, lst ys) :: n₁) (fr_over' (es := [(Str.ofString "firsts", _)]) F8 ⟨rfl, trivial⟩) N8 ?mI ?mem ?ne ?J
          case mI => k_mem
          case mem => ktn_no "subs"
          case ne => exact hI
          case J => exact fun _ k9 => k9 _ (all_once hj hka hin)
      · clear F8 N8 hr
        ((refine all1 ?_; generalize E1a _ _ = m₁; intro hj); (refine all2 ?_; generalize E2a _ _ _ = h9, E2b _ _ _ = tk; intro F5 N5))
        (repeat' ((fail_if_success (ktn_no "stop")); (fail_if_success (with_reducible show wpAny _ _ (exec (Stmt.Assign _ (Expr.ListComp _ _ _ _) _) _) _ _ _)); (fail_if_success (with_reducible show wpAny _ _ (eval (Expr.ListComp _ _ _ _) _) _ _ _)); (fail_if_success (with_reducible show CompTurned _ _ _ _ _ _ _ _ _ _ _ _)); first | (k_unfold; (try dsimp only)) | walk1 | (dsimp only; walk1)))
        exact back_intro (by assumption) fun f k => hret _ _ _ f k ⟨true, rfl, once_t hyl hj⟩
  · (repeat' ((fail_if_success (ktn_no "stop")); (fail_if_success (with_reducible show wpAny _ _ (exec (Stmt.Assign _ (Expr.ListComp _ _ _ _) _) _) _ _ _)); (fail_if_success (with_reducible show wpAny _ _ (eval (Expr.ListComp _ _ _ _) _) _ _ _)); (fail_if_success (with_reducible show CompTurned _ _ _ _ _ _ _ _ _ _ _ _)); first | (k_unfold; (try dsimp only)) | walk1 | (dsimp only; walk1)))
    exact back_intro (by assumption) fun f k => hret _ _ _ f k ⟨true, rfl, by simp [huq]⟩
end
/-! ## NGL2 -/
section
open PySem PySem.Spec PySem.Calls PySem.W PyProof.Rows PyProof.Rows.LCg
local macro_rules | `(tactic| ktn_no "ep?") => `(tactic| skip)
local macro_rules | `(tactic| ktn_no "stop") => `(tactic| with_reducible show wpAny _ _ (exec (Stmt.Assign _ (Expr.IfExp _ _ _ _) _) _) _ _ _)
local macro_rules | `(tactic| ktn_no "stop") => `(tactic| with_reducible show wpAny _ _ (exec (Stmt.If _ _ _ _) _) _ _ _)
theorem pool_many {vs : List Value} {ns : List Int} (h : vs.length = ns.length) : (if (20 : Int) < (vs.length : Int) then (20 : Int) else (vs.length : Int)) = ((min ns.length 20 : Nat) : Int) := by split <;> omega
theorem pool_mixed {x : Int} : 0 ≤ x.fmod 2147483629 + 17 ∧ x.fmod 2147483629 + 17 < 2147483647 := by
  have := @fm_bound x 2147483629 (by decide)
  omega
set_option maxHeartbeats 4000000 in
theorem ct_pool {w : World} {mean mg mb} {ls : Addr} {vs : List Value} {ns : List Int} (hi : IntsAre vs ns) (hn : ns.length ≤ 63) : Tell w mean mg mb 579 3 [.ref ls] [] (fun h => h.IsList ls (List.toArray vs)) (fun h r h' => ∃ l o, r = .ref l ∧ h'.get? l = some o ∧ SrcOK o ∧ h.get? l = none) := by
  revert w mean mg mb ls vs ns hi hn
  ((refine @all7 _ _ _ _ _ _ _ (by ktn_no "ne") (by ktn_no "ne") (by ktn_no "ne") (by ktn_no "ne") (by ktn_no "ne") (by ktn_no "ne") (by ktn_no "ne") _ ?_; generalize E7a _ _ _ _ _ _ _ _ = w, E7b _ _ _ _ _ _ _ _ = mean, E7c _ _ _ _ _ _ _ _ = mg, E7d _ _ _ _ _ _ _ _ = mb, E7e _ _ _ _ _ _ _ _ = ls, E7f _ _ _ _ _ _ _ _ = vs, E7g _ _ _ _ _ _ _ _ = ns; intro hi hn))
  (refine tell_in _ _ _ _ _ _ _ _ _ _ ?_; k_fill; generalize TX.dp (tx _ _ _ _ _ _ _ _ _ _) = dp, TX.un (tx _ _ _ _ _ _ _ _ _ _) = un, TX.gd (tx _ _ _ _ _ _ _ _ _ _) = gd, TX.cn (tx _ _ _ _ _ _ _ _ _ _) = cn, TX.cs (tx _ _ _ _ _ _ _ _ _ _) = cs, TX.a (tx _ _ _ _ _ _ _ _ _ _) = a, TX.ccd (tx _ _ _ _ _ _ _ _ _ _) = ccd, TX.cl (tx _ _ _ _ _ _ _ _ _ _) = cl, TX.outer (tx _ _ _ _ _ _ _ _ _ _) = outer, TX.A₀ (tx _ _ _ _ _ _ _ _ _ _) = A₀, TX.base (tx _ _ _ _ _ _ _ _ _ _) = base, TX.h₀ (tx _ _ _ _ _ _ _ _ _ _) = h₀, TX.L (tx _ _ _ _ _ _ _ _ _ _) = L, TX.m (tx _ _ _ _ _ _ _ _ _ _) = m, TX.s (tx _ _ _ _ _ _ _ _ _ _) = s, TX.Q (tx _ _ _ _ _ _ _ _ _ _) = Q, TX.E (tx _ _ _ _ _ _ _ _ _ _) = E; intro B F X N T hk hpre hd hu hret)
  have hnl := IntsAre.length hi
  have hget := IntsAre.get hi
  ktr_enter
  rename KeepB _ _ _ => kg0
  have Il := isList_base kg0 hpre
  (repeat' ((fail_if_success (ktn_no "stop")); first | (k_unfold; (try dsimp only)) | walk1 | (dsimp only; walk1)))
  with_reducible rename Fr _ _ _ _ => F0
  with_reducible rename News _ _ _ _ => N0
  refine cutJ F0 (fun k => ∀ bg tb (m : Str → Option Value), k (over [(Str.ofString "script", (.ref ls)), (Str.ofString "big", (.int bg tb))] m) []) ?_ ?_
  · ((refine all1 ?_; generalize E1a _ _ = G; intro hG))
    by_cases h0 : ns.length = 0
    · have hv0 : vs.length = 0 := by omega
      walk1
      (repeat' ((fail_if_success (ktn_no "stop")); first | (k_unfold; (try dsimp only)) | walk1 | (dsimp only; walk1)))
      with_reducible rename Fr _ _ _ _ => F8
      with_reducible rename News _ _ _ _ => N8
      exact hG _ _ _ _ _ (fr_over' (es := [(Str.ofString "script", _), (Str.ofString "big", _)]) F8 ⟨rfl, rfl, trivial⟩) N8
    · (refine ex1 ((⟨ns[0]'(by omega), List.getElem?_eq_getElem (by omega)⟩ : ∃ x0, ns[0]? = some x0)) ?_; generalize X1a _ _ = x0; intro hx0)
      (refine ex1 (IntsAre.get hi 0 x0 hx0) ?_; generalize X1a _ _ = t0; intro hv0)
      have hv1 : vs[((0 : Int)).toNat]? = some (.int x0 t0) := hv0
      walk1
      (repeat' ((fail_if_success (ktn_no "stop")); first | (k_unfold; (try dsimp only)) | walk1 | (dsimp only; walk1)))
      with_reducible rename Fr _ _ _ _ => F8
      with_reducible rename News _ _ _ _ => N8
      exact hG _ _ _ _ _ (fr_over' (es := [(Str.ofString "script", _), (Str.ofString "big", _)]) F8 ⟨rfl, rfl, trivial⟩) N8
  · ((refine all3 ?_; generalize E3a _ _ _ _ = bg, E3b _ _ _ _ = tb, E3c _ _ _ _ = m1); (refine all2 ?_; generalize E2a _ _ _ = h1, E2b _ _ _ = tk1; intro F1 N1))
    clear F0 N0
    (repeat' ((fail_if_success (ktn_no "stop")); first | (k_unfold; (try dsimp only)) | walk1 | (dsimp only; walk1)))
    refine cutJ F1 (fun k => ∀ bg tb (m : Str → Option Value), 0 ≤ bg → k (over [(Str.ofString "script", (.ref ls)), (Str.ofString "big", (.int bg tb))] m) []) ?_ ?_
    · ((refine all1 ?_; generalize E1a _ _ = G; intro hG))
      walk1
      (repeat' ((fail_if_success (ktn_no "stop")); first | (k_unfold; (try dsimp only)) | walk1 | (dsimp only; walk1)))
      all_goals
        with_reducible rename Fr _ _ _ _ => F8
        with_reducible rename News _ _ _ _ => N8
        exact hG _ _ _ (by omega) _ _ (fr_over' (es := [(Str.ofString "script", _), (Str.ofString "big", _)]) F8 ⟨rfl, rfl, trivial⟩) N8
    · ((refine all3 ?_; generalize E3a _ _ _ _ = bg1, E3b _ _ _ _ = tb1, E3c _ _ _ _ = m2; intro hb1); (refine all2 ?_; generalize E2a _ _ _ = h2, E2b _ _ _ = tk2; intro F2 N2))
      clear F1 N1
      (repeat' ((fail_if_success (ktn_no "stop")); first | (k_unfold; (try dsimp only)) | walk1 | (dsimp only; walk1)))
      refine forA ?_
      (repeat' ((fail_if_success (ktn_no "stop")); first | ((with_reducible show wpAny _ _ (call (Value.builtin "min") [Value.int _ _, Value.int _ _]) _ _ _); (with_reducible rename News _ _ _ _ => N99); (with_unfolding_all apply min_two_N); (case hh => with_unfolding_all rfl); (case N => exact N99); (case F => assumption); clear N99; refine all2 ?_; ktn_no "g2"; intro _ _) | (k_unfold; (try dsimp only)) | walk1 | (dsimp only; walk1)))
      try dsimp only
      with_reducible rename Fr _ _ _ _ => F1
      with_reducible rename News _ _ _ _ => N1
      with_reducible rename IsRange _ _ _ _ _ _ _ _ => hr
      (have z99 := hr; rw [pool_many hnl] at z99; try clear hr; have hr := z99; clear z99)
      refine iterRS (fun i k9 => ∀ mx tm (m : Str → Option Value), (0 ≤ mx) → (mx < 2147483647) → k9 (over [(Str.ofString "script", (.ref ls)), (Str.ofString "big", (.int bg1 tb1)), (Str.ofString "mixed", (.int mx tm))] m) []) rfl hr (rsmall0 (by omega)) (rsize0 _) (fr_over' (es := [(Str.ofString "script", _), (Str.ofString "big", _), (Str.ofString "mixed", _)]) F1 ⟨rfl, rfl, rfl, trivial⟩) N1 (fun _ k9 => k9 (_) (_) _ pool_mixed.1 pool_mixed.2) ?_ ?_
      · ((refine all2 ?_; generalize E2a _ _ _ = i, E2b _ _ _ = tv; intro hlt); (refine all3 ?_; generalize E3a _ _ _ _ = mx, E3b _ _ _ _ = tm, E3c _ _ _ _ = m₁; intro hm0 hm1); (refine all4 ?_; generalize E4a _ _ _ _ _ = h9, E4b _ _ _ _ _ = tk, E4c _ _ _ _ _ = I, E4d _ _ _ _ _ = o; intro F6 N5 hI))
        clear F1 N1 hr
        rw [Int.zero_add]
        (refine ex1 ((⟨ns[i]'(by omega), List.getElem?_eq_getElem (by omega)⟩ : ∃ xk, ns[i]? = some xk)) ?_; generalize X1a _ _ = xk; intro hxk)
        (refine ex1 (hget i xk hxk) ?_; generalize X1a _ _ = tq; intro hvq)
        have hvk : vs[((i : Nat) : Int).toNat]? = some (.int xk tq) := hvq
        refine wpAny_assign_Name ?_
        (repeat' ((fail_if_success (ktn_no "stop")); first | (k_unfold; (try dsimp only)) | walk1 | (dsimp only; walk1)))
        with_reducible rename Fr _ _ _ _ => F7
        with_reducible rename News _ _ _ _ => N7
        refine' Turned.next [] (fr_over' (es := [(Str.ofString "script", _), (Str.ofString "big", _), (Str.ofString "mixed", _)]) F7 ⟨rfl, rfl, rfl, trivial⟩) N7 ?mI ?mem ?ne ?J
        case mI => k_mem
        case mem => exact List.forall_mem_nil _
        case ne => exact List.forall_mem_nil _
        case J => exact fun _ k9 => k9 (_) (_) _ (fm_bound (by decide)).1 (fm_bound (by decide)).2
      · ((refine all3 ?_; generalize E3a _ _ _ _ = mx, E3b _ _ _ _ = tm, E3c _ _ _ _ = m₁; intro hm0 hm1); (refine all2 ?_; generalize E2a _ _ _ = h9, E2b _ _ _ = tk; intro F6 N5))
        clear F1 N1 hr
        (repeat' ((fail_if_success (ktn_no "stop")); first | ((with_reducible show wpAny _ _ (binaryOp Operator.Pow (Value.int _ _) (Value.int _ _)) _ _ _); refine' pow_lit (by decide) (by decide) (by decide) (by (simp only [Int.reduceToNat, Int.reducePow]; rfl)) ?_) | (k_unfold; (try dsimp only)) | walk1 | (dsimp only; walk1)))
        all_goals
          (with_reducible rename Fr _ _ _ _ => F8
           with_reducible rename News _ _ _ _ => N8
           refine back_intro F8 fun f k => hret _ _ _ f k ⟨_, _, rfl, N8.get (by k_mem), ⟨_, _, _, _, _, rfl, by omega, hm0, hm1⟩, (made kg0 N8 (by k_mem)).2⟩)
end
/-! ## NCX2 -/
section
open PySem PySem.Spec PySem.Calls PySem.W PyProof.Rows PyProof.Rows.LCg
local macro_rules | `(tactic| ktn_no "ep?") => `(tactic| skip)
theorem Tell.mono {w : World} {mean : ExcName → Option Value} {mg mb : Str → Option Value} {f : Addr} {d : Nat} {vs : List Value} {xs : List (Addr × Obj)} {pre : Heap → Prop} {R R' : Heap → Value → Heap → Prop} (C : Tell w mean mg mb f d vs xs pre R) (hR : ∀ h r h', R h r h' → R' h r h') : Tell w mean mg mb f d vs xs pre R' :=
  fun dp un gd cn cs a ccd cl outer A₀ base h₀ L m s Q E B F X N T hk hp hd hu ret => C dp un gd cn cs a ccd cl outer A₀ base h₀ L m s Q E B F X N T hk hp hd hu fun r h' tk' F' K' R9 => ret r h' tk' F' K' (hR _ _ _ R9)
theorem ct_rowval_n {w : World} {mean mg mb} {x lc lv : Addr} {rp : Val} {p rid : Int} {tp tr : Tok} {vs : List Value} {ds : List Val} (hv : rowVal rp p rid ds = none) (hp : -1 ≤ p) (hv1 : ValsAre vs ds) (hd1 : ds.length ≤ 40) : Tell w mean mg mb 305 4 [.ref x, .int p tp, .int rid tr, .ref lv] [] (fun h => IsTab w h x lc rp ∧ h.IsList lv (List.toArray vs)) (fun _ r _ => r = .none) :=
  (ct_rowval hp hv1 hd1).mono fun _ _ _ h => by rw [hv] at h; exact h
theorem ct_rowval_s {w : World} {mean mg mb} {x lc lv : Addr} {rp : Val} {p rid : Int} {tp tr : Tok} {vs : List Value} {ds : List Val} {i : Int} (hv : rowVal rp p rid ds = some i) (hp : -1 ≤ p) (hv1 : ValsAre vs ds) (hd1 : ds.length ≤ 40) : Tell w mean mg mb 305 4 [.ref x, .int p tp, .int rid tr, .ref lv] [] (fun h => IsTab w h x lc rp ∧ h.IsList lv (List.toArray vs)) (fun _ r _ => IsI r i) :=
  (ct_rowval hp hv1 hd1).mono fun _ _ _ h => by rw [hv] at h; exact h
section
variable {prog : Program} {w : World} {A : Around} {E : Value → Shared → Prop} {s : Shared}
theorem add_str_lit {x y : Str} {t u : Tok} {Q : Value → Shared → Prop} (hx : x.length ≤ 100) (hy : y.length ≤ 10) (h : ∀ t' tk, Q (.str (x ++ y) t') { s with toks := tk }) : wpAny (model prog w) A (binaryOp .Add (.str x t) (.str y u)) Q E s :=
  add_str h (by rw [sizeLine_eq]; omega)
end
theorem ColumnsAre.at {w : World} {h : Heap} : ∀ {vs : List Value} {bs : List Bool}, ColumnsAre w h vs bs → ∀ {i : Nat} {b : Bool}, bs[i]? = some b → ∃ a d X, vs[i]? = some (.ref a) ∧ h.get? a = some (instObj 495 d) ∧ h.get? d = some X ∧ ColX w X b
  | v :: vs, b :: bs, x, 0, b', hb => by
    refine hide fun G99 hG99 => ?_
    obtain ⟨⟨a, d, X, e, e1, e2, e3⟩, _⟩ := x
    refine hG99 ?_
    clear hG99 G99
    cases hb; exact ⟨a, d, X, by rw [e]; rfl, e1, e2, e3⟩
  | v :: vs, b :: bs, x, i + 1, b', hb => by
    refine hide fun G99 hG99 => ?_
    obtain ⟨a, d, X, e, r⟩ := ColumnsAre.at x.2 (i := i) (b := b') (by simpa using hb)
    refine hG99 ?_
    clear hG99 G99
    exact ⟨a, d, X, by simpa using e, r⟩
  | [], _ :: _, h, _, _, _ => h.elim
theorem col_out {G : Prop} {w : World} {h : Heap} {vs : List Value} {bs : List Bool} {i : Nat} {b : Bool} (C : ColumnsAre w h vs bs) (hb : bs[i]? = some b) (k : ∀ a d t1 t2 t3 t4 t5 t6 nm tn af cl, vs[i]? = some (.ref a) → h.get? a = some (instObj 495 d) → h.get? d = some (colD w t1 t2 t3 t4 t5 t6 (.str nm tn) .none af cl (.bool b) .none) → nm.length ≤ 10 → G) : G := by
  refine hide fun G99 hG99 => ?_
  obtain ⟨a, d, X, e, e1, e2, c⟩ := C.at hb
  refine hG99 ?_
  clear hG99 G99
  refine hide fun G99 hG99 => ?_
  obtain ⟨t1, t2, t3, t4, t5, t6, nm, tn, af, cl, q, hn⟩ := c
  refine hG99 ?_
  clear hG99 G99
  exact k a d t1 t2 t3 t4 t5 t6 nm tn af cl e e1 (q ▸ e2) hn
theorem all_next {P : Int × List Val → Prop} {rows : List (Int × List Val)} {i : Nat} {r0 : Int × List Val} (hi : rows[i]? = some r0) : (∀ (j : Nat) (r : Int × List Val), j < i + 1 → rows[j]? = some r → P r) ↔ (∀ (j : Nat) (r : Int × List Val), j < i → rows[j]? = some r → P r) ∧ P r0 := by
  refine ⟨fun h => ⟨fun j r hj => h j r (by omega), h i r0 (Nat.lt_succ_self i) hi⟩, fun h j r hj hr => ?_⟩
  rcases Nat.lt_succ_iff_lt_or_eq.mp hj with z | z
  · exact h.1 j r z hr
  · subst z; rw [hi] at hr; cases hr; exact h.2
theorem col_ok {α : Type} {gs : List α} {H : Prop} {P : Nat → Prop} {p : Nat} (h : gs = [] ↔ H ∧ ∀ q, q < p → P q) (hp : P p) : gs = [] ↔ H ∧ ∀ q, q < p + 1 → P q := by
  rw [h]
  refine ⟨fun x => ⟨x.1, fun q hq => ?_⟩, fun x => ⟨x.1, fun q hq => x.2 q (by omega)⟩⟩
  rcases Nat.lt_succ_iff_lt_or_eq.mp hq with z | z
  · exact x.2 q z
  · rw [z]; exact hp
theorem col_bad {α : Type} {gs : List α} {v : α} {H : Prop} {P : Nat → Prop} {p : Nat} (hp : ¬ P p) : gs ++ [v] = [] ↔ H ∧ ∀ q, q < p + 1 → P q :=
  ⟨fun e => by simp at e, fun x => absurd (x.2 p (Nat.lt_succ_self p)) hp⟩
theorem ColumnsAre.length {w : World} {h : Heap} : ∀ {vs : List Value} {bs : List Bool}, ColumnsAre w h vs bs → vs.length = bs.length
  | [], [], _ => rfl
  | _ :: _, _ :: _, ⟨_, r⟩ => by rw [List.length_cons, List.length_cons, ColumnsAre.length r]
/-- a row that check_rows lets pass -/
def RowFine (rp : Val) (nns : List Bool) (r : Int × List Val) : Prop := r.2.length ≤ 3 ∧ ∀ p : Nat, p < 3 → nns[p]? = some true → rowVal rp (p : Int) r.1 r.2 ≠ none
theorem fine_step {G : Prop} {rp : Val} {nns : List Bool} {r : Int × List Val} {p : Nat} {P : Nat → Prop} (h : G ↔ ∀ q, q < p → P q) (hp : P p) : G ↔ ∀ q, q < p + 1 → P q := by
  rw [h]
  refine ⟨fun x q hq => ?_, fun x q hq => x q (by omega)⟩
  rcases Nat.lt_succ_iff_lt_or_eq.mp hq with z | z
  · exact x q z
  · rw [z]; exact hp
theorem len_snocp {α : Type} {l : List α} {x : α} {n : Nat} (h : l.length ≤ n) : (l ++ [x]).length ≤ n + 1 := by rw [List.length_append, List.length_singleton]; exact Nat.succ_le_succ h
theorem true_false {b : Bool} (h : b = false) (k : b = true) : False := by rw [h] at k; cases k
theorem some_none {α : Type} {x : Option α} {i : α} (h : x = some i) (z : x = none) : False := by rw [h] at z; cases z
theorem long_bad {α : Type} {l : List α} {x : α} {H : Prop} {n : Nat} (h : 3 < n) : l ++ [x] = [] ↔ H ∧ n ≤ 3 := ⟨fun e => by simp at e, fun z => absurd z.2 (Nat.not_le_of_lt h)⟩
theorem and_right3 {H P : Prop} (h : P) : H ↔ H ∧ P := ⟨fun x => ⟨x, h⟩, fun x => x.1⟩
section
variable {w : World} {mean : ExcName → Option Value} {mg mb : Str → Option Value}
  {dp un : Nat} {gd : Option (List Code)} {cn : Str} {cs : Scope} {a : Addr} {ccd : Value} {cl : List (Str × Addr)} {outer : List Env} {A₀ : Around} {base h₀ : Heap} {L : Addr} {m : Str → Option Value} {news : List (Addr × Obj)} {s : Shared} {Q E : Value → Shared → Prop}
theorem use_rv {x lc lv : Addr} {rp : Val} {p rid : Int} {tp tr : Tok} {vs : List Value} {ds : List Val} (S : Site w mean mg mb dp un 4 cs outer A₀ base h₀ L m s news := by ktn_no "site") (hp : IsTab w s.heap x lc rp ∧ s.heap.IsList lv (List.toArray vs)) (hp0 : -1 ≤ p) (hv1 : ValsAre vs ds) (hd1 : ds.length ≤ 40)
    (nn : ∀ h' tk', Fr h₀ L h' m → News h₀ L h' news → rowVal rp p rid ds = none → Q .none { s with heap := h', toks := tk' })
    (ss : ∀ i t h' tk', Fr h₀ L h' m → News h₀ L h' news → rowVal rp p rid ds = some i → Q (.int i t) { s with heap := h', toks := tk' }) :
    wpAny (model PySem.Challenge.rw_nt0120_01.row.prog w) (ktrTop dp un gd cn cs L a ccd cl outer) (call (.ref 305) [.ref x, .int p tp, .int rid tr, .ref lv]) Q E s :=
  useR S hp (ct_rowval hp0 hv1 hd1) fun r h' tk' F' N' hr => by
    cases e : rowVal rp p rid ds with
    | none => rw [e] at hr; rw [show r = .none from hr]; exact nn h' tk' F' N' e
    | some i => rw [e] at hr; exact hr.elim fun t z => z ▸ ss i t h' tk' F' N' e
end
set_option maxHeartbeats 4000000 in
theorem ct_checkrows {w : World} {mean mg mb} {xt lct lf lrw : Addr} {nf : Nat} {rp : Val} {nns : List Bool} {rvs : List Value} {rows : List (Int × List Val)} (hnl : nns.length = 3) (hrl : rows.length ≤ 10) (hrd : ∀ r ∈ rows, r.2.length ≤ 40) (hrb : ∀ r ∈ rows, 0 ≤ r.1 ∧ r.1 < 1000) : Tell w mean mg mb 324 14 [.ref lf, .ref xt, .ref lrw] [(lf, PySem.W.listOf #[] nf)] (fun h => ∃ k : Heap, (∀ b o, k.get? b = some o → h.get? b = some o ∧ b ∉ List.map (fun p : Addr × Obj => p.1) [(lf, PySem.W.listOf #[] nf)]) ∧ IsTabF w k xt lct rp nns ∧ k.IsList lrw (List.toArray rvs) ∧ RowsAre k rvs rows) (fun _ r h' => ∃ fs nf', h'.get? lf = some (PySem.W.listOf (List.toArray fs) nf') ∧ (fs = [] ↔ ∀ r ∈ rows, RowFine rp nns r)) := by
  revert w mean mg mb xt lct lf lrw nf rp nns rvs rows hnl hrl hrd hrb
  ((refine @all8 _ _ _ _ _ _ _ _ (by ktn_no "ne") (by ktn_no "ne") (by ktn_no "ne") (by ktn_no "ne") (by ktn_no "ne") (by ktn_no "ne") (by ktn_no "ne") (by ktn_no "ne") _ ?_; generalize E8a _ _ _ _ _ _ _ _ _ = w, E8b _ _ _ _ _ _ _ _ _ = mean, E8c _ _ _ _ _ _ _ _ _ = mg, E8d _ _ _ _ _ _ _ _ _ = mb, E8e _ _ _ _ _ _ _ _ _ = xt, E8f _ _ _ _ _ _ _ _ _ = lct, E8g _ _ _ _ _ _ _ _ _ = lf, E8h _ _ _ _ _ _ _ _ _ = lrw); (refine @all5 _ _ _ _ _ (by ktn_no "ne") (by ktn_no "ne") (by ktn_no "ne") (by ktn_no "ne") (by ktn_no "ne") _ ?_; generalize E5a _ _ _ _ _ _ = nf, E5b _ _ _ _ _ _ = rp, E5c _ _ _ _ _ _ = nns, E5d _ _ _ _ _ _ = rvs, E5e _ _ _ _ _ _ = rows; intro hnl hrl hrd hrb))
  (refine tell_in _ _ _ _ _ _ _ _ _ _ ?_; k_fill; generalize TX.dp (tx _ _ _ _ _ _ _ _ _ _) = dp, TX.un (tx _ _ _ _ _ _ _ _ _ _) = un, TX.gd (tx _ _ _ _ _ _ _ _ _ _) = gd, TX.cn (tx _ _ _ _ _ _ _ _ _ _) = cn, TX.cs (tx _ _ _ _ _ _ _ _ _ _) = cs, TX.a (tx _ _ _ _ _ _ _ _ _ _) = a, TX.ccd (tx _ _ _ _ _ _ _ _ _ _) = ccd, TX.cl (tx _ _ _ _ _ _ _ _ _ _) = cl, TX.outer (tx _ _ _ _ _ _ _ _ _ _) = outer, TX.A₀ (tx _ _ _ _ _ _ _ _ _ _) = A₀, TX.base (tx _ _ _ _ _ _ _ _ _ _) = base, TX.h₀ (tx _ _ _ _ _ _ _ _ _ _) = h₀, TX.L (tx _ _ _ _ _ _ _ _ _ _) = L, TX.m (tx _ _ _ _ _ _ _ _ _ _) = m, TX.s (tx _ _ _ _ _ _ _ _ _ _) = s, TX.Q (tx _ _ _ _ _ _ _ _ _ _) = Q, TX.E (tx _ _ _ _ _ _ _ _ _ _) = E; intro B F X N T hk hpre hd hu hret)
  (refine ex1 (hpre) ?_; generalize X1a _ _ = k; intro q90; generalize (q90).1 = hk1, (q90).2.1 = p4, (q90).2.2.1 = p6, (q90).2.2.2 = p7; clear q90)
  (generalize (p4).1 = p4, (p4).2 = r90; refine ex1 (r90) ?_; generalize X1a _ _ = cs0; intro q91; generalize (q91).1 = p8, (q91).2 = p9; clear q91)
  ktr_enter
  rename KeepB _ _ _ => kg0
  have kk : ∀ b o, k.get? b = some o → _ := fun b o e => kg0 b o (hk1 b o e).1 (hk1 b o e).2
  have It := isTab_keep p4 kk
  have Ir : Heap.IsList _ lrw (List.toArray rvs) := let ⟨o, e, r⟩ := p6; ⟨o, kk _ _ e, r⟩
  have Il : Heap.IsList _ lct (List.toArray cs0) := let ⟨o, e, r⟩ := p8; ⟨o, kk _ _ e, r⟩
  have Iw := rowsAre_keep p7 kk
  have Ic := p9.keep kk
  have hcl := Ic.length
  (have z99 := hcl; rw [hnl] at z99; try clear hcl; have hcl := z99; clear z99)
  refine tab_out It ?_
  ((refine all8 ?_; generalize E8a _ _ _ _ _ _ _ _ _ = dx, E8b _ _ _ _ _ _ _ _ _ = t1, E8c _ _ _ _ _ _ _ _ _ = t2, E8d _ _ _ _ _ _ _ _ _ = t3, E8e _ _ _ _ _ _ _ _ _ = t4, E8f _ _ _ _ _ _ _ _ _ = t5, E8g _ _ _ _ _ _ _ _ _ = t6, E8h _ _ _ _ _ _ _ _ _ = t7); (refine all8 ?_; generalize E8a _ _ _ _ _ _ _ _ _ = t8, E8b _ _ _ _ _ _ _ _ _ = tn, E8c _ _ _ _ _ _ _ _ _ = rt, E8d _ _ _ _ _ _ _ _ _ = rpv, E8e _ _ _ _ _ _ _ _ _ = l1, E8f _ _ _ _ _ _ _ _ _ = l2, E8g _ _ _ _ _ _ _ _ _ = sq, E8h _ _ _ _ _ _ _ _ _ = l3; intro i1 i2 i3))
  have Ixt := inst_of i1 i2
  (repeat' ((fail_if_success (ktn_no "stop")); first | (k_unfold; (try dsimp only)) | walk1 | (dsimp only; walk1)))
  refine forA ?_
  (repeat' ((fail_if_success (ktn_no "stop")); first | (k_unfold; (try dsimp only)) | walk1 | (dsimp only; walk1)))
  with_reducible rename Fr _ _ _ _ => F2
  with_reducible rename News _ _ _ _ => N2
  refine iterPS (fun i k9 => ∀ fs nf' (m : Str → Option Value), (fs.length ≤ 4 * i) → ((fs = [] ↔ ∀ (j : Nat) (r : Int × List Val), j < i → rows[j]? = some r → RowFine rp nns r)) → k9 (over [(Str.ofString "faults", (.ref lf)), (Str.ofString "table", (.ref xt)), (Str.ofString "rows", (.ref lrw))] m) [(lf, PySem.W.listOf (List.toArray fs) nf')]) rfl (by ktn_no "b_list") (.inl (let ⟨o, e, _⟩ := Ir; ⟨o, e⟩)) (fr_over' (es := [(Str.ofString "faults", _), (Str.ofString "table", _), (Str.ofString "rows", _)]) F2 ⟨rfl, rfl, rfl, trivial⟩) N2
    (fun _ k9 => k9 ([]) (_) _ (Nat.le_refl _) (by simp)) ?_ ?_ ?_
  · ((refine all2 ?_; generalize E2a _ _ _ = i, E2b _ _ _ = v; intro hv); (refine all3 ?_; generalize E3a _ _ _ _ = fs, E3b _ _ _ _ = nf', E3c _ _ _ _ = m₁; intro hfl hfs); (refine all4 ?_; generalize E4a _ _ _ _ _ = h9, E4b _ _ _ _ _ = tk, E4c _ _ _ _ _ = I, E4d _ _ _ _ _ = o; intro F6 N5 hI))
    clear F2 N2
    (refine ex2 (ex_pair (Iw.2 i v hv)) ?_; generalize X2a _ _ _ = rid, X2b _ _ _ = ds; intro q90; generalize (q90).1 = hrow, (q90).2 = r91; clear q90; refine ex4 (r91) ?_; generalize X4a _ _ _ _ _ = a9, X4b _ _ _ _ _ = lv9, X4c _ _ _ _ _ = tv9, X4d _ _ _ _ _ = vs9; intro q92; generalize (q92).1 = z93_0, (q92).2.1 = w1, (q92).2.2.1 = w2, (q92).2.2.2 = w3; clear q92; subst z93_0)
    have hdl := hrd (rid, ds) (List.mem_of_getElem? hrow)
    (generalize (hrb (rid, ds) (List.mem_of_getElem? hrow)).1 = hri0, (hrb (rid, ds) (List.mem_of_getElem? hrow)).2 = hri1)
    dsimp only at hdl w1 w3 hri0 hri1
    have hil : i < rows.length := (List.getElem?_eq_some_iff.mp hrow).1
    have n2 : @Ne Nat lf I := hI _ (.head _)
    have hwl : fs.length ≤ 100 := by omega
    have hvl := ValsAre.length w3
    refine assign_Tuple_tuple rfl (F6.tup w1) rfl rfl ?_
    ((refine all1 ?_; generalize E1a _ _ = h₅; intro he))
    have he' : ∀ b o, h9.get? b = some o → h₅.get? b = some o := fun b o e => he b o (Nat.ne_of_lt (Heap.lt_size e)) e
    have F7 := F6.keeps he'
    have N7 := N5.grown he'
    clear F6 N5
    refine assignInOrder_cons ?_
    show wpAny _ _ (assign _ _ _) _ _ _
    (repeat' ((fail_if_success (with_reducible show wpAny _ _ (exec (Stmt.If _ _ _ _) _) _ _ _)); (fail_if_success (ktn_no "stop")); first | (k_unfold; (try dsimp only)) | walk1 | (dsimp only; walk1)))
    with_reducible rename Fr _ _ _ _ => F8
    with_reducible rename News _ _ _ _ => N8
    refine cutJ F8 (fun k => ∀ (gs : List Value) (ng : Nat) (m : Str → Option Value), gs.length ≤ fs.length + 1 → (gs = [] ↔ ((∀ (j : Nat) (r : Int × List Val), j < i → rows[j]? = some r → RowFine rp nns r) ∧ ds.length ≤ 3)) → k (over [(Str.ofString "faults", (.ref lf)), (Str.ofString "table", (.ref xt)), (Str.ofString "rows", (.ref lrw)), (Str.ofString "rowid", (.int rid tv9)), (Str.ofString "values", (.ref lv9))] m) [(I, o), (lf, PySem.W.listOf (List.toArray gs) ng)]) ?_ ?_
    · ((refine all1 ?_; generalize E1a _ _ = G9; intro hG9))
      by_cases hlong : 3 < ds.length
      · (repeat' ((fail_if_success (ktn_no "stop")); first | (k_unfold; (try dsimp only)) | walk1 | (dsimp only; walk1)))
        with_reducible rename Fr _ _ _ _ => F9
        with_reducible rename News _ _ _ _ => N9
        try simp only [List.push_toArray] at N9
        exact hG9 (fs ++ [_]) (nf' + 1) _ (len_snocp (Nat.le_refl _)) (long_bad hlong) _ _ (fr_over' (es := [(Str.ofString "faults", _), (Str.ofString "table", _), (Str.ofString "rows", _), (Str.ofString "rowid", _), (Str.ofString "values", _)]) F9 ⟨rfl, rfl, rfl, rfl, rfl, trivial⟩) (List.forall_mem_cons.mpr ⟨N9 _ (by k_mem), List.forall_mem_cons.mpr ⟨N9 _ (by k_mem), fun _ h => nomatch h⟩⟩)
      · (repeat' ((fail_if_success (ktn_no "stop")); first | (k_unfold; (try dsimp only)) | walk1 | (dsimp only; walk1)))
        with_reducible rename Fr _ _ _ _ => F9
        with_reducible rename News _ _ _ _ => N9
        exact hG9 fs nf' _ (Nat.le_succ _) (hfs.trans (and_right3 (Nat.le_of_not_lt hlong))) _ _ (fr_over' (es := [(Str.ofString "faults", _), (Str.ofString "table", _), (Str.ofString "rows", _), (Str.ofString "rowid", _), (Str.ofString "values", _)]) F9 ⟨rfl, rfl, rfl, rfl, rfl, trivial⟩) (List.forall_mem_cons.mpr ⟨N9 _ (by k_mem), List.forall_mem_cons.mpr ⟨N9 _ (by k_mem), fun _ h => nomatch h⟩⟩)
    · ((refine all3 ?_; generalize E3a _ _ _ _ = fs9, E3b _ _ _ _ = nf9, E3c _ _ _ _ = m9; intro hfl9 hfs9); (refine all2 ?_; generalize E2a _ _ _ = h6, E2b _ _ _ = tk6; intro F9 N9))
      clear F8 N8
      (repeat' ((fail_if_success (ktn_no "stop")); first | (k_unfold; (try dsimp only)) | walk1 | (dsimp only; walk1)))
      refine forA ?_
      (repeat' ((fail_if_success (ktn_no "stop")); first | (k_unfold; (try dsimp only)) | walk1 | (dsimp only; walk1)))
      with_reducible rename Fr _ _ _ _ => F8
      with_reducible rename News _ _ _ _ => N8
      with_reducible rename IsRange _ _ _ _ _ _ _ _ => hr
      refine iterRS (fun p k9 => ∀ gs ng (m : Str → Option Value), (gs.length ≤ fs.length + 1 + p) → ((gs = [] ↔ ((∀ (j : Nat) (r : Int × List Val), j < i → rows[j]? = some r → RowFine rp nns r) ∧ ds.length ≤ 3) ∧ ∀ q, q < p → (nns[q]? = some true → rowVal rp (q : Int) rid ds ≠ none))) → k9 (over [(Str.ofString "faults", (.ref lf)), (Str.ofString "table", (.ref xt)), (Str.ofString "rows", (.ref lrw)), (Str.ofString "rowid", (.int rid tv9)), (Str.ofString "values", (.ref lv9))] m) [(I, o), (lf, PySem.W.listOf (List.toArray gs) ng)]) rfl hr (rsmall0 (by omega)) (rsize0 _) (fr_over' (es := [(Str.ofString "faults", _), (Str.ofString "table", _), (Str.ofString "rows", _), (Str.ofString "rowid", _), (Str.ofString "values", _)]) F8 ⟨rfl, rfl, rfl, rfl, rfl, trivial⟩) N8 (fun _ k9 => k9 (fs9) (nf9) _ (by omega) (hfs9.trans ⟨fun h => ⟨h, fun q hq => absurd hq (Nat.not_lt_zero q)⟩, fun h => h.1⟩)) ?_ ?_
      · clear F8 N8 hr
        ((refine all2 ?_; generalize E2a _ _ _ = p, E2b _ _ _ = tp; intro hlt); (refine all3 ?_; generalize E3a _ _ _ _ = gs, E3b _ _ _ _ = ng, E3c _ _ _ _ = m₂; intro hgl hgs); (refine all4 ?_; generalize E4a _ _ _ _ _ = h8, E4b _ _ _ _ _ = tk8, E4c _ _ _ _ _ = I2, E4d _ _ _ _ _ = o2; intro F10 N9 hI2))
        rw [Int.zero_add]
        (refine ex1 ((⟨nns[p]'(by omega), List.getElem?_eq_getElem (by omega)⟩ : ∃ b, nns[p]? = some b)) ?_; generalize X1a _ _ = b; intro hb)
        refine col_out Ic hb ?_
        ((refine all8 ?_; generalize E8a _ _ _ _ _ _ _ _ _ = ca, E8b _ _ _ _ _ _ _ _ _ = cd9, E8c _ _ _ _ _ _ _ _ _ = c1, E8d _ _ _ _ _ _ _ _ _ = c2, E8e _ _ _ _ _ _ _ _ _ = c3, E8f _ _ _ _ _ _ _ _ _ = c4, E8g _ _ _ _ _ _ _ _ _ = c5, E8h _ _ _ _ _ _ _ _ _ = c6); (refine all4 ?_; generalize E4a _ _ _ _ _ = nm, E4b _ _ _ _ _ = tn9, E4c _ _ _ _ _ = af, E4d _ _ _ _ _ = cl9; intro hc0 hc1 hc2 hnm))
        have hcv : cs0[((p : Nat) : Int).toNat]? = some (.ref ca) := hc0
        have Icol := inst_of hc1 hc2
        have hp1 : -1 ≤ (p : Int) := by omega
        have n3 : @Ne Nat lf I2 := hI2 _ (.tail _ (.head _))
        have n4 : @Ne Nat I I2 := hI2 _ (.head _)
        have hwg : gs.length ≤ 100 := by omega
        refine wpAny_assign_Name ?_
        (repeat' ((fail_if_success (ktn_no "stop")); first | ((with_reducible show wpAny _ _ (binaryOp Operator.Add (Value.str _ _) (Value.str _ _)) _ _ _); (refine' add_str_lit ?hx ?hy ?_; (case hx => decide); (case hy => assumption); intro _ _)) | ((with_reducible show wpAny _ _ (PySem.call (Value.ref 305) _) _ _ _); k_dflt (refine use_rv (hp := by exact ⟨isTab_keep (by assumption) (Fr.keep (by assumption)), by ktn_no "b_list"⟩) (hp0 := by assumption) (hv1 := by assumption) (hd1 := by omega) (nn := ?n9) (ss := ?s9)); (case' s9 => ((refine all4 ?_; ktn_no "g4"; intro _ _ _))); (case' n9 => ((refine all2 ?_; ktn_no "g2"; intro _ _ _)))) | (k_unfold; (try dsimp only)) | walk1 | (dsimp only; walk1)))
        · with_reducible rename Fr _ _ _ _ => F8
          with_reducible rename News _ _ _ _ => N8
          try simp only [List.push_toArray] at N8
          refine' Turned.next [(I, o), (lf, PySem.W.listOf (List.toArray (gs ++ [_])) (ng + 1))] (fr_over' (es := [(Str.ofString "faults", _), (Str.ofString "table", _), (Str.ofString "rows", _), (Str.ofString "rowid", _), (Str.ofString "values", _)]) F8 ⟨rfl, rfl, rfl, rfl, rfl, trivial⟩) N8 ?mI ?mem ?ne ?J
          case mI => k_mem
          case mem => ktn_no "subs"
          case ne => k_all
          case J => exact fun _ k9 => k9 (gs ++ [_]) (ng + 1) _ (len_snocp hgl) (col_bad fun z => z (hb.trans (congrArg some (by assumption))) (by assumption))
        · with_reducible rename Fr _ _ _ _ => F8
          with_reducible rename News _ _ _ _ => N8
          try simp only [List.push_toArray] at N8
          refine' Turned.next [(I, o), (lf, PySem.W.listOf (List.toArray gs) ng)] (fr_over' (es := [(Str.ofString "faults", _), (Str.ofString "table", _), (Str.ofString "rows", _), (Str.ofString "rowid", _), (Str.ofString "values", _)]) F8 ⟨rfl, rfl, rfl, rfl, rfl, trivial⟩) N8 ?mI ?mem ?ne ?J
          case mI => k_mem
          case mem => ktn_no "subs"
          case ne => k_all
          case J => exact fun _ k9 => k9 gs ng _ (Nat.le_succ_of_le hgl) (col_ok hgs fun _ z => some_none (by assumption) z)
        · with_reducible rename Fr _ _ _ _ => F8
          with_reducible rename News _ _ _ _ => N8
          try simp only [List.push_toArray] at N8
          refine' Turned.next [(I, o), (lf, PySem.W.listOf (List.toArray gs) ng)] (fr_over' (es := [(Str.ofString "faults", _), (Str.ofString "table", _), (Str.ofString "rows", _), (Str.ofString "rowid", _), (Str.ofString "values", _)]) F8 ⟨rfl, rfl, rfl, rfl, rfl, trivial⟩) N8 ?mI ?mem ?ne ?J
          case mI => k_mem
          case mem => ktn_no "subs"
          case ne => k_all
          case J => exact fun _ k9 => k9 gs ng _ (Nat.le_succ_of_le hgl) (col_ok hgs fun q => (true_false (by assumption) (Option.some.inj (hb.symm.trans q))).elim)
      · clear F8 N8 hr
        ((refine all3 ?_; generalize E3a _ _ _ _ = gs, E3b _ _ _ _ = ng, E3c _ _ _ _ = m₂; intro hgl hgs); (refine all2 ?_; generalize E2a _ _ _ = h8, E2b _ _ _ = tk8; intro F9 N9))
        (have z99 := hgs; rw [hcl] at z99; try clear hgs; have hgs := z99; clear z99)
        (have z99 := hgl; rw [hcl] at z99; try clear hgl; have hgl := z99; clear z99)
        (repeat' ((fail_if_success (ktn_no "stop")); first | (k_unfold; (try dsimp only)) | walk1 | (dsimp only; walk1)))
        with_reducible rename Fr _ _ _ _ => F8
        with_reducible rename News _ _ _ _ => N8
        refine' Turned.next [(lf, PySem.W.listOf (List.toArray gs) ng)] (fr_over' (es := [(Str.ofString "faults", _), (Str.ofString "table", _), (Str.ofString "rows", _)]) F8 ⟨rfl, rfl, rfl, trivial⟩) N8 ?mI ?mem ?ne ?J
        case mI => k_mem
        case mem =>
          ktn_no "subs"
        case ne =>
          k_all
        case J => (refine' fun _ k9 => k9 gs ng _ ?c0 ?c1; (case c0 => omega); (case c1 => exact hgs.trans (by rw [all_next hrow]; exact and_assoc)))
  · ((refine all3 ?_; generalize E3a _ _ _ _ = fs, E3b _ _ _ _ = nf', E3c _ _ _ _ = m₁; intro hfl hfs); (refine all2 ?_; generalize E2a _ _ _ = h9, E2b _ _ _ = tk; intro F5 N5))
    clear F2 N2
    (repeat' ((fail_if_success (ktn_no "stop")); first | (k_unfold; (try dsimp only)) | walk1 | (dsimp only; walk1)))
    with_reducible rename Fr _ _ _ _ => F8
    with_reducible rename News _ _ _ _ => N8
    (have z99 := hfs; rw [Iw.1] at z99; try clear hfs; have hfs := z99; clear z99)
    exact back_intro F8 fun f k => hret _ _ _ f k ⟨fs, nf', N8.get (by k_mem), hfs.trans ⟨fun h r hr => (let ⟨j, hj⟩ := List.getElem?_of_mem hr; h j r (List.getElem?_eq_some_iff.mp hj).1 hj), fun h j r _ hj => h r (List.mem_of_getElem? hj)⟩⟩
  · rintro I j h v tk Q E1 hI hv q
    (refine ex1 (List.getElem?_of_mem hv) ?_; generalize X1a _ _ = i; intro hi)
    (refine ex1 (Iw.2 i v hi) ?_; generalize X1a _ _ = r; intro q90; generalize (q90).1 = z91_0, (q90).2 = r91; clear q90; clear z91_0; refine ex4 (r91) ?_; generalize X4a _ _ _ _ _ = a9, X4b _ _ _ _ _ = lv9, X4c _ _ _ _ _ = tv9, X4d _ _ _ _ _ = vs9; intro q92; generalize (q92).1 = z93_0, (q92).2 = r93; clear q92; subst z93_0; clear r93)
    exact wpAny_letOwnedTupleGo_listiter hI q
end
/-! ## NHELD -/
section
/-- all that stands in h beside h₀, L and ex -/
def tailOf (h₀ : Heap) (L : Addr) (ex : List Addr) (h : Heap) : List (Addr × Obj) :=
  (List.range h.objs.size).filterMap fun b => if b = L ∨ b ∈ ex ∨ (h₀.get? b).isSome then none else (h.get? b).map fun o => (b, o)
theorem mem_tail {h₀ h : Heap} {L : Addr} {ex : List Addr} {b : Addr} {o : Obj} : (b, o) ∈ tailOf h₀ L ex h ↔ h.get? b = some o ∧ b ≠ L ∧ b ∉ ex ∧ h₀.get? b = none := by
  unfold tailOf
  rw [List.mem_filterMap]
  constructor
  · rintro ⟨a, _, e⟩
    split at e
    · cases e
    · rename_i hc
      obtain ⟨o', ho, hp⟩ := Option.map_eq_some_iff.mp e
      cases hp
      refine ⟨ho, fun q => hc (.inl q), fun q => hc (.inr (.inl q)), ?_⟩
      cases q : h₀.get? b with
      | none => rfl
      | some x => exact absurd (.inr (.inr (by rw [q]; rfl))) hc
  · intro hJ99
    refine hide fun G99 hG99 => ?_
    obtain ⟨e, n1, n2, n3⟩ := hJ99
    refine hG99 ?_
    clear hG99 G99
    refine ⟨b, List.mem_range.mpr (Heap.lt_size e), ?_⟩
    rw [if_neg (by rintro (q | q | q); exact n1 q; exact n2 q; rw [n3] at q; cases q), e]
    rfl
/-- V is held: by the base, or by the tail of the ledger -/
structure Held (h₀ : Heap) (ex : List Addr) (T : List (Addr × Obj)) (V : Heap) : Prop where
  sub : ∀ b o, V.get? b = some o → h₀.get? b = some o ∨ (b, o) ∈ T
  off : ∀ p ∈ T, p.1 ∉ ex
  voff : ∀ b o, V.get? b = some o → b ∉ ex
theorem Held.now {h₀ h V : Heap} {L : Addr} {ex : List Addr} {T n : List (Addr × Obj)} {m : Str → Option Value} (H : Held h₀ ex T V) (F : Fr h₀ L h m) (N : News h₀ L h n) (hs : ∀ p ∈ T, p ∈ n) : ∀ b o, V.get? b = some o → h.get? b = some o :=
  fun b o e => (H.sub b o e).elim (F.keep b o) fun hm => (N _ (hs _ hm)).1
/-- the whole heap held anew, but for ex -/
theorem hold {h₀ h : Heap} {L : Addr} {ex : List Addr} {xs : List (Addr × Obj)} {m : Str → Option Value} (F : Fr h₀ L h m) (N : News h₀ L h xs) (hex : ex = xs.map (·.1)) (hx0 : ∀ a ∈ ex, h₀.get? a = none) :
    ∃ T V, News h₀ L h (xs ++ T) ∧ Held h₀ ex T V ∧ (∀ b o, h.get? b = some o → b ≠ L → b ∉ ex → V.get? b = some o) ∧ (∀ b o, V.get? b = some o → h.get? b = some o) := by
  refine ⟨tailOf h₀ L ex h, hideAll h (L :: ex), fun p hp => ?_, ⟨fun b o e => ?_, fun p hp => (mem_tail.mp hp).2.2.1, fun b o e hb => ?_⟩, fun b o e n1 n2 => hideAll_get _ e (by
    intro hm; rcases List.mem_cons.mp hm with q | q; exact n1 q; exact n2 q), fun b o e => of_hideAll _ e⟩
  · rcases List.mem_append.mp hp with hp | hp
    · exact N p hp
    · refine hide fun G99 hG99 => ?_
      obtain ⟨e, n1, _, n3⟩ := mem_tail.mp (show (p.1, p.2) ∈ _ from hp)
      refine hG99 ?_
      clear hG99 G99
      exact ⟨e, n1, n3⟩
  · have e' := of_hideAll _ e
    have nm : b ∉ L :: ex := fun hm => by rw [hideAll_none _ hm] at e; cases e
    cases q : h₀.get? b with
    | some o' =>
      have := F.keep _ _ q
      rw [e'] at this; cases this; exact .inl rfl
    | none => exact .inr (mem_tail.mpr ⟨e', fun z => nm (z ▸ List.mem_cons_self ..), fun z => nm (.tail _ z), q⟩)
  · rw [hideAll_none _ (.tail _ hb)] at e; cases e
/-- after a call that changes the things of xs alone -/
theorem hold_call {h₀ h h' V : Heap} {L : Addr} {ex : List Addr} {xs xs' : List (Addr × Obj)} {T n : List (Addr × Obj)} {m m' : Str → Option Value} (H : Held h₀ ex T V) (F : Fr h₀ L h m) (N : News h₀ L h n) (hT : ∀ p ∈ T, p ∈ n) (hxn : ∀ p ∈ xs, p ∈ n)
    (hex : ex = xs.map (·.1)) (hex' : ex = xs'.map (·.1)) (F' : Fr h₀ L h' m') (K : KeepB xs h h') (hx' : ∀ p ∈ xs', h'.get? p.1 = some p.2) :
    ∃ T' V', News h₀ L h' (xs' ++ T') ∧ Held h₀ ex T' V' ∧ (∀ b o, V.get? b = some o → V'.get? b = some o) ∧ (∀ b o, (newOf h h').get? b = some o → V'.get? b = some o) ∧ (∀ b o, (withNew V h h').get? b = some o → V'.get? b = some o) ∧ (∀ p ∈ n, p.1 ∉ ex → V'.get? p.1 = some p.2) := by
  have hL : ∃ oL, h.get? L = some oL := by obtain ⟨⟨oL, _, _, e, _⟩, _, _⟩ := F; exact ⟨oL, e⟩
  have exin : ∀ a ∈ ex, ∃ o, (a, o) ∈ xs := fun a ha => by
    rw [hex] at ha
    obtain ⟨p, hp, rfl⟩ := List.mem_map.mp ha
    exact ⟨p.2, hp⟩
  have N' : News h₀ L h' xs' := fun p hp => by
    have ha : p.1 ∈ ex := by rw [hex']; exact List.mem_map_of_mem hp
    obtain ⟨o, ho⟩ := exin _ ha
    have z := N _ (hxn _ ho)
    exact ⟨hx' p hp, z.2.1, z.2.2⟩
  refine hide fun G99 hG99 => ?_
  obtain ⟨T', V', n1, n2, n3, n4⟩ := hold F' N' hex' (fun a ha => by obtain ⟨o, ho⟩ := exin a ha; exact (N _ (hxn _ ho)).2.2)
  refine hG99 ?_
  clear hG99 G99
  have upV : ∀ b o, V.get? b = some o → V'.get? b = some o := fun b o e => by
    have e1 := H.now F N hT b o e
    have hb := H.voff b o e
    refine n3 b o (K b o e1 (by rw [← hex]; exact hb)) ?_ hb
    rintro rfl
    rcases H.sub _ _ e with q | q
    · have := Heap.lt_size q
      have z := F.above
      exact absurd this (Nat.not_lt.mpr z)
    · exact (N _ (hT _ q)).2.1 rfl
  have freshV : ∀ b o, h'.get? b = some o → h.get? b = none → V'.get? b = some o := fun b o e f => by
    refine n3 b o e ?_ ?_
    · rintro rfl; obtain ⟨oL, q⟩ := hL; rw [q] at f; cases f
    · intro hb; obtain ⟨o', ho⟩ := exin b hb; rw [(N _ (hxn _ ho)).1] at f; cases f
  refine ⟨T', V', n1, n2, upV, fun b o e => freshV b o (of_newOf e).1 (of_newOf e).2, fun b o e => ?_, fun p hp hb => ?_⟩
  · obtain ⟨e1, q⟩ := of_withNew e
    rcases q with ⟨o', q⟩ | q
    · have := upV b o' q
      have e2 := n4 b o' this
      rw [e1] at e2; cases e2; exact this
    · exact freshV b o e1 q
  · exact n3 _ _ (K _ _ (N p hp).1 (by rw [← hex]; exact hb)) (N p hp).2.1 hb
/-- after a call that changes nothing: other things left out, all of them new -/
theorem hold_new {h₀ h h' V : Heap} {L : Addr} {ex ex' : List Addr} {xs' : List (Addr × Obj)} {T n : List (Addr × Obj)} {m m' : Str → Option Value} (H : Held h₀ ex T V) (F : Fr h₀ L h m) (N : News h₀ L h n) (hT : ∀ p ∈ T, p ∈ n)
    (hex' : ex' = xs'.map (·.1)) (F' : Fr h₀ L h' m') (K : KeepB [] h h') (hx' : ∀ p ∈ xs', h'.get? p.1 = some p.2 ∧ h.get? p.1 = none) :
    ∃ T' V', News h₀ L h' (xs' ++ T') ∧ Held h₀ ex' T' V' ∧ (∀ b o, V.get? b = some o → V'.get? b = some o) ∧ (∀ b o, h'.get? b = some o → h.get? b = none → b ∉ ex' → V'.get? b = some o) := by
  have hL : ∃ oL, h.get? L = some oL := by obtain ⟨⟨oL, _, _, e, _⟩, _, _⟩ := F; exact ⟨oL, e⟩
  obtain ⟨oL, eL⟩ := hL
  have N' : News h₀ L h' xs' := fun p hp => by
    refine ⟨(hx' p hp).1, fun q => ?_, ?_⟩
    · have := (hx' p hp).2; rw [q, eL] at this; cases this
    · cases q : h₀.get? p.1 with
      | none => rfl
      | some o => have z := F.keep _ _ q; rw [(hx' p hp).2] at z; cases z
  obtain ⟨T', V', n1, n2, n3, n4⟩ := hold F' N' hex' (fun a ha => by
    rw [hex'] at ha
    obtain ⟨p, hp, rfl⟩ := List.mem_map.mp ha
    exact (N' p hp).2.2)
  refine ⟨T', V', n1, n2, fun b o e => ?_, fun b o e f hb => n3 b o e (fun q => by rw [q, eL] at f; cases f) hb⟩
  have e1 := H.now F N hT b o e
  refine n3 b o (K b o e1 (by simp)) ?_ fun hb => ?_
  · rintro rfl
    rcases H.sub _ _ e with q | q
    · have := Heap.lt_size q
      have z := F.above
      exact absurd this (Nat.not_lt.mpr z)
    · exact (N _ (hT _ q)).2.1 rfl
  · rw [hex'] at hb
    obtain ⟨p, hp, q⟩ := List.mem_map.mp hb
    have := (hx' p hp).2
    rw [q, e1] at this; cases this
end
/-! ## NPL1 -/
section
theorem cmpV_self (d : Val) : cmpV d d = 0 := by
  cases d <;> simp [cmpV]
theorem cmpV_zero {d e : Val} (h : cmpV d e = 0) : d = e := by
  cases d <;> cases e <;> simp only [cmpV] at h <;> (try (split at h <;> try split at h)) <;> first | rfl | (exfalso; omega) | (congr 1; omega)
theorem cmpV_anti (d e : Val) : cmpV e d = - cmpV d e := by
  cases d <;> cases e <;> simp only [cmpV] <;> (repeat' split) <;> omega
/-- a sign that turns about and goes on: what is strict of it -/
theorem sign_strict {p q r p' q' r' : Int} (hp : p' = -p) (hq : q' = -q) (hr : r' = -r) (t1 : p ≤ 0 → q ≤ 0 → r ≤ 0) (t2 : q ≤ 0 → r' ≤ 0 → p' ≤ 0) (t3 : r' ≤ 0 → p ≤ 0 → q' ≤ 0) (h1 : p ≤ 0) (h2 : q ≤ 0) : r ≤ 0 ∧ (p < 0 ∨ q < 0 → r < 0) := by
  subst hp hq hr
  refine ⟨t1 h1 h2, fun h => Int.not_le.mp fun k => ?_⟩
  have a := t2 h2 (Int.neg_nonpos_of_nonneg k)
  have b := t3 (Int.neg_nonpos_of_nonneg k) h1
  rcases h with h | h
  · exact absurd (Int.neg_pos_of_neg h) (Int.not_lt.mpr a)
  · exact absurd (Int.neg_pos_of_neg h) (Int.not_lt.mpr b)
def leV : Val → Val → Prop
  | none, _ => True
  | some _, none => False
  | some x, some y => x ≤ y
theorem leV_iff : ∀ {a b : Val}, cmpV a b ≤ 0 ↔ leV a b
  | none, none => ⟨fun _ => trivial, fun _ => by decide⟩
  | none, some _ => ⟨fun _ => trivial, fun _ => show (-1 : Int) ≤ 0 by decide⟩
  | some _, none => ⟨fun h => absurd (show (1 : Int) ≤ 0 from h) (by decide), fun h => h.elim⟩
  | some x, some y => by
    show (if x < y then (-1 : Int) else if y < x then 1 else 0) ≤ 0 ↔ x ≤ y
    by_cases h : x < y
    · rw [if_pos h]; exact ⟨fun _ => Int.le_of_lt h, fun _ => by decide⟩
    · rw [if_neg h]
      by_cases k : y < x
      · rw [if_pos k]; exact ⟨fun z => absurd z (by decide), fun z => absurd k (Int.not_lt.mpr z)⟩
      · rw [if_neg k]; exact ⟨fun _ => Int.not_lt.mp k, fun _ => by decide⟩
theorem leV_trans : ∀ {a b c : Val}, leV a b → leV b c → leV a c
  | none, _, _, _, _ => trivial
  | some _, none, _, h, _ => h.elim
  | some _, some _, none, _, h => h
  | some _, some _, some _, h, k => Int.le_trans h k
theorem cmpV_le {a b c : Val} (h1 : cmpV a b ≤ 0) (h2 : cmpV b c ≤ 0) : cmpV a c ≤ 0 := leV_iff.mpr (leV_trans (leV_iff.mp h1) (leV_iff.mp h2))
theorem cmpV_trans {a b c : Val} (h1 : cmpV a b ≤ 0) (h2 : cmpV b c ≤ 0) : cmpV a c ≤ 0 ∧ (cmpV a b < 0 ∨ cmpV b c < 0 → cmpV a c < 0) :=
  sign_strict (cmpV_anti a b) (cmpV_anti b c) (cmpV_anti a c) cmpV_le cmpV_le cmpV_le h1 h2
theorem cmpK_anti : ∀ (bs : List Bool) (ds es : List Val), cmpK bs es ds = - cmpK bs ds es
  | bs, d :: ds, e :: es => by
    have ih := cmpK_anti bs.tail ds es
    have hv := cmpV_anti d e
    simp only [cmpK, hv]
    by_cases h : cmpV d e = 0
    · simp only [h, ih]; simp
    · have h' : ¬ (- cmpV d e = 0) := by omega
      simp only [ne_eq, h, h', not_false_eq_true, if_true]
      split <;> omega
  | _, [], [] => rfl
  | _, [], _ :: _ => rfl
  | _, _ :: _, [] => rfl
theorem cmpK_self : ∀ (bs : List Bool) (ds : List Val), cmpK bs ds ds = 0
  | bs, d :: ds => by simp only [cmpK, cmpV_self]; simp [cmpK_self bs.tail ds]
  | _, [] => rfl
theorem cmpK_zero : ∀ (bs : List Bool) (ds es : List Val), ds.length = es.length → cmpK bs ds es = 0 → ds = es
  | bs, d :: ds, e :: es, hl, h => by
    simp only [cmpK] at h
    by_cases hv : cmpV d e = 0
    · simp only [hv, ne_eq, not_true_eq_false, if_false] at h
      rw [cmpV_zero hv, cmpK_zero bs.tail ds es (by simpa using hl) h]
    · simp only [ne_eq, hv, not_false_eq_true, if_true] at h
      split at h <;> omega
  | _, [], [], _, _ => rfl
  | _, [], _ :: _, hl, _ => by simp at hl
  | _, _ :: _, [], hl, _ => by simp at hl
def sgn (f : Bool) (x : Int) : Int := if f then -x else x
theorem sgn_zero {f : Bool} {x : Int} : sgn f x ≠ 0 ↔ x ≠ 0 := by
  cases f
  · exact Iff.rfl
  · exact not_congr Int.neg_eq_zero
theorem sgn_neg {f : Bool} {x : Int} : sgn f (-x) = - sgn f x := by cases f <;> rfl
theorem sgn_le {f : Bool} {a b c : Val} (h1 : sgn f (cmpV a b) ≤ 0) (h2 : sgn f (cmpV b c) ≤ 0) : sgn f (cmpV a c) ≤ 0 := by
  cases f with
  | false => exact cmpV_le h1 h2
  | true =>
    have e : ∀ x y, sgn true (cmpV x y) = cmpV y x := fun x y => (cmpV_anti x y).symm
    rw [e] at h1 h2 ⊢
    exact cmpV_le h2 h1
theorem cmpK_cons (bs : List Bool) (d e : Val) (ds es : List Val) : cmpK bs (d :: ds) (e :: es) = if sgn (bs.headD false) (cmpV d e) ≠ 0 then sgn (bs.headD false) (cmpV d e) else cmpK bs.tail ds es := by
  show (if cmpV d e ≠ 0 then sgn (bs.headD false) (cmpV d e) else cmpK bs.tail ds es) = _
  by_cases h : cmpV d e ≠ 0
  · rw [if_pos h, if_pos (sgn_zero.mpr h)]
  · rw [if_neg h, if_neg fun z => h (sgn_zero.mp z)]
theorem lex_le {p q r u v w : Int} (t : p ≤ 0 → q ≤ 0 → r ≤ 0 ∧ (p < 0 ∨ q < 0 → r < 0)) (s : u ≤ 0 → v ≤ 0 → w ≤ 0) (h1 : (if p ≠ 0 then p else u) ≤ 0) (h2 : (if q ≠ 0 then q else v) ≤ 0) : (if r ≠ 0 then r else w) ≤ 0 := by
  have le : ∀ {x y : Int}, (if x ≠ 0 then x else y) ≤ 0 → x ≤ 0 := fun {x y} h => by
    by_cases z : x ≠ 0
    · rw [if_pos z] at h; exact h
    · exact Int.le_of_eq (Decidable.not_not.mp z)
  have z := t (le h1) (le h2)
  by_cases hr : r ≠ 0
  · rw [if_pos hr]; exact z.1
  · rw [if_neg hr]
    have np : ¬ p ≠ 0 := fun k => hr (Int.ne_of_lt (z.2 (.inl (Int.lt_iff_le_and_ne.mpr ⟨le h1, k⟩))))
    have nq : ¬ q ≠ 0 := fun k => hr (Int.ne_of_lt (z.2 (.inr (Int.lt_iff_le_and_ne.mpr ⟨le h2, k⟩))))
    rw [if_neg np] at h1
    rw [if_neg nq] at h2
    exact s h1 h2
theorem cmpK_le : ∀ (bs : List Bool) (a b c : List Val), a.length = b.length → b.length = c.length → cmpK bs a b ≤ 0 → cmpK bs b c ≤ 0 → cmpK bs a c ≤ 0
  | bs, x :: a, y :: b, z :: c, l1, l2, h1, h2 => by
    rw [cmpK_cons] at h1 h2 ⊢
    exact lex_le (fun p q => sign_strict (by rw [cmpV_anti x y, sgn_neg]) (by rw [cmpV_anti y z, sgn_neg]) (by rw [cmpV_anti x z, sgn_neg]) sgn_le sgn_le sgn_le p q) (cmpK_le bs.tail a b c (Nat.succ.inj l1) (Nat.succ.inj l2)) h1 h2
  | _, [], _, _, _, _, _, _ => Int.le_refl 0
  | _, _ :: _, [], _, l, _, _, _ => nomatch l
  | _, _ :: _, _ :: _, [], _, l, _, _ => nomatch l
theorem cmpK_trans (bs : List Bool) (a b c : List Val) (l1 : a.length = b.length) (l2 : b.length = c.length) (h1 : cmpK bs a b ≤ 0) (h2 : cmpK bs b c ≤ 0) : cmpK bs a c ≤ 0 ∧ (cmpK bs a b < 0 ∨ cmpK bs b c < 0 → cmpK bs a c < 0) :=
  sign_strict (cmpK_anti bs a b) (cmpK_anti bs b c) (cmpK_anti bs a c) (cmpK_le bs a b c l1 l2) (cmpK_le bs b c a l2 (l1.trans l2).symm) (cmpK_le bs c a b (l1.trans l2).symm l1) h1 h2
def Sorted (bs : List Bool) (kss : List (List Val)) : Prop := kss.Pairwise fun a b => cmpK bs a b < 0
theorem Sorted.lt {bs : List Bool} {kss : List (List Val)} (h : Sorted bs kss) {i j : Nat} {a b : List Val} (hij : i < j) (ha : kss[i]? = some a) (hb : kss[j]? = some b) : cmpK bs a b < 0 := by
  obtain ⟨hi, rfl⟩ := List.getElem?_eq_some_iff.mp ha
  obtain ⟨hj, rfl⟩ := List.getElem?_eq_some_iff.mp hb
  exact (List.pairwise_iff_getElem.mp h) i j hi hj hij
theorem sorted_mono {bs : List Bool} {kss : List (List Val)} {es : List Val} (h : Sorted bs kss) (hl : ∀ ks ∈ kss, ks.length = es.length) :
    ∀ (i j : Nat) (ki kj : List Val), i ≤ j → kss[i]? = some ki → kss[j]? = some kj → cmpK bs kj es < 0 → cmpK bs ki es < 0 := by
  intro i j ki kj hij hi hj hlt
  rcases Nat.lt_or_eq_of_le hij with q | q
  · have h1 := h.lt q hi hj
    have l1 := hl ki (List.mem_of_getElem? hi)
    have l2 := hl kj (List.mem_of_getElem? hj)
    exact (cmpK_trans bs ki kj es (by omega) (by omega) (by omega) (by omega)).2 (.inl h1)
  · subst q
    rw [hi] at hj; cases hj; exact hlt
theorem insertIdx_eq {α : Type} : ∀ (l : List α) (p : Nat) (x : α), p ≤ l.length → l.insertIdx p x = l.take p ++ x :: l.drop p
  | l, 0, x, _ => by simp
  | [], p + 1, x, h => by simp at h
  | a :: l, p + 1, x, h => by simp [insertIdx_eq l p x (by simpa using h)]
theorem sorted_insert {bs : List Bool} {kss : List (List Val)} {es : List Val} {p : Nat} (h : Sorted bs kss) (hne : ∀ ks ∈ kss, cmpK bs ks es ≠ 0) (hp : PlaceIs bs kss es p) : Sorted bs (kss.insertIdx p es) := by
  rw [insertIdx_eq _ _ _ hp.1]
  unfold Sorted at *
  rw [List.pairwise_append, List.pairwise_cons]
  refine ⟨h.sublist (List.take_sublist _ _), ⟨fun ks hk => ?_, h.sublist (List.drop_sublist _ _)⟩, fun a ha b hb => ?_⟩
  · obtain ⟨j, hj⟩ := List.getElem?_of_mem hk
    rw [List.getElem?_drop] at hj
    have h1 := hp.2.2 _ ks hj (Nat.le_add_right _ _)
    have h2 := hne ks (List.mem_of_getElem? hj)
    have h3 := cmpK_anti bs ks es
    omega
  · obtain ⟨i, hi⟩ := List.getElem?_of_mem ha
    rw [List.getElem?_take] at hi
    split at hi
    · rename_i hip
      rcases List.mem_cons.mp hb with rfl | hb
      · exact hp.2.1 i a hi hip
      · obtain ⟨j, hj⟩ := List.getElem?_of_mem hb
        rw [List.getElem?_drop] at hj
        exact Sorted.lt (bs := bs) h (by omega : i < p + j) hi hj
    · cases hi
theorem insert_perm {α : Type} {l : List α} {p : Nat} {x : α} (h : p ≤ l.length) : (l.insertIdx p x).Perm (x :: l) := by
  rw [insertIdx_eq _ _ _ h]
  have := @List.perm_middle α x (l.take p) (l.drop p)
  rwa [List.take_append_drop] at this
end
/-! ## NPL2 -/
section
/-- the keys that are put in -/
def KssOK (bs : List Bool) (kss : List (List Val)) : Prop :=
  (∀ ks ∈ kss, (∀ d ∈ ks, Small d) ∧ ks.length ≤ bs.length) ∧ kss.Nodup ∧ kss.length ≤ 6 ∧ ((∀ ks ∈ kss, ks.length = bs.length) ∨ kss.length ≤ 1)
theorem not_take {α : Type} {l : List α} (h : l.Nodup) {i : Nat} {x : α} (hx : l[i]? = some x) : x ∉ l.take i := nodup_take.mp h i x hx
theorem ins_ok {bs : List Bool} {kss2 kss : List (List Val)} {i : Nat} {ds : List Val} (h : KssOK bs kss2) (hs : Sorted bs kss) (hp : kss.Perm (kss2.take i)) (hd : kss2[i]? = some ds) :
    (∀ (i j : Nat) (ki kj : List Val), i ≤ j → kss[i]? = some ki → kss[j]? = some kj → cmpK bs kj ds < 0 → cmpK bs ki ds < 0) ∧ (∀ ks ∈ kss, cmpK bs ks ds ≠ 0) := by
  refine hide fun G99 hG99 => ?_
  obtain ⟨h1, h2, h3, h4⟩ := h
  refine hG99 ?_
  clear hG99 G99
  have hmem : ∀ ks ∈ kss, ks ∈ kss2.take i := fun ks hk => hp.mem_iff.mp hk
  have hlen : ∀ ks ∈ kss, ks.length = ds.length := by
    intro ks hk
    rcases h4 with q | q
    · rw [q ks (List.mem_of_mem_take (hmem ks hk)), q ds (List.mem_of_getElem? hd)]
    · have hi := (List.getElem?_eq_some_iff.mp hd).1
      have : i = 0 := by omega
      subst this
      have := hmem ks hk
      simp at this
  refine ⟨sorted_mono hs hlen, fun ks hk hz => ?_⟩
  have e := cmpK_zero bs ks ds (hlen ks hk) hz
  subst e
  exact not_take h2 hd (hmem _ hk)
theorem perm_step {α : Type} {l : List α} {k : List α} {i p : Nat} {x : α} (hp : k.Perm (l.take i)) (hx : l[i]? = some x) (hpl : p ≤ k.length) : (k.insertIdx p x).Perm (l.take (i + 1)) := by
  rw [List.take_add_one, hx]
  exact (insert_perm hpl).trans ((hp.cons x).trans (List.perm_append_comm (l₁ := [x])))
end
/-! ## NPL3 -/
section
theorem hit_iff {bs : List Bool} {kss : List (List Val)} {es : List Val} (h : Sorted bs kss) (hl : ∀ ks ∈ kss, ks.length = es.length) : Hit bs kss es ↔ es ∈ kss := by
  constructor
  · intro hJ99
    refine hide fun G99 hG99 => ?_
    obtain ⟨p, ks, -, hk, hz⟩ := hJ99
    refine hG99 ?_
    clear hG99 G99
    have := cmpK_zero bs ks es (hl ks (List.mem_of_getElem? hk)) hz
    subst this
    exact List.mem_of_getElem? hk
  · intro hm
    obtain ⟨p, hp⟩ := List.getElem?_of_mem hm
    refine ⟨p, es, ⟨Nat.le_of_lt (List.getElem?_eq_some_iff.mp hp).1, fun j ks hj hjp => h.lt hjp hj hp, fun j ks hj hpj => ?_⟩, hp, cmpK_self bs es⟩
    rcases Nat.lt_or_eq_of_le hpj with q | q
    · have h1 := h.lt q hp hj
      have h2 := cmpK_anti bs es ks
      omega
    · subst q
      rw [hp] at hj; cases hj
      rw [cmpK_self]; omega
theorem cmpK_take : ∀ (n : Nat) (bs : List Bool) (a b : List Val), cmpK bs a b ≤ 0 → cmpK bs (a.take n) (b.take n) ≤ 0
  | 0, bs, a, b, _ => by simp [cmpK]
  | n + 1, bs, [], b, _ => by simp [cmpK]
  | n + 1, bs, x :: a, [], _ => by simp [cmpK]
  | n + 1, bs, x :: a, y :: b, h => by
    simp only [List.take_succ_cons, cmpK] at h ⊢
    by_cases hv : cmpV x y = 0
    · simp only [hv, ne_eq, not_true_eq_false, if_false] at h ⊢
      exact cmpK_take n bs.tail a b h
    · simp only [ne_eq, hv, not_false_eq_true, if_true] at h ⊢
      exact h
theorem nodup_iff {uq : Bool} {bs : List Bool} {nc : Nat} {kss kss2 : List (List Val)} (h : Sorted bs kss) (hp : kss.Perm kss2) (hl : ∀ ks ∈ kss, ks.length = nc + 1) :
    NoDup uq bs nc kss kss.length ↔ (uq = true → (firstsOf kss2).Nodup) := by
  have hf : (firstsOf kss).Perm (firstsOf kss2) := (hp.map _).filter _
  rw [← hf.nodup_iff]
  have hdl : ∀ ks ∈ kss, ks.dropLast = ks.take nc := fun ks hk => by rw [List.dropLast_eq_take, hl ks hk, Nat.add_sub_cancel]
  have hfe : (firstsOf kss).Nodup ↔ ∀ (i j : Nat) (a b : List Val), i < j → kss[i]? = some a → kss[j]? = some b → (a.take nc).any (·.isNone) = false → (b.take nc).any (·.isNone) = false → a.take nc ≠ b.take nc := by
    unfold firstsOf List.Nodup
    rw [List.pairwise_filter, List.pairwise_map, List.pairwise_iff_getElem]
    constructor
    · intro H i j a b hij ha hb na nb
      obtain ⟨hi, rfl⟩ := List.getElem?_eq_some_iff.mp ha
      obtain ⟨hj, rfl⟩ := List.getElem?_eq_some_iff.mp hb
      have z := H i j hi hj hij
      rw [hdl _ (List.getElem_mem hi), hdl _ (List.getElem_mem hj)] at z
      exact z (by rw [na]; rfl) (by rw [nb]; rfl)
    · intro H i j hi hj hij
      rw [hdl _ (List.getElem_mem hi), hdl _ (List.getElem_mem hj)]
      intro na nb
      exact H i j _ _ hij (List.getElem?_eq_getElem hi) (List.getElem?_eq_getElem hj) (by simpa using na) (by simpa using nb)
  rw [hfe]
  have tl : ∀ ks ∈ kss, (ks.take nc).length = nc := fun ks hk => by rw [List.length_take, hl ks hk]; omega
  constructor
  · intro H hu i j a b hij ha hb na nb e
    obtain ⟨c, hc⟩ : ∃ c, kss[j - 1]? = some c := ⟨_, List.getElem?_eq_getElem (by have := (List.getElem?_eq_some_iff.mp hb).1; omega)⟩
    have hjj : j - 1 + 1 = j := by omega
    have z := H (j - 1) c b (by rw [hjj]; exact (List.getElem?_eq_some_iff.mp hb).1) hc (by rw [hjj]; exact hb) hu nb
    have t1 : cmpK bs (c.take nc) (b.take nc) ≤ 0 := cmpK_take nc bs c b (Int.le_of_lt (h.lt (by omega) hc hb))
    have t2 : cmpK bs (a.take nc) (c.take nc) ≤ 0 := by
      by_cases q : i = j - 1
      · subst q
        rw [ha] at hc; cases hc
        rw [cmpK_self]; omega
      · exact cmpK_take nc bs a c (Int.le_of_lt (h.lt (by omega) ha hc))
    have la := tl a (List.mem_of_getElem? ha)
    have lb := tl b (List.mem_of_getElem? hb)
    have lc := tl c (List.mem_of_getElem? hc)
    have t3 := (cmpK_trans bs (a.take nc) (c.take nc) (b.take nc) (by omega) (by omega) t2 t1).2 (.inr (by omega))
    rw [e, cmpK_self] at t3
    omega
  · intro H j prev cur hj hp' hc' hu nn hz
    have e := cmpK_zero bs _ _ (by rw [tl _ (List.mem_of_getElem? hp'), tl _ (List.mem_of_getElem? hc')]) hz
    exact H hu j (j + 1) prev cur (by omega) hp' hc' (by rw [e]; exact nn) nn e
theorem keyOf_len {rp : Val} {cols : List (Int × Bool)} {r : Int} {ds : List Val} : (keyOf rp cols r ds).length = cols.length + 1 := by
  unfold keyOf; rw [List.length_append, List.length_map]; rfl
theorem keyOf_last {rp : Val} {cols : List (Int × Bool)} {r : Int} {ds : List Val} : (keyOf rp cols r ds).getLast? = some (some r) := by
  unfold keyOf; rw [List.getLast?_concat]
theorem rid_lt {rows : List (Int × List Val)} (h : RowsGood rows) (hl : rows.length ≤ 5) : ∀ r ∈ rows, 0 ≤ r.1 ∧ r.1 ≤ 13 := by
  intro r hr
  obtain ⟨i, hi⟩ := List.getElem?_of_mem hr
  have z := h i r hi
  have := (List.getElem?_eq_some_iff.mp hi).1
  have := z.1; have := z.2.1
  omega
theorem due_small {rp : Val} {cols : List (Int × Bool)} {rows : List (Int × List Val)} (h : RowsGood rows) (hl : rows.length ≤ 5) (hcb : ∀ c ∈ cols, -1 ≤ c.1 ∧ c.1 < 3) :
    ∀ ks ∈ rows.map (fun r => keyOf rp cols r.1 r.2), ∀ d ∈ ks, Small d := by
  intro ks hks d hd
  obtain ⟨r, hr, rfl⟩ := List.mem_map.mp hks
  have hb := rid_lt h hl r hr
  obtain ⟨i, hi⟩ := List.getElem?_of_mem hr
  have hg := (h i r hi).2.2.2.2
  unfold keyOf at hd
  have hsr : Small (some r.1) := by simp only [Small]; omega
  rcases List.mem_append.mp hd with hd | hd
  · obtain ⟨c, hc, rfl⟩ := List.mem_map.mp hd
    unfold rowVal
    split
    · exact hsr
    · split
      · exact hsr
      · split
        · rename_i h1
          have hp := (hcb c hc).1
          have hlt : c.1.toNat < r.2.length := by omega
          rw [List.getD_eq_getElem?_getD, List.getElem?_eq_getElem hlt]
          rcases hg _ (List.getElem_mem hlt) with e | ⟨x, e, e1, e2⟩
          · show Small (r.2[c.1.toNat]); rw [e]; trivial
          · show Small (r.2[c.1.toNat]); rw [e]; simp only [Small]; omega
        · trivial
  · rw [List.mem_singleton.mp hd]; exact hsr
theorem lasts_nodup {kss : List (List Val)} (h : (kss.map List.getLast?).Nodup) : kss.Nodup := by
  unfold List.Nodup at *
  rw [List.pairwise_map] at h
  exact h.imp fun n e => n (by rw [e])
theorem due_lasts {rp : Val} {cols : List (Int × Bool)} {rows : List (Int × List Val)} : (rows.map (fun r => keyOf rp cols r.1 r.2)).map List.getLast? = rows.map fun r => some (some r.1) := by
  rw [List.map_map]
  refine List.map_congr_left fun r _ => ?_
  exact keyOf_last
theorem rids_nodup {rows : List (Int × List Val)} (h : RowsGood rows) : (rows.map fun r => (some (some r.1) : Option Val)).Nodup := by
  unfold List.Nodup
  rw [List.pairwise_map, List.pairwise_iff_getElem]
  intro i j hi hj hij e
  have h1 := (h i _ (List.getElem?_eq_getElem hi))
  have h2 := (h j _ (List.getElem?_eq_getElem hj))
  have e' : rows[i].1 = rows[j].1 := by injection e with e; injection e
  have := h1.2.1; have := h2.1
  omega
theorem getLast_tail {x : Val} {ks : List Val} (h : 2 ≤ ks.length) : (x :: ks.tail).getLast? = ks.getLast? := by
  match ks, h with
  | a :: b :: r, _ => rfl
theorem bent_ok {bs : List Bool} {rp : Val} {cols : List (Int × Bool)} {rows : List (Int × List Val)} {kss2 : List (List Val)} (hbs : bs = cols.map (·.2) ++ [false]) (hc0 : 0 < cols.length)
    (hcb : ∀ c ∈ cols, -1 ≤ c.1 ∧ c.1 < 3) (hrg : RowsGood rows) (hrl : rows.length ≤ 5) (hb : BentOf cols.length (rows.map fun r => keyOf rp cols r.1 r.2) kss2) :
    KssOK bs kss2 ∧ (rows ≠ [] → ∀ ks ∈ kss2, ks.length = bs.length) ∧ (rows = [] → kss2 = [] ∨ kss2.length = 1) := by
  have hbl : bs.length = cols.length + 1 := by rw [hbs, List.length_append, List.length_map]; rfl
  have hds := due_small (rp := rp) hrg hrl hcb
  have hdl : ∀ ks ∈ rows.map (fun r => keyOf rp cols r.1 r.2), ks.length = bs.length := fun ks hk => by
    obtain ⟨r, _, rfl⟩ := List.mem_map.mp hk
    rw [keyOf_len, hbl]
  have hdn : ((rows.map (fun r => keyOf rp cols r.1 r.2)).map List.getLast?).Nodup := by rw [due_lasts]; exact rids_nodup hrg
  have hdlen : (rows.map (fun r => keyOf rp cols r.1 r.2)).length = rows.length := List.length_map ..
  have hd0 : rows = [] → rows.map (fun r => keyOf rp cols r.1 r.2) = [] := fun e => by rw [e]; rfl
  have hd1 : rows.map (fun r => keyOf rp cols r.1 r.2) = [] → rows = [] := fun e => List.map_eq_nil_iff.mp e
  have h50 : some (some (50 : Int)) ∉ (rows.map (fun r => keyOf rp cols r.1 r.2)).map List.getLast? := by
    rw [due_lasts]
    intro hm
    obtain ⟨r, hr, e⟩ := List.mem_map.mp hm
    have := rid_lt hrg hrl r hr
    injection e with e; injection e with e; omega
  generalize rows.map (fun r => keyOf rp cols r.1 r.2) = due at *
  have key : ∀ ks : List (List Val), (∀ k ∈ ks, (∀ d ∈ k, Small d) ∧ k.length = bs.length) → (ks.map List.getLast?).Nodup → ks.length ≤ 6 → KssOK bs ks :=
    fun ks h1 h2 h3 => ⟨fun k hk => ⟨(h1 k hk).1, Nat.le_of_eq (h1 k hk).2⟩, lasts_nodup h2, h3, .inl fun k hk => (h1 k hk).2⟩
  have fin : ∀ ks : List (List Val), (∀ k ∈ ks, (∀ d ∈ k, Small d) ∧ k.length = bs.length) → (ks.map List.getLast?).Nodup → ks.length ≤ 6 → (due = [] → ks = []) →
      KssOK bs ks ∧ (rows ≠ [] → ∀ k ∈ ks, k.length = bs.length) ∧ (rows = [] → ks = [] ∨ ks.length = 1) :=
    fun ks h1 h2 h3 h4 => ⟨key ks h1 h2 h3, fun _ k hk => (h1 k hk).2, fun e => .inl (h4 (hd0 e))⟩
  rcases hb with rfl | rfl | ⟨at', ks, hk, rfl⟩ | rfl
  · refine fin _ (fun k hk => ⟨hds k (List.mem_of_mem_drop hk), hdl k (List.mem_of_mem_drop hk)⟩) ?_ (by rw [List.length_drop]; omega) (fun e => by rw [e]; rfl)
    rw [List.map_drop]
    exact hdn.sublist (List.drop_sublist _ _)
  · have hlast : ∀ n, (ones n ++ [some (50 : Int)]).getLast? = some (some 50) := fun n => List.getLast?_concat
    have hsm : ∀ n, ∀ d ∈ ones n ++ [some (50 : Int)], Small d := by
      intro n d hd
      rcases List.mem_append.mp hd with hd | hd
      · rw [List.eq_of_mem_replicate hd]; simp only [Small]; omega
      · rw [List.mem_singleton.mp hd]; simp only [Small]; omega
    have hlen : ∀ n, (ones n ++ [some (50 : Int)]).length = n + 1 := fun n => by unfold ones; rw [List.length_append, List.length_replicate]; rfl
    have hnd : ∀ n, ((due ++ [ones n ++ [some (50 : Int)]]).map List.getLast?).Nodup := by
      intro n
      rw [List.map_append, List.nodup_append]
      refine ⟨hdn, by simp, ?_⟩
      intro a ha b hb' e
      rw [List.map_singleton, hlast, List.mem_singleton] at hb'
      rw [e, hb'] at ha
      exact h50 ha
    by_cases he : due = []
    · have her := hd1 he
      rw [if_pos he]
      have hlen1 := hlen 1
      subst he
      refine ⟨⟨fun k hk => ?_, lasts_nodup (hnd 1), by simp, .inr (by simp)⟩, fun h => absurd her h, fun _ => .inr (by simp)⟩
      rw [List.nil_append] at hk
      rw [List.mem_singleton.mp hk]
      exact ⟨hsm 1, by omega⟩
    · rw [if_neg he]
      refine fin _ (fun k hk => ?_) (hnd _) (by rw [List.length_append, List.length_singleton]; omega) (fun e => absurd e he)
      rcases List.mem_append.mp hk with hk | hk
      · exact ⟨hds k hk, hdl k hk⟩
      · rw [List.mem_singleton.mp hk]
        exact ⟨hsm _, by have := hlen cols.length; omega⟩
  · have hat := (List.getElem?_eq_some_iff.mp hk).1
    have hkm := List.mem_of_getElem? hk
    have hkl := hdl ks hkm
    have hsplit : due = due.take at' ++ [ks] ++ due.drop (at' + 1) := by
      conv => lhs; rw [← List.take_append_drop at' due]
      rw [List.append_assoc]
      congr 1
      rw [List.drop_eq_getElem_cons hat]
      have := (List.getElem?_eq_some_iff.mp hk).2
      rw [this]; rfl
    have hmap : (due.take at' ++ [some 7 :: ks.tail] ++ due.drop (at' + 1)).map List.getLast? = due.map List.getLast? := by
      conv => rhs; rw [hsplit]
      simp only [List.map_append, List.map_cons, List.map_nil]
      rw [getLast_tail (by omega)]
    refine fin _ (fun k hk => ?_) (by rw [hmap]; exact hdn) ?_ (fun e => by rw [e] at hat; simp at hat)
    · simp only [List.mem_append, List.mem_singleton] at hk
      rcases hk with (hk | rfl) | hk
      · exact ⟨hds k (List.mem_of_mem_take hk), hdl k (List.mem_of_mem_take hk)⟩
      · refine ⟨fun d hd => ?_, ?_⟩
        · rcases List.mem_cons.mp hd with rfl | hd
          · simp only [Small]; omega
          · exact hds ks hkm d (List.mem_of_mem_tail hd)
        · rw [List.length_cons, List.length_tail]; omega
      · exact ⟨hds k (List.mem_of_mem_drop hk), hdl k (List.mem_of_mem_drop hk)⟩
    · have := congrArg List.length hsplit
      simp only [List.length_append, List.length_singleton] at this ⊢
      omega
  · exact fin _ (fun k hk => ⟨hds k hk, hdl k hk⟩) hdn (by omega) (fun e => e)
theorem law_iff {uq : Bool} {bs : List Bool} {rp : Val} {cols : List (Int × Bool)} {rows : List (Int × List Val)} {kss kss2 : List (List Val)} (hbs : bs = cols.map (·.2) ++ [false]) (hc0 : 0 < cols.length)
    (hcb : ∀ c ∈ cols, -1 ≤ c.1 ∧ c.1 < 3) (hrg : RowsGood rows) (hrl : rows.length ≤ 5) (hb : BentOf cols.length (rows.map fun r => keyOf rp cols r.1 r.2) kss2) (hso : Sorted bs kss) (hpe : kss.Perm kss2) :
    (AllHit bs kss rp cols rows ∧ NoDup uq bs cols.length kss kss.length ∧ kss.length = rows.length) ↔ (SameP (rows.map fun r => keyOf rp cols r.1 r.2) kss2 ∧ (uq = true → (firstsOf kss2).Nodup)) := by
  have hbl : bs.length = cols.length + 1 := by rw [hbs, List.length_append, List.length_map]; rfl
  obtain ⟨-, hb1, hb2⟩ := bent_ok hbs hc0 hcb hrg hrl hb
  have hle := hpe.length_eq
  have main : (∀ ks ∈ kss, ks.length = bs.length) → ((AllHit bs kss rp cols rows ∧ NoDup uq bs cols.length kss kss.length ∧ kss.length = rows.length) ↔ (SameP (rows.map fun r => keyOf rp cols r.1 r.2) kss2 ∧ (uq = true → (firstsOf kss2).Nodup))) := by
    intro hkl
    rw [nodup_iff hso hpe (fun ks hk => by rw [hkl ks hk, hbl])]
    have hah : AllHit bs kss rp cols rows ↔ ∀ k ∈ rows.map (fun r => keyOf rp cols r.1 r.2), k ∈ kss2 := by
      have hi : ∀ r : Int × List Val, Hit bs kss (keyOf rp cols r.1 r.2) ↔ keyOf rp cols r.1 r.2 ∈ kss2 := fun r => by
        rw [hit_iff hso (fun ks hk => by rw [hkl ks hk, hbl, keyOf_len]), hpe.mem_iff]
      constructor
      · intro H k hk
        obtain ⟨r, hr, rfl⟩ := List.mem_map.mp hk
        obtain ⟨j, hj⟩ := List.getElem?_of_mem hr
        exact (hi r).mp (H j r (List.getElem?_eq_some_iff.mp hj).1 hj)
      · intro H j r _ hj
        exact (hi r).mpr (H _ (List.mem_map_of_mem (List.mem_of_getElem? hj)))
    rw [hah]
    unfold SameP
    rw [List.length_map, hle]
    exact ⟨fun ⟨a, b, c⟩ => ⟨⟨c.symm, a⟩, b⟩, fun ⟨⟨c, a⟩, b⟩ => ⟨a, b, c.symm⟩⟩
  by_cases hr : rows = []
  · rcases hb2 hr with e | e
    · have e' : kss = [] := List.length_eq_zero_iff.mp (by rw [hle, e]; rfl)
      exact main (fun ks hk => by rw [e'] at hk; cases hk)
    · constructor
      · rintro ⟨-, -, q⟩
        rw [hr, hle, e] at q; cases q
      · rintro ⟨⟨q, -⟩, -⟩
        rw [hr, e] at q; cases q
  · exact main (fun ks hk => hb1 hr ks (hpe.mem_iff.mp hk))
theorem law_mono {bs : List Bool} {rp : Val} {cols : List (Int × Bool)} {rows : List (Int × List Val)} {kss kss2 : List (List Val)} (hbs : bs = cols.map (·.2) ++ [false]) (hc0 : 0 < cols.length)
    (hcb : ∀ c ∈ cols, -1 ≤ c.1 ∧ c.1 < 3) (hrg : RowsGood rows) (hrl : rows.length ≤ 5) (hb : BentOf cols.length (rows.map fun r => keyOf rp cols r.1 r.2) kss2) (hso : Sorted bs kss) (hpe : kss.Perm kss2) :
    ∀ r ∈ rows, ∀ (i j : Nat) (ki kj : List Val), i ≤ j → kss[i]? = some ki → kss[j]? = some kj → cmpK bs kj (keyOf rp cols r.1 r.2) < 0 → cmpK bs ki (keyOf rp cols r.1 r.2) < 0 := by
  intro r hr
  have hbl : bs.length = cols.length + 1 := by rw [hbs, List.length_append, List.length_map]; rfl
  obtain ⟨-, hb1, -⟩ := bent_ok hbs hc0 hcb hrg hrl hb
  exact sorted_mono hso (fun ks hk => by rw [hb1 (List.ne_nil_of_mem hr) ks (hpe.mem_iff.mp hk), hbl, keyOf_len])
end
/-! ## NLW0 -/
section
open PySem PySem.Spec PySem.Calls PySem.W PyProof.Rows PyProof.Rows.LCg
/-- other things left out: V's things are kept -/
theorem hold_re {h₀ h h' V : Heap} {L : Addr} {ex ex' : List Addr} {xs' : List (Addr × Obj)} {T n : List (Addr × Obj)} {m m' : Str → Option Value} (H : Held h₀ ex T V) (F : Fr h₀ L h m) (N : News h₀ L h n) (hT : ∀ p ∈ T, p ∈ n)
    (F' : Fr h₀ L h' m') (hk : ∀ b o, b ∉ ex → h.get? b = some o → h'.get? b = some o) (hex' : ex' = xs'.map (·.1)) (hx' : ∀ p ∈ xs', h'.get? p.1 = some p.2 ∧ (∃ o, (p.1, o) ∈ n) ∧ V.get? p.1 = none) :
    ∃ T' V', News h₀ L h' (xs' ++ T') ∧ Held h₀ ex' T' V' ∧ (∀ b o, V.get? b = some o → V'.get? b = some o) ∧ (∀ b o, h'.get? b = some o → b ≠ L → b ∉ ex' → V'.get? b = some o) := by
  have N' : News h₀ L h' xs' := fun p hp => by
    refine hide fun G99 hG99 => ?_
    obtain ⟨e, ⟨o, ho⟩, _⟩ := hx' p hp
    refine hG99 ?_
    clear hG99 G99
    have z := N _ ho
    exact ⟨e, z.2.1, z.2.2⟩
  obtain ⟨T', V', n1, n2, n3, n4⟩ := hold F' N' hex' (fun a ha => by
    rw [hex'] at ha
    obtain ⟨p, hp, rfl⟩ := List.mem_map.mp ha
    exact (N' p hp).2.2)
  refine ⟨T', V', n1, n2, fun b o e => ?_, n3⟩
  have e1 := H.now F N hT b o e
  have hb := H.voff b o e
  refine n3 b o (hk b o hb e1) ?_ fun hm => ?_
  · rintro rfl
    rcases H.sub _ _ e with q | q
    · have := Heap.lt_size q
      have z := F.above
      exact absurd this (Nat.not_lt.mpr z)
    · exact (N _ (hT _ q)).2.1 rfl
  · rw [hex'] at hm
    obtain ⟨p, hp, q⟩ := List.mem_map.mp hm
    have := (hx' p hp).2.2
    rw [q, e] at this; cases this
theorem law_raises (ns : List Int) (cls : ExcName) : PySem.Challenge.rw_nt0120_01.row.claim.raises [ofPy (PyData.list (List.map PyData.int ns))] cls = false := rfl
theorem law_post (ns : List Int) : PySem.Challenge.rw_nt0120_01.row.claim.post [ofPy (PyData.list (List.map PyData.int ns))] (.bool true) [ofPy (PyData.list (List.map PyData.int ns))] = true := by wrow_post
theorem law_end {ns : List Int} {cl : Str → Option Addr} {mean : ExcName → Option Value} {s₁ s' : Shared} {L : Addr} {m : Str → Option Value} {b : Bool} (F : Fr s₁.heap L s'.heap m) (hb : b = true)
    (hg : AllBare s'.gens) (ho : s'.os = s₁.os) : GoodWG PySem.Challenge.rw_nt0120_01.row.claim cl mean [ofPy (PyData.list (List.map PyData.int ns))] s₁ (.ok (.ret (.bool b))) s' := by
  subst hb
  exact ⟨.inl ⟨_, _, [], rfl, law_raises ns, ReadsW.bool true, law_post ns, fun _ => ⟨List.nodup_nil, fun _ hm => (nomatch hm)⟩⟩, .of_keep F.keep, ho, hg⟩
theorem newsSub {h₀ h : Heap} {L : Addr} {n n' : List (Addr × Obj)} (N : News h₀ L h n) (x : ∀ p ∈ n', p ∈ n) : News h₀ L h n' := fun p hp => N p (x p hp)
theorem Held.lst {h₀ h V : Heap} {L a : Addr} {ex : List Addr} {T n : List (Addr × Obj)} {m : Str → Option Value} {vs : Array Value} (H : Held h₀ ex T V) (F : Fr h₀ L h m) (N : News h₀ L h n) (hs : ∀ p ∈ T, p ∈ n) (x : V.IsList a vs) : h.IsList a vs :=
  let ⟨o, e, r⟩ := x; ⟨o, H.now F N hs _ _ e, r⟩
theorem Held.tup {h₀ h V : Heap} {L a : Addr} {ex : List Addr} {T n : List (Addr × Obj)} {m : Str → Option Value} {vs : Array Value} (H : Held h₀ ex T V) (F : Fr h₀ L h m) (N : News h₀ L h n) (hs : ∀ p ∈ T, p ∈ n) (x : IsTup V a vs) : IsTup h a vs :=
  x.keeps (H.now F N hs)
theorem Held.none_ex {h₀ V : Heap} {b : Addr} {ex : List Addr} {T : List (Addr × Obj)} (H : Held h₀ ex T V) (hm : b ∈ ex) : V.get? b = none := by
  cases q : V.get? b with
  | none => rfl
  | some o => exact absurd hm (H.voff _ _ q)
theorem Held.none_of {h₀ h V : Heap} {L b : Addr} {o : Obj} {ex : List Addr} {T n : List (Addr × Obj)} (H : Held h₀ ex T V) (N : News h₀ L h n) (hm : (b, o) ∈ n) (hT : ∀ p ∈ T, p.1 ≠ b) : V.get? b = none := by
  cases q : V.get? b with
  | none => rfl
  | some o' =>
    rcases H.sub _ _ q with z | z
    · have := (N _ hm).2.2; rw [z] at this; cases this
    · exact absurd rfl (hT _ z)
section
variable {prog : Program} {w : World} {A : Around} {E : Value → Shared → Prop} {s : Shared}
theorem cutC {st : Stmt} {rest : List Stmt} {env : Env} {Q : Flow → Shared → Prop} {h₀ : Heap} {L : Addr} {m : Str → Option Value} {n : List (Addr × Obj)} (_F : Fr h₀ L s.heap m) (_N : News h₀ L s.heap n)
    (h : ∀ G : Flow → Shared → Prop, (∀ h' tk', Fr h₀ L h' m → News h₀ L h' n → G .next { s with heap := h', toks := tk' }) → wpAny (model prog w) A (exec st env) G E s)
    (r : ∀ h' tk', Fr h₀ L h' m → News h₀ L h' n → wpC (model prog w) A (execs rest env) Q E { s with heap := h', toks := tk' }) : wpC (model prog w) A (execs (st :: rest) env) Q E s :=
  execsC_A (h _ fun h' tk' F N => r h' tk' F N)
theorem eq_nil_t {l b : Addr} {Q : Value → Shared → Prop} (hl : s.heap.IsList l #[]) (hb : s.heap.IsList b #[]) (hu : A.units < cLine) (h : Q (.bool true) s) : wpAny (model prog w) A (compareOp .Eq (.ref l) (.ref b)) Q E s :=
  cmp_ofEq (PySem.SeqAt.RcAt.lists (e := fun _ => true) hl hb rfl hu (fun j h1 => absurd h1 (Nat.not_lt_zero _)) prog w E Q h)
theorem eq_nil_f {l b : Addr} {vs : List Value} {Q : Value → Shared → Prop} (hl : s.heap.IsList l vs.toArray) (hb : s.heap.IsList b #[]) (hv : vs ≠ []) (hu : A.units < cLine) (h : Q (.bool false) s) : wpAny (model prog w) A (compareOp .Eq (.ref l) (.ref b)) Q E s :=
  cmp_ofEq (PySem.SeqAt.RcAt.lists_lengths hl hb (by rw [List.size_toArray]; exact bne_iff_ne.mpr (fun q => hv (List.length_eq_zero_iff.mp q))) hu prog w E Q h)
theorem eq_nil {l b : Addr} {vs : List Value} {Q : Value → Shared → Prop} (hl : s.heap.IsList l vs.toArray) (hb : s.heap.IsList b #[]) (hu : A.units < cLine) (h : Q (.bool (decide (vs = []))) s) : wpAny (model prog w) A (compareOp .Eq (.ref l) (.ref b)) Q E s := by
  by_cases q : vs = []
  · subst q; exact eq_nil_t hl hb hu h
  · rw [decide_eq_false q] at h; exact eq_nil_f hl hb q hu h
end
section
variable {prog : Program} {w : World} {A : Around} {E : Value → Shared → Prop} {s : Shared}
theorem item_att {value slice : PySem.Expr} {a : Addr} {vs : List Value} {k : Int} {u : Tok} {x : Value} {Q : Value → Shared → Prop} (hl : s.heap.IsList a vs.toArray) (h0 : 0 ≤ k) (h1 : k < 1000) (hx : vs[k.toNat]? = some x) (h : Q x s)
    (hs : subscripted slice false (.ref a) (.int k u) = operate [.ref a, .int k u] (getItem (.ref a) (.int k u))) : wpAny (model prog w) A (subscriptTail value slice (.ref a) (.int k u)) Q E s :=
  tail_any hl.typeIs list_getitem_lookup (wpAny_getItem_list hl h0 (by omega) (x := x) (by rw [List.getElem?_toArray]; exact hx) h) hs
end
theorem ct_value_n {w : World} {mean mg mb} {x lc a9 lv : Addr} {rp : Val} {p : Int} {rid : Int} {tp tr : Tok} {vs : List Value} {ds : List Val} (hv : rowVal rp p rid ds = none) (hp0 : -1 ≤ p) (hp : p < (ds.length : Int)) (hv1 : ValsAre vs ds) (hd1 : ds.length ≤ 40) : Tell w mean mg mb 608 4 [.ref x, .int p tp, .ref a9] [] (fun h => IsTab w h x lc rp ∧ IsTup h a9 #[.int rid tr, .ref lv] ∧ h.IsList lv (List.toArray vs)) (fun _ r _ => r = .none) :=
  (ct_value hp0 hp hv1 hd1).mono fun _ _ _ h => by rw [hv] at h; exact h
theorem ct_value_s {w : World} {mean mg mb} {x lc a9 lv : Addr} {rp : Val} {p : Int} {rid : Int} {tp tr : Tok} {vs : List Value} {ds : List Val} {i : Int} (hv : rowVal rp p rid ds = some i) (hp0 : -1 ≤ p) (hp : p < (ds.length : Int)) (hv1 : ValsAre vs ds) (hd1 : ds.length ≤ 40) : Tell w mean mg mb 608 4 [.ref x, .int p tp, .ref a9] [] (fun h => IsTab w h x lc rp ∧ IsTup h a9 #[.int rid tr, .ref lv] ∧ h.IsList lv (List.toArray vs)) (fun _ r _ => IsI r i) :=
  (ct_value hp0 hp hv1 hd1).mono fun _ _ _ h => by rw [hv] at h; exact h
theorem t8_2 {a b d : Addr} {T : List (Addr × Obj)} {p : Addr × Obj} (h : Off d (a :: b :: List.map (fun x => x.1) T)) (hp : p ∈ T) : p.1 ≠ d := h _ (.tail _ (.tail _ (List.mem_map_of_mem hp)))
end
/-! ## NLG -/
section
open PySem PySem.Spec PySem.Calls PySem.W PyProof.Rows PyProof.Rows.LCg
section
variable {w : World} {mean : ExcName → Option Value} {mg mb : Str → Option Value} {f : Addr} {d : Nat} {vs : List Value} {xs n : List (Addr × Obj)} {pre : Heap → Prop} {R : Heap → Value → Heap → Prop}
  {dp un : Nat} {gd : Option (List Code)} {cn : Str} {cs : Scope} {a : Addr} {ccd : Value} {cl : List (Str × Addr)} {outer : List Env} {A₀ : Around} {base h₀ : Heap} {L : Addr} {m : Str → Option Value} {s : Shared} {Q E : Value → Shared → Prop}
theorem tell_go (C : Tell w mean mg mb f d vs xs pre R) (B : Below A₀ base outer h₀) (F : Fr h₀ L s.heap m) (X : (hd0.heap_1_39 w.params).In h₀) (N : News h₀ L s.heap n) (hxn : ∀ p ∈ xs, p ∈ n) (T : Top hd0.view_1_40 lo mean mg mb h₀) (hk : cs.kind = .function)
    (hp : pre s.heap) (hd : dp + d < recursionLimit) (hu : un + 8 * d < cLine) (ret : ∀ r h' tk', Fr h₀ L h' m → KeepB xs s.heap h' → R s.heap r h' → Q r { s with heap := h', toks := tk' }) :
    wpAny (model PySem.Challenge.rw_nt0120_01.row.prog w) (ktrTop dp un gd cn cs L a ccd cl outer) (call (.ref f) vs) Q E s :=
  C dp un gd cn cs a ccd cl outer A₀ base h₀ L m s Q E B F X (fun p hp => N p (hxn p hp)) T hk hp hd hu ret
end
theorem list_keep {h h' : Heap} {l : Addr} {a : Array Value} (x : h.IsList l a) (hk : ∀ b o, h.get? b = some o → h'.get? b = some o) : h'.IsList l a := let ⟨o, e, r⟩ := x; ⟨o, hk _ _ e, r⟩
theorem rows_len {rows : List (Int × List Val)} (hrg : RowsGood rows) : ∀ r ∈ rows, 3 ≤ r.2.length ∧ r.2.length ≤ 40 := fun r hr => by
  obtain ⟨j, hj⟩ := List.getElem?_of_mem hr
  have := hrg j r hj
  exact ⟨this.2.2.1, by have := this.2.2.2.1; omega⟩
theorem keys_len {rp : Val} {cols : List (Int × Bool)} {rows : List (Int × List Val)} : ∀ ks ∈ rows.map (fun r => keyOf rp cols r.1 r.2), ks.length = cols.length + 1 := by
  intro ks hks; obtain ⟨r, _, rfl⟩ := List.mem_map.mp hks; unfold keyOf; rw [List.length_append, List.length_map]; rfl
section
variable {w : World} {mean : ExcName → Option Value} {mg mb : Str → Option Value}
  {dp un : Nat} {gd : Option (List Code)} {cn : Str} {cs : Scope} {a : Addr} {ccd : Value} {cl : List (Str × Addr)} {outer : List Env} {A₀ : Around} {base h₀ : Heap} {L : Addr} {m : Str → Option Value} {news : List (Addr × Obj)} {s : Shared} {Q E : Value → Shared → Prop}
theorem go_pool {ls : Addr} {vs : List Value} {ns : List Int} (S : Site w mean mg mb dp un 3 cs outer A₀ base h₀ L m s news := by ktn_no "site") (hi : IntsAre vs ns) (hn : ns.length ≤ 63) (hl : s.heap.IsList ls (List.toArray vs))
    (ret : ∀ src o h' tk' T' V', Fr h₀ L h' m → News h₀ L h' ((src, o) :: T') → Held h₀ [src] T' V' → SrcOK o → Q (.ref src) { s with heap := h', toks := tk' }) :
    wpAny (model PySem.Challenge.rw_nt0120_01.row.prog w) (ktrTop dp un gd cn cs L a ccd cl outer) (call (.ref 579) [.ref ls]) Q E s :=
  tell_use0 (ct_pool hi hn) S.B S.F S.X S.N S.T S.hk hl S.hd S.hu fun _ h' tk' F' N' _ ⟨src, o, e, e1, ho, f⟩ => by
    subst e
    have N1 := newsSub (news_new S.F N' e1 f) (n' := [(src, o)]) (fun p hp => by rcases List.mem_singleton.mp hp with rfl; exact .head _)
    refine hide fun G99 hG99 => ?_
    obtain ⟨T0, V0, N2, H0, -, -⟩ := hold (ex := [src]) F' N1 rfl (by intro a ha; rcases List.mem_singleton.mp ha with rfl; exact N1.fresh (.head _))
    refine hG99 ?_
    clear hG99 G99
    exact ret _ _ _ _ _ _ F' N2 H0 ho
theorem go_table (S : Site w mean mg mb dp un 14 cs outer A₀ base h₀ L m s news := by ktn_no "site") {src : Addr} {o : Obj} {T1 : List (Addr × Obj)} {V : Heap} (H : Held h₀ [src] T1 V := by with_reducible assumption) (hT : ∀ p ∈ T1, p ∈ news := by intro p hp; k_dflt ((repeat (refine List.Mem.tail _ ?_)); exact hp)) (hm : (src, o) ∈ news := by k_mem) (ho : SrcOK o := by with_reducible assumption)
    (ret : ∀ xt lct rp nns o' h' tk' T' V', Fr h₀ L h' m → News h₀ L h' ((src, o') :: T') → Held h₀ [src] T' V' → SrcOK o' → IsTabF w V' xt lct rp nns → nns.length = 3 → RpOK rp → Q (.ref xt) { s with heap := h', toks := tk' }) :
    wpAny (model PySem.Challenge.rw_nt0120_01.row.prog w) (ktrTop dp un gd cn cs L a ccd cl outer) (call (.ref 591) [.ref src]) Q E s :=
  tell_go (ct_table ho) S.B S.F S.X S.N (by intro p hp; rcases List.mem_singleton.mp hp with rfl; exact hm) S.T S.hk trivial S.hd S.hu fun _ h' tk' F' K ⟨xt, lct, rp, nns, o2, e, ho2, hs2, ht2, hn2, hrp⟩ => by
    subst e
    refine hide fun G99 hG99 => ?_
    obtain ⟨T2, V2, N3, H2, -, u2, -, -⟩ := hold_call (xs := [(src, o)]) (xs' := [(src, o2)]) H S.F S.N hT (by intro p hp; rcases List.mem_singleton.mp hp with rfl; exact hm) rfl rfl F' K (by intro p hp; rcases List.mem_singleton.mp hp with rfl; exact ho2)
    refine hG99 ?_
    clear hG99 G99
    exact ret _ _ _ _ _ _ _ _ _ F' N3 H2 hs2 (isTabF_keep ht2 u2) hn2 hrp
theorem go_index (S : Site w mean mg mb dp un 14 cs outer A₀ base h₀ L m s news := by ktn_no "site") {src : Addr} {o : Obj} {T1 : List (Addr × Obj)} {V : Heap} (H : Held h₀ [src] T1 V := by with_reducible assumption) (hT : ∀ p ∈ T1, p ∈ news := by intro p hp; k_dflt ((repeat (refine List.Mem.tail _ ?_)); exact hp)) (hm : (src, o) ∈ news := by k_mem) (ho : SrcOK o := by with_reducible assumption)
    (ret : ∀ xi lci cvs cols uq o' h' tk' T' V', Fr h₀ L h' m → News h₀ L h' ((src, o') :: T') → Held h₀ [src] T' V' → (∀ b o, V.get? b = some o → V'.get? b = some o) → SrcOK o' → IsIdx w V' xi lci cvs cols uq → 0 < cols.length → cols.length ≤ 2 → (∀ c ∈ cols, -1 ≤ c.1 ∧ c.1 < 3) → Q (.ref xi) { s with heap := h', toks := tk' }) :
    wpAny (model PySem.Challenge.rw_nt0120_01.row.prog w) (ktrTop dp un gd cn cs L a ccd cl outer) (call (.ref 596) [.ref src]) Q E s :=
  tell_go (ct_index ho) S.B S.F S.X S.N (by intro p hp; rcases List.mem_singleton.mp hp with rfl; exact hm) S.T S.hk trivial S.hd S.hu fun _ h' tk' F' K ⟨xi, lci, cvs, cols, uq, o2, e, ho2, hs2, hx, hc0, hc1, hcb⟩ => by
    subst e
    refine hide fun G99 hG99 => ?_
    obtain ⟨T2, V2, N3, H2, u1, u2, -, -⟩ := hold_call (xs := [(src, o)]) (xs' := [(src, o2)]) H S.F S.N hT (by intro p hp; rcases List.mem_singleton.mp hp with rfl; exact hm) rfl rfl F' K (by intro p hp; rcases List.mem_singleton.mp hp with rfl; exact ho2)
    refine hG99 ?_
    clear hG99 G99
    exact ret _ _ _ _ _ _ _ _ _ _ F' N3 H2 u1 hs2 (isIdx_keep hx u2) hc0 hc1 hcb
theorem go_rows (S : Site w mean mg mb dp un 8 cs outer A₀ base h₀ L m s news := by ktn_no "site") {src : Addr} {o : Obj} {T1 : List (Addr × Obj)} {V : Heap} (H : Held h₀ [src] T1 V := by with_reducible assumption) (hT : ∀ p ∈ T1, p ∈ news := by intro p hp; k_dflt ((repeat (refine List.Mem.tail _ ?_)); exact hp)) (hm : (src, o) ∈ news := by k_mem) (ho : SrcOK o := by with_reducible assumption)
    (ret : ∀ lrw rvs rows o' h' tk' T' V', Fr h₀ L h' m → News h₀ L h' ((src, o') :: T') → Held h₀ [src] T' V' → (∀ b o, V.get? b = some o → V'.get? b = some o) → SrcOK o' → V'.IsList lrw (List.toArray rvs) → RowsAre V' rvs rows → rows.length ≤ 5 → RowsGood rows → Q (.ref lrw) { s with heap := h', toks := tk' }) :
    wpAny (model PySem.Challenge.rw_nt0120_01.row.prog w) (ktrTop dp un gd cn cs L a ccd cl outer) (call (.ref 601) [.ref src]) Q E s :=
  tell_go (ct_rows ho) S.B S.F S.X S.N (by intro p hp; rcases List.mem_singleton.mp hp with rfl; exact hm) S.T S.hk trivial S.hd S.hu fun _ h' tk' F' K ⟨lrw, rvs, rows, o2, e, ho2, hs2, hl, hr, hrl, hrg⟩ => by
    subst e
    refine hide fun G99 hG99 => ?_
    obtain ⟨T2, V2, N3, H2, u1, u2, -, -⟩ := hold_call (xs := [(src, o)]) (xs' := [(src, o2)]) H S.F S.N hT (by intro p hp; rcases List.mem_singleton.mp hp with rfl; exact hm) rfl rfl F' K (by intro p hp; rcases List.mem_singleton.mp hp with rfl; exact ho2)
    refine hG99 ?_
    clear hG99 G99
    exact ret _ _ _ _ _ _ _ _ F' N3 H2 u1 hs2 (let ⟨o, e, r⟩ := hl; ⟨o, u2 _ _ e, r⟩) (rowsAre_keep hr u2) hrl hrg
theorem go_keys {xt lct xi lci lrw : Addr} {rp : Val} {cvs rvs : List Value} {cols : List (Int × Bool)} {uq : Bool} {rows : List (Int × List Val)} {nns : List Bool} (S : Site w mean mg mb dp un 8 cs outer A₀ base h₀ L m s news := by ktn_no "site") {src : Addr} {o : Obj} {T1 : List (Addr × Obj)} {V : Heap} (H : Held h₀ [src] T1 V := by with_reducible assumption) (hT : ∀ p ∈ T1, p ∈ news := by intro p hp; k_dflt ((repeat (refine List.Mem.tail _ ?_)); exact hp)) (hm : (src, o) ∈ news := by k_mem) (hc1 : cols.length ≤ 10) (hc2 : ∀ c ∈ cols, -1 ≤ c.1 ∧ c.1 < 3) (hr1 : rows.length ≤ 50) (hr2 : ∀ r ∈ rows, 3 ≤ r.2.length ∧ r.2.length ≤ 40) (It : IsTabF w V xt lct rp nns) (Ix : IsIdx w V xi lci cvs cols uq) (Il : V.IsList lrw (List.toArray rvs)) (Ir : RowsAre V rvs rows)
    (ret : ∀ lk kvs h' tk' T' V', Fr h₀ L h' m → News h₀ L h' ((src, o) :: T') → Held h₀ [src] T' V' → (∀ b o, V.get? b = some o → V'.get? b = some o) → V'.IsList lk (List.toArray kvs) → KeysAre V' kvs (rows.map fun r => keyOf rp cols r.1 r.2) → Q (.ref lk) { s with heap := h', toks := tk' }) :
    wpAny (model PySem.Challenge.rw_nt0120_01.row.prog w) (ktrTop dp un gd cn cs L a ccd cl outer) (call (.ref 613) [.ref xt, .ref xi, .ref lrw]) Q E s :=
  tell_go (ct_keys (rp := rp) (rows := rows) (cols := cols) (lct := lct) (lci := lci) (cvs := cvs) (rvs := rvs) (uq := uq) hc1 hc2 hr1 hr2) S.B S.F S.X S.N (fun p hp => nomatch hp) S.T S.hk ⟨isTab_keep It.1 (H.now S.F S.N hT), isIdx_keep Ix (H.now S.F S.N hT), (let ⟨o, e, r⟩ := Il; ⟨o, H.now S.F S.N hT _ _ e, r⟩), rowsAre_keep Ir (H.now S.F S.N hT)⟩ S.hd S.hu fun _ h' tk' F' K ⟨lk, kvs, e, hl, hk⟩ => by
    subst e
    refine hide fun G99 hG99 => ?_
    obtain ⟨T2, V2, N3, H2, u1, u2, -, -⟩ := hold_call (xs := [(src, o)]) (xs' := [(src, o)]) H S.F S.N hT (by intro p hp; rcases List.mem_singleton.mp hp with rfl; exact hm) rfl rfl F' (fun b o e nb => K b o e (by simp)) (by intro p hp; rcases List.mem_singleton.mp hp with rfl; exact K _ _ (S.N _ hm).1 (by simp))
    refine hG99 ?_
    clear hG99 G99
    exact ret _ _ _ _ _ _ F' N3 H2 u1 (let ⟨o, e, r⟩ := hl; ⟨o, u2 _ _ e, r⟩) (keysAre_keep hk u2)
theorem go_bent {lk : Addr} {kvs : List Value} {kss : List (List Val)} {nc : Nat} (S : Site w mean mg mb dp un 6 cs outer A₀ base h₀ L m s news := by ktn_no "site") {src : Addr} {o : Obj} {T1 : List (Addr × Obj)} {V : Heap} (H : Held h₀ [src] T1 V := by with_reducible assumption) (hT : ∀ p ∈ T1, p ∈ news := by intro p hp; k_dflt ((repeat (refine List.Mem.tail _ ?_)); exact hp)) (hm : (src, o) ∈ news := by k_mem) (ho : SrcOK o := by with_reducible assumption) (hn0 : 1 ≤ nc) (hn1 : nc ≤ 2) (hl : kss.length ≤ 5) (hkl : ∀ ks ∈ kss, ks.length = nc + 1) (Kl : V.IsList lk (List.toArray kvs)) (Ka : KeysAre V kvs kss)
    (ret : ∀ lk2 kvs2 kss2 o' h' tk' T' V', Fr h₀ L h' m → News h₀ L h' ((src, o') :: T') → Held h₀ [src] T' V' → (∀ b o, V.get? b = some o → V'.get? b = some o) → V'.IsList lk2 (List.toArray kvs2) → KeysAre V' kvs2 kss2 → BentOf nc kss kss2 → Q (.ref lk2) { s with heap := h', toks := tk' }) :
    wpAny (model PySem.Challenge.rw_nt0120_01.row.prog w) (ktrTop dp un gd cn cs L a ccd cl outer) (call (.ref 620) [.ref src, .ref lk]) Q E s :=
  tell_go (ct_bent (kp := V) (nc := nc) (kss := kss) (vs := kvs) ho hn0 hn1 hl hkl) S.B S.F S.X S.N (by intro p hp; rcases List.mem_singleton.mp hp with rfl; exact hm) S.T S.hk ⟨fun b o e => ⟨H.now S.F S.N hT b o e, fun q => H.voff b o e (q ▸ List.mem_singleton.mpr rfl)⟩, Kl, Ka⟩ S.hd S.hu fun _ h' tk' F' K ⟨lk2, kvs2, kss2, o2, e, ho2, hs2, hl2, hk2, hb⟩ => by
    subst e
    refine hide fun G99 hG99 => ?_
    obtain ⟨T2, V2, N3, H2, u1, -, u3, -⟩ := hold_call (xs := [(src, o)]) (xs' := [(src, o2)]) H S.F S.N hT (by intro p hp; rcases List.mem_singleton.mp hp with rfl; exact hm) rfl rfl F' K (by intro p hp; rcases List.mem_singleton.mp hp with rfl; exact ho2)
    refine hG99 ?_
    clear hG99 G99
    exact ret _ _ _ _ _ _ _ _ F' N3 H2 u1 (let ⟨o, e, r⟩ := hl2; ⟨o, u3 _ _ e, r⟩) (keysAre_keep hk2 u3) hb
theorem go_info {xi lci : Addr} {cvs : List Value} {cols : List (Int × Bool)} {uq : Bool} {bs : List Bool} (S : Site w mean mg mb dp un 8 cs outer A₀ base h₀ L m s news := by ktn_no "site") {src : Addr} {o : Obj} {T1 : List (Addr × Obj)} {V : Heap} (H : Held h₀ [src] T1 V := by with_reducible assumption) (hT : ∀ p ∈ T1, p ∈ news := by intro p hp; k_dflt ((repeat (refine List.Mem.tail _ ?_)); exact hp)) (hm : (src, o) ∈ news := by k_mem) (hbs : bs = cols.map (·.2) ++ [false]) (hc0 : 0 < cols.length) (hc1 : cols.length ≤ 20) (Ix : IsIdx w V xi lci cvs cols uq)
    (ret : ∀ li h' tk' T' V', Fr h₀ L h' m → News h₀ L h' ((src, o) :: T') → Held h₀ [src] T' V' → (∀ b o, V.get? b = some o → V'.get? b = some o) → IsInfo w V' li bs → Q (.ref li) { s with heap := h', toks := tk' }) :
    wpAny (model PySem.Challenge.rw_nt0120_01.row.prog w) (ktrTop dp un gd cn cs L a ccd cl outer) (call (.ref 518) [.ref xi]) Q E s :=
  tell_go (ct_info (uq := uq) (lci := lci) (cvs := cvs) hc0 hc1) S.B S.F S.X S.N (fun p hp => nomatch hp) S.T S.hk (isIdx_keep Ix (H.now S.F S.N hT)) S.hd S.hu fun r h' tk' F' K R' => R' (fun r => Q r { s with heap := h', toks := tk' }) fun li d9 lc9 ld9 t8 t9 cs9 q1 q2 q3 q4 hb9 hcl9 f1 f2 f3 f4 _ _ _ _ _ _ => by
    refine hide fun G99 hG99 => ?_
    obtain ⟨T2, V2, N3, H2, u1, u2, -, -⟩ := hold_call (xs := [(src, o)]) (xs' := [(src, o)]) H S.F S.N hT (by intro p hp; rcases List.mem_singleton.mp hp with rfl; exact hm) rfl rfl F' (fun b o e nb => K b o e (by simp)) (by intro p hp; rcases List.mem_singleton.mp hp with rfl; exact K _ _ (S.N _ hm).1 (by simp))
    refine hG99 ?_
    clear hG99 G99
    rw [← hbs] at q4 hcl9
    exact ret _ _ _ _ _ F' N3 H2 u1 (isInfo_news (u2 _ _ (newOf_get q1 f1)) (u2 _ _ (newOf_get q2 f2)) (u2 _ _ (newOf_get q3 f3)) (u2 _ _ (newOf_get q4 f4)) hb9 hcl9)
theorem go_EK {li : Addr} (S : Site w mean mg mb dp un 5 cs outer A₀ base h₀ L m s news := by ktn_no "site") {src : Addr} {o : Obj} {T1 : List (Addr × Obj)} {V : Heap} (H : Held h₀ [src] T1 V := by with_reducible assumption) (hT : ∀ p ∈ T1, p ∈ news := by intro p hp; k_dflt ((repeat (refine List.Mem.tail _ ?_)); exact hp))
    (ret : ∀ x dx lr nl s1 s2 s3 s4 tp h' tk' T' V', Fr h₀ L h' m → News h₀ L h' ((lr, PySem.W.listOf #[] nl) :: (dx, curD w s1 s2 s3 s4 li lr (.int (-1) tp)) :: T') → Held h₀ [lr, dx] T' V' → (∀ b o, V.get? b = some o → V'.get? b = some o) → V'.get? x = some (instObj 467 dx) → @Ne Nat lr dx → Q (.ref x) { s with heap := h', toks := tk' }) :
    wpAny (model PySem.Challenge.rw_nt0120_01.row.prog w) (ktrTop dp un gd cn cs L a ccd cl outer) (call (.ref 467) [.ref li]) Q E s :=
  tell_go ct_EK S.B S.F S.X S.N (fun p hp => nomatch hp) S.T S.hk trivial S.hd S.hu fun r h' tk' F' K R' => R' (fun r => Q r { s with heap := h', toks := tk' }) fun x dx lr nl s1 s2 s3 s4 tp q1 q2 q3 f1 f2 f3 na1 na2 na3 => by
    refine hide fun G99 hG99 => ?_
    obtain ⟨T8, V8, N3, H2, u1, u2⟩ := hold_new (ex' := [lr, dx]) (xs' := [(lr, PySem.W.listOf #[] nl), (dx, curD w s1 s2 s3 s4 li lr (.int (-1) tp))]) H S.F S.N hT rfl F' K (List.forall_mem_cons.mpr ⟨⟨q3, f3⟩, List.forall_mem_cons.mpr ⟨⟨q2, f2⟩, fun _ h => nomatch h⟩⟩)
    refine hG99 ?_
    clear hG99 G99
    exact ret _ _ _ _ _ _ _ _ _ _ _ _ _ F' N3 H2 u1 (u2 _ _ q1 f1 (by intro q; rcases List.mem_cons.mp q with z | q; exact na2 z.symm; rcases List.mem_singleton.mp q with z; exact na1 z)) na3
theorem go_check {x li lr xt lct xi lci lrw : Addr} {t1 t2 t3 t4 : Tok} {pv : Value} {nf : Nat} {rp : Val} {recs cvs rvs : List Value} {kss : List (List Val)} {cols : List (Int × Bool)} {uq : Bool} {rows : List (Int × List Val)} {bs : List Bool} {nns : List Bool} (S : Site w mean mg mb dp un 20 cs outer A₀ base h₀ L m s news := by ktn_no "site") {dx lf : Addr} {T1 : List (Addr × Obj)} {V : Heap} (H : Held h₀ [dx, lf] T1 V := by with_reducible assumption) (hT : ∀ p ∈ T1, p ∈ news := by intro p hp; k_dflt ((repeat (refine List.Mem.tail _ ?_)); exact hp)) (hm1 : (dx, curD w t1 t2 t3 t4 li lr pv) ∈ news := by k_mem) (hm2 : (lf, PySem.W.listOf #[] nf) ∈ news := by k_mem)
    (hbs : bs = cols.map (·.2) ++ [false]) (hr1 : RecsAre recs kss) (hsm0 : ∀ ks ∈ kss, (∀ d ∈ ks, Small d) ∧ ks.length ≤ 40) (hl1 : kss.length ≤ 40) (hc0 : 0 < cols.length) (hc1 : cols.length ≤ 10) (hc2 : ∀ c ∈ cols, -1 ≤ c.1 ∧ c.1 < 3) (hrl : rows.length ≤ 50) (hrd : ∀ r ∈ rows, r.2.length ≤ 40) (hrb : ∀ r ∈ rows, 0 ≤ r.1 ∧ r.1 < 1000)
    (hmono : ∀ r ∈ rows, ∀ (i j : Nat) (ki kj : List Val), i ≤ j → kss[i]? = some ki → kss[j]? = some kj → cmpK bs kj (keyOf rp cols r.1 r.2) < 0 → cmpK bs ki (keyOf rp cols r.1 r.2) < 0)
    (hx : V.get? x = some (instObj 467 dx)) (Ic : V.IsList lr (List.toArray recs)) (In : IsInfo w V li bs) (It : IsTabF w V xt lct rp nns) (Ix : IsIdx w V xi lci cvs cols uq) (Il : V.IsList lrw (List.toArray rvs)) (Ir : RowsAre V rvs rows)
    (ret : ∀ r fs nf' h' tk' T' V', Fr h₀ L h' m → News h₀ L h' ((lf, PySem.W.listOf (List.toArray fs) nf') :: T') → Held h₀ [lf] T' V' → (∀ b o, V.get? b = some o → V'.get? b = some o) → (fs = [] ↔ AllHit bs kss rp cols rows ∧ NoDup uq bs cols.length kss kss.length ∧ kss.length = rows.length) → Q r { s with heap := h', toks := tk' }) :
    wpAny (model PySem.Challenge.rw_nt0120_01.row.prog w) (ktrTop dp un gd cn cs L a ccd cl outer) (call (.ref 317) [.ref x, .ref lf, .ref xt, .ref xi, .ref lrw]) Q E s :=
  tell_go (ct_check1 (uq := uq) (rp := rp) (rows := rows) (kss := kss) (cvs := cvs) (rvs := rvs) (lct := lct) (lci := lci) hbs hr1 hsm0 hl1 hc0 hc1 (fun c hc => (hc2 c hc).1) hrl hrd hrb hmono) S.B S.F S.X S.N (by intro p hp; rcases List.mem_cons.mp hp with rfl | hp; exact hm1; (rcases List.mem_singleton.mp hp with rfl; exact hm2)) S.T S.hk ⟨V, fun b o e => ⟨H.now S.F S.N hT b o e, H.voff b o e⟩, hx, Ic, In, It.1, Ix, Il, Ir⟩ S.hd S.hu fun r h' tk' F' K ⟨fs, nf', hlf, hiff⟩ => by
    refine hide fun G99 hG99 => ?_
    obtain ⟨T', V', M10, H10, u1, -⟩ := hold_re (ex' := [lf]) (xs' := [(lf, PySem.W.listOf (List.toArray fs) nf')]) H S.F S.N hT F' (fun b o nb e => K b o e nb) rfl (List.forall_mem_cons.mpr ⟨⟨hlf, ⟨_, hm2⟩, H.none_ex (.tail _ (.head _))⟩, fun _ h => nomatch h⟩)
    refine hG99 ?_
    clear hG99 G99
    exact ret _ _ _ _ _ _ _ F' M10 H10 u1 hiff
theorem hold_reK {G : Prop} {h h' V : Heap} {ex ex' : List Addr} {xs' : List (Addr × Obj)} {T n : List (Addr × Obj)} {m m' : Str → Option Value} (H : Held h₀ ex T V) (F : Fr h₀ L h m) (N : News h₀ L h n) (hT : ∀ p ∈ T, p ∈ n)
    (F' : Fr h₀ L h' m') (hk : ∀ b o, b ∉ ex → h.get? b = some o → h'.get? b = some o) (hex' : ex' = xs'.map (·.1)) (hx' : ∀ p ∈ xs', h'.get? p.1 = some p.2 ∧ (∃ o, (p.1, o) ∈ n) ∧ V.get? p.1 = none)
    (ret : ∀ T' V', News h₀ L h' (xs' ++ T') → Held h₀ ex' T' V' → (∀ b o, V.get? b = some o → V'.get? b = some o) → (∀ b o, h'.get? b = some o → b ≠ L → b ∉ ex' → V'.get? b = some o) → G) : G :=
  let ⟨T', V', a, b, c, d⟩ := hold_re H F N hT F' hk hex' hx'; ret T' V' a b c d
end
end
/-! ## XNLW2 -/
section
open PySem PySem.Spec PySem.Calls PySem.W PyProof.Rows PyProof.Rows.LCg
local macro_rules | `(tactic| ktn_no "stop") => `(tactic| ((with_reducible show wpAny _ _ (PySem.call (Value.ref _) _) _ _ _); (fail_if_success (with_reducible show wpAny _ _ (PySem.call (Value.ref 608) _) _ _ _)); (fail_if_success (with_reducible show wpAny _ _ (PySem.call (Value.ref 632) _) _ _ _)); (fail_if_success (with_reducible show wpAny _ _ (PySem.call (Value.ref 625) _) _ _ _))))
local macro_rules | `(tactic| k_inst) => `(tactic| exact inst_of (Held.now (by assumption) (by assumption) (by assumption) (by intro p hp; k_dflt ((repeat (refine List.Mem.tail _ ?_)); exact hp)) _ _ (by assumption)) (News.get (by assumption) (by k_mem)))
local macro_rules | `(tactic| k_inst) => `(tactic| exact inst_of (Held.now (by assumption) (by assumption) (by assumption) (by intro p hp; k_dflt ((repeat (refine List.Mem.tail _ ?_)); exact hp)) _ _ (by assumption)) (Held.now (by assumption) (by assumption) (by assumption) (by intro p hp; k_dflt ((repeat (refine List.Mem.tail _ ?_)); exact hp)) _ _ (by assumption)))
section
variable {w : World} {mean : ExcName → Option Value} {mg mb : Str → Option Value} {f : Addr} {d : Nat} {vs : List Value} {n : List (Addr × Obj)} {pre : Heap → Prop} {R : Heap → Value → Heap → Prop}
  {dp un : Nat} {cn : Str} {cs : Scope} {a : Addr} {ccd : Value} {cl : List (Str × Addr)} {outer : List Env} {A₀ : Around} {base h₀ : Heap} {L : Addr} {m : Str → Option Value} {s : Shared} {Q E : Value → Shared → Prop}
theorem tellC_go (C : TellC w mean mg mb f d vs [] pre R) (B : Below A₀ base outer h₀) (F : Fr h₀ L s.heap m) (X : (hd0.heap_1_39 w.params).In h₀) (N : News h₀ L s.heap n) (T : Top hd0.view_1_40 lo mean mg mb h₀) (hk : cs.kind = .function)
    (hp : pre s.heap) (hd : dp + d < recursionLimit) (hu : un + 8 * d < cLine) (ret : ∀ r h' tk', Fr h₀ L h' m → News h₀ L h' n → R s.heap r h' → Q r { s with heap := h', toks := tk' }) :
    wpC (model PySem.Challenge.rw_nt0120_01.row.prog w) (ktrTop dp un (some []) cn cs L a ccd cl outer) (call (.ref f) vs) Q E s :=
  C dp un cn cs a ccd cl outer A₀ base h₀ L m s Q E B F X News.nil T hk hp hd hu fun r h' tk' F' K' R' => ret r h' tk' F' (fun p hp => ⟨K' _ _ (N p hp).1 (by simp), (N p hp).2⟩) R'
end
theorem wpAny_eqp {α : Type} {M : Model} {A : Around} {E : Value → Shared → Prop} {s : Shared} {t : Sem α} {a : α} {Q : α → Shared → Prop} (e : t = pure a) (h : Q a s) : wpAny M A t Q E s := e ▸ wpAny_pure h
local macro_rules | `(tactic| ktn_no "stop") => `(tactic| with_reducible show wpAny _ _ (exec (Stmt.Assign _ (Expr.ListComp _ _ _ _) _) _) _ _ _)
local macro_rules | `(tactic| ktn_no "stop") => `(tactic| with_reducible show wpAny _ _ (eval (Expr.ListComp _ _ _ _) _) _ _ _)
local macro_rules | `(tactic| ktn_no "stop") => `(tactic| with_reducible show CompTurned _ _ _ _ _ _ _ _ _ _ _ _)
local macro_rules | `(tactic| ktn_no "b_list") => `(tactic| exact Held.lst (by assumption) (by assumption) (by assumption) (by intro p hp; k_dflt ((repeat (refine List.Mem.tail _ ?_)); exact hp)) (by assumption))
local macro_rules | `(tactic| ktn_no "b_tup") => `(tactic| exact Held.tup (by assumption) (by assumption) (by assumption) (by intro p hp; k_dflt ((repeat (refine List.Mem.tail _ ?_)); exact hp)) (by assumption))
theorem item_attN {prog : Program} {w : World} {A : Around} {E : Value → Shared → Prop} {s : Shared} {value : PySem.Expr} {y : Str} {py : Pos} {a : Addr} {vs : List Value} {k : Int} {u : Tok} {x : Value} {Q : Value → Shared → Prop} (hl : s.heap.IsList a vs.toArray) (h0 : 0 ≤ k) (h1 : k < 1000) (hx : vs[k.toNat]? = some x) (h : Q x s) :
    wpAny (model prog w) A (subscriptTail value (.Name y py) (.ref a) (.int k u)) Q E s := item_att hl h0 h1 hx h (by with_unfolding_all rfl)
local macro_rules | `(tactic| walk_at "subscriptTail Attribute Name Name ref int") => `(tactic| ((with_reducible show wpAny _ _ (subscriptTail _ _ (Value.ref _) (Value.int _ _)) _ _ _); k_dflt (refine' item_attN ?z ?a ?f ?x ?_; (case z => ktn_no "b_list"); (case a => omega); (case f => omega); (case x => assumption))))
local macro_rules | `(tactic| walk_at "compareOp Eq ref ref") => `(tactic| ((with_reducible show wpAny _ _ (compareOp CmpOp.Eq (Value.ref _) (Value.ref _)) _ _ _); k_dflt (first
  | (refine' eq_nil_f ?l ?b ?v ?u ?_; (case l => ktn_no "b_list"); (case b => ktn_no "b_list"); (case v => (with_reducible assumption)); (case u => ktr_units))
  | (refine' eq_nil ?l ?b ?u ?_; (case l => ktn_no "b_list"); (case b => ktn_no "b_list"); (case u => ktr_units)))))
local macro_rules | `(tactic| walk_at "call ref") => `(tactic| ((with_reducible show wpAny _ _ (PySem.call (Value.ref 632) _) _ _ _); k_dflt (refine useB (hp := by exact ⟨by ktn_no "b_list", keysAre_keep (by assumption) (Held.now (by assumption) (by assumption) (by assumption) (by (intro p hp; k_dflt ((repeat (refine List.Mem.tail _ ?_)); exact hp)))), by ktn_no "b_list", keysAre_keep (by assumption) (Held.now (by assumption) (by assumption) (by assumption) (by (intro p hp; k_dflt ((repeat (refine List.Mem.tail _ ?_)); exact hp))))⟩) (C := ct_same (by rw [List.length_map]; omega) (by omega)) (yes := ?_) (no := ?_) <;> (intros; ktn_no "aft"))))
local macro_rules | `(tactic| walk_at "call ref") => `(tactic| ((with_reducible show wpAny _ _ (PySem.call (Value.ref 625) _) _ _ _); k_dflt (refine useB (hp := by exact ⟨isIdx_keep (by assumption) (Held.now (by assumption) (by assumption) (by assumption) (by (intro p hp; k_dflt ((repeat (refine List.Mem.tail _ ?_)); exact hp)))), by ktn_no "b_list", keysAre_keep (by assumption) (Held.now (by assumption) (by assumption) (by assumption) (by (intro p hp; k_dflt ((repeat (refine List.Mem.tail _ ?_)); exact hp))))⟩) (C := ct_once (by omega) (by assumption)) (yes := ?_) (no := ?_) <;> (intros; ktn_no "aft"))))
section
variable {w : World} {mean : ExcName → Option Value} {mg mb : Str → Option Value}
  {dp un : Nat} {gd : Option (List Code)} {cn : Str} {cs : Scope} {a : Addr} {ccd : Value} {cl : List (Str × Addr)} {outer : List Env} {A₀ : Around} {base h₀ : Heap} {L : Addr} {m : Str → Option Value} {news : List (Addr × Obj)} {s : Shared} {Q E : Value → Shared → Prop}
theorem use_lv {x lc a9 lv : Addr} {rp : Val} {p rid : Int} {tp tr : Tok} {vs : List Value} {ds : List Val} (S : Site w mean mg mb dp un 4 cs outer A₀ base h₀ L m s news := by ktn_no "site") (hp : IsTab w s.heap x lc rp ∧ IsTup s.heap a9 #[.int rid tr, .ref lv] ∧ s.heap.IsList lv (List.toArray vs)) (hp0 : -1 ≤ p) (hp1 : p < (ds.length : Int)) (hv1 : ValsAre vs ds) (hd1 : ds.length ≤ 40)
    (nn : ∀ h' tk', Fr h₀ L h' m → News h₀ L h' news → rowVal rp p rid ds = none → Q .none { s with heap := h', toks := tk' })
    (ss : ∀ i t h' tk', Fr h₀ L h' m → News h₀ L h' news → rowVal rp p rid ds = some i → Q (.int i t) { s with heap := h', toks := tk' }) :
    wpAny (model PySem.Challenge.rw_nt0120_01.row.prog w) (ktrTop dp un gd cn cs L a ccd cl outer) (call (.ref 608) [.ref x, .int p tp, .ref a9]) Q E s :=
  useR S hp (ct_value hp0 hp1 hv1 hd1) fun r h' tk' F' N' hr => by
    cases e : rowVal rp p rid ds with
    | none => rw [e] at hr; rw [show r = .none from hr]; exact nn h' tk' F' N' e
    | some i => rw [e] at hr; exact hr.elim fun t z => z ▸ ss i t h' tk' F' N' e
end
local macro_rules | `(tactic| walk_at "call ref") => `(tactic| ((with_reducible show wpAny _ _ (PySem.call (Value.ref 608) _) _ _ _); k_dflt (refine use_lv (hp := by exact ⟨isTab_keep (by assumption) (Held.now (by assumption) (by assumption) (by assumption) (by (intro p hp; k_dflt ((repeat (refine List.Mem.tail _ ?_)); exact hp)))), by ktn_no "b_tup", by ktn_no "b_list"⟩) (hp0 := by assumption) (hp1 := by assumption) (hv1 := by assumption) (hd1 := by omega) (nn := ?n9) (ss := ?s9)); (case' s9 => intros); (case' n9 => intros)))
local macro_rules | `(tactic| walk_at "unpackItems ref") => `(tactic| (k_here; k_dflt (refine' unpackItemsN_ ?k1 ?k2 ?k3 ?k4 ?k5 ?_; (case k1 => k_asm); (case k2 => k_asm); (case k3 => kun_tup); (case k4 => exact rfl); (case k5 => exact rfl); k_whole); ktn_no "k12"; (try k_sweep)))
set_option maxHeartbeats 40000000 in
theorem x1 : PySem.Challenge.rw_nt0120_01.Holds := by
  refine (fun h => hd0._proof_1_875 ⟨h⟩) ?_
  k_fill
  intro w s₀ s₁ mg mb G Y fa o pm cd doc dV kV ho hd hcd hD hmg hg args vals as hpre hlay hrd hwl hlo
  have KX := kIn_of Y
  have X := (Ground.X G).1
  have V := (Ground.X G).2
  refine Ground.open G ?_
  intro T B D TE TW
  try (refine guard_noD D (by decide +kernel) ?_; clear D)
  obtain ⟨_, _, M⟩ := bmod_of_top T
  have TA := at_of_top T
  try (obtain ⟨_, _, he, B0⟩ := based_of_top T rfl hmg ho hd; have he' : cd = _ := he; subst he'; clear he)
  clear hmg
  wrow_args hpre hlay hrd hwl hlo
  rename IntsAre _ _ => hI
  rename List Int => ns
  rename Heap.IsList _ _ _ => hL
  rename ¬ ((63 : Nat) : Int) < _ => hlen
  have hn63 : ns.length ≤ 63 := by omega
  have K0 := below_caller (Top.heap T)
  have he := Dflts.none hD rfl
  subst he
  have he := Dflts.noKw hD
  subst he
  clear hD
  refine codeC_call_function (by decide) ho hd rfl rfl rfl hcd ?_
  refine wpAny_eqp (a := [(Str.ofString "script", _)]) (by rfl) ?_
  refine wpAny_newFunctionEnv (by dsimp only [docDef]; decide) (locs rfl) (fun h₁ hns hsb => ⟨T.nolimit.fresh _ hsb, codeC_func ?_⟩) rfl
  have F : Fr s₁.heap s₁.heap.objs.size h₁ _ := ⟨hns, fun b o e => hsb.extBut b o (Nat.ne_of_lt (Heap.lt_size e)) (Heap.get?_push_of_some _ e), Nat.le_refl _⟩
  clear hns hsb
  have N := News.nil (h₀ := s₁.heap) (h := h₁) (L := s₁.heap.objs.size)
  generalize hLL : s₁.heap.objs.size = LL at *
  have K1 : Below callerA s₁.heap [] s₁.heap := K0
  clear K0 M TA B0 V B TE TW G Y
  refine execsC_A ?_
  k_steps
  k_dflt (refine go_pool (hi := hI) (hn := hn63) (hl := Fr.lst (by assumption) (by assumption)) (ret := ?_))
  intro src o1 h1 tk1 T0 V0 F1 N1 H0 hs1
  (try k_sweep)
  k_steps
  refine execsC_A ?_
  k_steps
  k_dflt (refine go_table (ret := ?_))
  intro xt lct rp nns o2 h2 tk2 T2 V2 F2 N2 H2 hs2 It2 hn2 hrp
  clear H0 hs1
  (try k_sweep)
  k_steps
  k_dflt (refine go_index (ret := ?_))
  intro xi lci cvs cols uq o3 h3 tk3 T3 V3 F3 N3 H3 u3 hs3 Ix3 hc0 hc1 hcb
  have It3 := isTabF_keep It2 u3
  clear H2 hs2 It2 u3
  (try k_sweep)
  k_steps
  refine execsC_A ?_
  k_steps
  k_dflt (refine go_rows (ret := ?_))
  intro lrw rvs rows o4 h4 tk4 T4 V4 F4 N4 H4 u4 hs4 Il4 Ir4 hrl hrg
  have It4 := isTabF_keep It3 u4
  have Ix4 := isIdx_keep Ix3 u4
  clear H3 hs3 It3 Ix3 u4
  (try k_sweep)
  k_steps
  refine execsC_A ?_
  k_steps
  have hrd : ∀ r ∈ rows, 3 ≤ r.2.length ∧ r.2.length ≤ 40 := rows_len hrg
  k_dflt (refine go_keys (hc1 := by omega) (hc2 := hcb) (hr1 := by omega) (hr2 := hrd) (It := It4) (Ix := Ix4) (Il := Il4) (Ir := Ir4) (ret := ?_))
  intro lk kvs h5 tk5 T5 V5 F5 N5 H5 u5 Kl5 Ka5
  have It5 := isTabF_keep It4 u5
  have Ix5 := isIdx_keep Ix4 u5
  have Il5 := list_keep Il4 u5
  have Ir5 := rowsAre_keep Ir4 u5
  clear H4 It4 Ix4 Il4 Ir4 u5
  (try k_sweep)
  k_steps
  refine execsC_A ?_
  k_steps
  k_dflt (refine go_bent (nc := cols.length) (hn0 := by omega) (hn1 := hc1) (hl := by rw [List.length_map]; omega) (hkl := keys_len) (Kl := Kl5) (Ka := Ka5) (ret := ?_))
  intro lk2 kvs2 kss2 o6 h6 tk6 T6 V6 F6 N6 H6 u6 Kl7 Ka7 hbent
  have It6 := isTabF_keep It5 u6
  have Ix6 := isIdx_keep Ix5 u6
  have Il6 := list_keep Il5 u6
  have Ir6 := rowsAre_keep Ir5 u6
  have Kl6 := list_keep Kl5 u6
  have Ka6 := keysAre_keep Ka5 u6
  clear H5 hs4 It5 Ix5 Il5 Ir5 Kl5 Ka5 u6
  (try k_sweep)
  k_steps
  refine idx_out Ix6 fun dix z1 z2 z3 z4 z5 z6 z7 zn zb zt zo zq i1 i2 i3 i4 => ?_
  refine execsC_A ?_
  k_steps
  obtain ⟨bs, hbs⟩ : ∃ bs, bs = cols.map (·.2) ++ [false] := ⟨_, rfl⟩
  k_dflt (refine go_info (bs := bs) (hbs := hbs) (hc0 := hc0) (hc1 := by omega) (Ix := Ix6) (ret := ?_))
  intro li h7 tk7 T7 V7 F7 N7 H7 u7 In7
  have It7 := isTabF_keep It6 u7
  have Ix7 := isIdx_keep Ix6 u7
  have Il7 := list_keep Il6 u7
  have Ir7 := rowsAre_keep Ir6 u7
  have Kd7 := list_keep Kl6 u7
  have Kb7 := keysAre_keep Ka6 u7
  have Kk7 := list_keep Kl7 u7
  have Kc7 := keysAre_keep Ka7 u7
  clear H6 u7 It6 Ix6 Il6 Ir6 Kl6 Ka6 Kl7 Ka7
  (try k_sweep)
  k_steps
  k_dflt (refine go_EK (o := o6) (ret := ?_))
  intro x dx lr nl s1 s2 s3 s4 tp h8 tk8 T8 V8 F8 N8 H8 u1 hx8 na3
  have It8 := isTabF_keep It7 u1
  have Ix8 := isIdx_keep Ix7 u1
  have Il8 := list_keep Il7 u1
  have Ir8 := rowsAre_keep Ir7 u1
  have Kd8 := list_keep Kd7 u1
  have Kb8 := keysAre_keep Kb7 u1
  have Kk8 := list_keep Kk7 u1
  have Kc8 := keysAre_keep Kc7 u1
  have In8 := isInfo_keep In7 u1
  clear u1 H7 It7 Ix7 Il7 Ir7 Kd7 Kb7 Kk7 Kc7 In7
  (try k_sweep)
  k_steps
  have hkok : KssOK bs kss2 := (bent_ok hbs hc0 hcb hrg hrl hbent).1
  refine execsC_cons (ForC ?_)
  k_steps
  dsimp only
  with_reducible rename Fr _ _ _ _ => F9
  with_reducible rename News _ _ _ _ => N9
  have up := H8.now F9 N9 (by (intro p hp; k_dflt ((repeat (refine List.Mem.tail _ ?_)); exact hp)))
  refine hide fun G99 hG99 => ?_
  obtain ⟨okk, ekk, ckk, nkk, dkk⟩ := id Kk8
  refine hG99 ?_
  clear hG99 G99
  have hk2l := Kc8.1
  refine iterCS (fun i k9 => ∀ (recs : List Value) (kss : List (List Val)) (nr : Nat) (m : Str → Option Value), (RecsAre recs kss) → (Sorted bs kss) → (kss.Perm (kss2.take i)) → k9 (over [(Str.ofString "table", (.ref xt)), (Str.ofString "index", (.ref xi)), (Str.ofString "rows", (.ref lrw)), (Str.ofString "due", (.ref lk)), (Str.ofString "keys", (.ref lk2)), (Str.ofString "cursor", (.ref x))] m) ((lr, PySem.W.listOf (List.toArray recs) nr) :: (dx, curD w s1 s2 s3 s4 li lr (.int (-1) tp)) :: T8)) rfl (⟨okk, up _ _ ekk, ckk, nkk, dkk⟩ : Heap.IsList _ lk2 (List.toArray kvs2)) ?hkeep (fr_over' (es := [(Str.ofString "table", _), (Str.ofString "index", _), (Str.ofString "rows", _), (Str.ofString "due", _), (Str.ofString "keys", _), (Str.ofString "cursor", _)]) F9 ⟨rfl, rfl, rfl, rfl, rfl, rfl, trivial⟩) N9 (fun _ k9 => k9 ([]) ([]) (nl) _ trivial List.Pairwise.nil (by simp)) ?_ ?_
  case hkeep =>
    rcases H8.sub _ _ ekk with q | q
    · exact .inl ⟨_, q⟩
    · exact .inr (by intro i recs kss nr m _ _ _; exact ⟨okk, .tail _ (.tail _ q), ckk, nkk, dkk⟩)
  · clear F9 N9 up
    intro i v hv recs kss nr m₁ hrs hso hpe h9 tk I o F6 N5 hI
    refine hide fun G99 hG99 => ?_
    obtain ⟨ds, hds, l9, ws9, rfl, il9, hv9⟩ := Kc8.2 i v hv
    refine hG99 ?_
    clear hG99 G99
    refine wpAny_assign_Name ?_
    k_steps
    refine execsC_cons (ExprC (CallAttrC ?_))
    k_steps
    obtain ⟨ok1, ok2⟩ := ins_ok hkok hso hpe hds
    obtain ⟨hsm9, hle9⟩ := hkok.1 ds (List.mem_of_getElem? hds)
    have hki : ∀ ks ∈ kss, (∀ d ∈ ks, Small d) ∧ ks.length ≤ 40 := fun ks hk => by
      have z := hkok.1 ks (List.mem_of_mem_take (hpe.mem_iff.mp hk))
      exact ⟨z.1, by have := z.2; rw [hbs, List.length_append, List.length_map, List.length_singleton] at this; omega⟩
    have hbl : bs.length = cols.length + 1 := by rw [hbs, List.length_append, List.length_map]; rfl
    have hkl : kss.length ≤ 90 := by
      have z := hpe.length_eq
      rw [List.length_take] at z
      have := hkok.2.2.1
      omega
    have n0 : @Ne Nat lr I := hI _ (.head _)
    have n2 : @Ne Nat dx I := hI _ (.tail _ (.head _))
    have n1 : ∀ p ∈ T8, p.1 ≠ I := fun p hp => hI p (.tail _ (.tail _ hp))
    refine callWithC (P := (Mine.hd0.heap_1_39 w.params).In) rfl (keeps_K (by k_is)) (evalArgsC1 ?_)
    refine (show wpC _ _ (eval (.Call _ _ _ _) _) _ _ _ from ?_)
    refine CallNameC ?_
    k_steps
    refine callWithC (P := (Mine.hd0.heap_1_39 w.params).In) rfl (keeps_K (by k_is)) (evalArgsC1 (wpC_any ?_))
    refine (show wpAny _ _ (eval (.Name _ _) _) _ _ _ from ?_)
    k_steps
    with_reducible rename Fr _ _ _ _ => F7
    with_reducible rename News _ _ _ _ => N7
    have up := H8.now F7 N7 (by (intro p hp; k_dflt ((repeat (refine List.Mem.tail _ ?_)); exact hp)))
    k_dflt (refine' tellC_go (ct_encode (vs := ws9) (ds := ds) ?q1 ?q2 ?q3) ?k1 ?k2 ?k3 ?k4 ?k5 ?kK ?kp ?kd ?ku ?_; (case k1 => k_asm); (case k2 => k_asm); (case k3 => k_asm); (case k4 => k_asm); (case k5 => k_asm); (case kK => first | exact rfl | assumption); (case q1 => assumption); (case q2 => assumption); (case q3 => omega); (case kp => exact let ⟨o, e, r⟩ := il9; ⟨o, up _ _ e, r⟩); (case kd => (try simp only [depth_under_make, depth_under_kw, depth_in1, depth_deeper, depth_caller]); decide); (case ku => have hcL9 := cLine_is; (try simp only [units_in1, units_deeper, Around.mark_units, units_caller] at *); (try dsimp only [ktrTop] at *); omega))
    intro r9 h10 tk10 F8 N8 R8
    obtain ⟨tb9, rfl⟩ := R8
    refine ⟨KX.keeps F8.keep, wpC_any ?_⟩
    clear up F7 N7
    have up := H8.now F8 N8 (by (intro p hp; k_dflt ((repeat (refine List.Mem.tail _ ?_)); exact hp)))
    show wpAny _ _ (PySem.call (Value.ref 359) _) _ _ _
    k_dflt (refine' tell_go (ct_insert (recs := recs) (kss := kss) (ds := ds) (bs := bs) ?q1 ?q2 ?q3 ?q4 ?q5 ?q6 ok1 ok2) ?k1 ?k2 ?k3 ?k4 ?km ?k5 ?kK ?kp ?kd ?ku ?_; (case k1 => k_asm); (case k2 => k_asm); (case k3 => k_asm); (case k4 => k_asm); (case k5 => k_asm); (case kK => first | exact rfl | assumption); (case q1 => assumption); (case q2 => assumption); (case q3 => assumption); (case q4 => assumption); (case q5 => omega); (case q6 => assumption); (case km => (intro p hp; rcases List.mem_singleton.mp hp with rfl; k_mem)); (case kp => exact ⟨⟨dx, s1, s2, s3, s4, up _ _ hx8, N8.get (.tail _ (.tail _ (.head _)))⟩, isInfo_keep In8 up⟩); (case kd => (try simp only [depth_under_make, depth_under_kw, depth_in1, depth_deeper, depth_caller]); decide); (case ku => have hcL9 := cLine_is; (try simp only [units_in1, units_deeper, Around.mark_units, units_caller] at *); (try dsimp only [ktrTop] at *); omega))
    intro r11 h11 tk11 F9 K9 R9
    refine hide fun G99 hG99 => ?_
    obtain ⟨e9, p9, recs', n', hP, hlr, hra⟩ := R9
    refine hG99 ?_
    clear hG99 G99
    subst e9
    have N9 : News s₁.heap LL h11 ((I, o) :: (lr, PySem.W.listOf (List.toArray recs') n') :: (dx, curD w s1 s2 s3 s4 li lr (.int (-1) tp)) :: T8) := by
      intro p hp
      rcases List.mem_cons.mp hp with rfl | hp
      · have z := N8 _ (.head _)
        exact ⟨K9 _ _ z.1 (by simpa using Ne.symm n0), z.2⟩
      · rcases List.mem_cons.mp hp with rfl | hp
        · exact ⟨hlr, (N8 _ (.tail _ (.head _))).2⟩
        · rcases List.mem_cons.mp hp with rfl | hp
          · have z := N8 _ (.tail _ (.tail _ (.head _)))
            exact ⟨K9 _ _ z.1 (by simpa using Ne.symm na3), z.2⟩
          · have z := N8 p (.tail _ (.tail _ (.tail _ hp)))
            have nn := H8.off p hp
            exact ⟨K9 _ _ z.1 (by intro q; apply nn; simp only [List.map_cons, List.map_nil, List.mem_cons, List.not_mem_nil, or_false] at q ⊢; exact .inl q), z.2⟩
    dsimp only
    refine wpC_any (wpAny_execs_nil ?_)
    refine Turned.next ((lr, PySem.W.listOf (List.toArray recs') n') :: (dx, curD w s1 s2 s3 s4 li lr (.int (-1) tp)) :: T8) (fr_over' (es := [(Str.ofString "table", _), (Str.ofString "index", _), (Str.ofString "rows", _), (Str.ofString "due", _), (Str.ofString "keys", _), (Str.ofString "cursor", _)]) F9 ⟨rfl, rfl, rfl, rfl, rfl, rfl, trivial⟩) N9 (.head _) (fun p hp => .tail _ hp) (List.forall_mem_cons.mpr ⟨n0, List.forall_mem_cons.mpr ⟨n2, n1⟩⟩) (fun _ k9 => k9 recs' (kss.insertIdx p9 ds) n' _ hra (sorted_insert hso ok2 hP) (perm_step hpe hds hP.1))
  · clear F9 N9 up
    intro recs kss nr m₁ hrs hso hpe h9 tk F6 N5
    dsimp only
    rw [hk2l, List.take_length] at hpe
    refine execsC_A ?_
    k_steps
    refine execsC_A ?_
    k_steps
    with_reducible rename Fr _ _ _ _ => F10
    with_reducible rename News _ _ _ _ => N10
    refine hide fun G99 hG99 => ?_
    obtain ⟨lf, _, hlf, -⟩ := nm_1 N10
    refine hG99 ?_
    clear hG99 G99
    subst hlf
    have up := H8.now F10 N10 (by (intro p hp; k_dflt ((repeat (refine List.Mem.tail _ ?_)); exact hp)))
    have hT8 : ∀ p ∈ T8, p.1 ≠ lf := by
      intro p hp
      exact t8_2 (by assumption) hp
    have nlf1 : @Ne Nat lr lf := by k_ne
    have nlf2 : @Ne Nat dx lf := by k_ne
    have hklen := hpe.length_eq
    have hk6 := hkok.2.2.1
    have hbl : bs.length = cols.length + 1 := by rw [hbs, List.length_append, List.length_map]; rfl
    refine hold_reK (ex' := [dx, lf]) (xs' := [(dx, curD w s1 s2 s3 s4 li lr (.int (-1) tp)), (lf, PySem.W.listOf #[] 0)]) H8 F10 N10 (by (intro p hp; k_dflt ((repeat (refine List.Mem.tail _ ?_)); exact hp))) F10 (fun _ _ _ e => e) rfl
      (List.forall_mem_cons.mpr ⟨⟨N10.get (by k_mem), ⟨_, by k_mem⟩, H8.none_ex (.tail _ (.head _))⟩, List.forall_mem_cons.mpr ⟨⟨N10.get (by k_mem), ⟨_, by k_mem⟩, H8.none_of N10 (by k_mem) hT8⟩, fun _ h => nomatch h⟩⟩) ?_
    intro T9 V9 M9 H9 u1 u2
    replace M9 : News s₁.heap LL _ ((dx, curD w s1 s2 s3 s4 li lr (.int (-1) tp)) :: (lf, PySem.W.listOf #[] 0) :: T9) := M9
    have It9 := isTabF_keep It8 u1
    have Ix9 := isIdx_keep Ix8 u1
    have Il9 := list_keep Il8 u1
    have Ir9 := rowsAre_keep Ir8 u1
    have Kd9 := list_keep Kd8 u1
    have Kb9 := keysAre_keep Kb8 u1
    have Kk9 := list_keep Kk8 u1
    have Kc9 := keysAre_keep Kc8 u1
    have In9 := isInfo_keep In8 u1
    have hx9 := u1 _ _ hx8
    have Ic9 : V9.IsList lr (List.toArray recs) := ⟨_, u2 _ _ (N10.get (a := lr) (by k_mem)) (N10 (lr, _) (by k_mem)).2.1 (by intro q; rcases List.mem_cons.mp q with q | q; exact na3 q; exact nlf1 (List.mem_singleton.mp q)), rfl, _, rfl⟩
    clear u1 u2 N10 up H8 It8 Ix8 Il8 Ir8 Kd8 Kb8 Kk8 Kc8 In8 hx8
    have up := H9.now F10 M9 (by (intro p hp; k_dflt ((repeat (refine List.Mem.tail _ ?_)); exact hp)))
    have hrb : ∀ r ∈ rows, 0 ≤ r.1 ∧ r.1 < 1000 := fun r hr => by have := rid_lt hrg hrl r hr; omega
    have hr40 : ∀ r ∈ rows, r.2.length ≤ 40 := fun r hr => (hrd r hr).2
    have hsm9 : ∀ ks ∈ kss, (∀ d ∈ ks, Small d) ∧ ks.length ≤ 40 := fun ks hk => by
      have z := hkok.1 ks (hpe.mem_iff.mp hk)
      exact ⟨z.1, by have := z.2; omega⟩
    have hc40 : ∀ c ∈ cols, -1 ≤ c.1 ∧ c.1 < 3 := hcb
    k_dflt (refine go_check (uq := uq) (rp := rp) (rows := rows) (kss := kss) (cvs := cvs) (hbs := hbs) (hr1 := hrs) (hsm0 := hsm9) (hl1 := by omega) (hc0 := hc0) (hc1 := by omega) (hc2 := hcb) (hrl := by omega) (hrd := hr40) (hrb := hrb) (hmono := law_mono hbs hc0 hcb hrg hrl hbent hso hpe) (hx := hx9) (Ic := Ic9) (In := In9) (It := It9) (Ix := Ix9) (Il := Il9) (Ir := Ir9) (ret := fun r9 => ?_))
    clear r9
    intro fs nf' h10 tk10 T10 V10 G10 M10 H10 u1 hiff
    rw [law_iff hbs hc0 hcb hrg hrl hbent hso hpe] at hiff
    have It10 := isTabF_keep It9 u1
    have Ix10 := isIdx_keep Ix9 u1
    have Il10 := list_keep Il9 u1
    have Ir10 := rowsAre_keep Ir9 u1
    have Kd10 := list_keep Kd9 u1
    have Kb10 := keysAre_keep Kb9 u1
    have Kk10 := list_keep Kk9 u1
    have Kc10 := keysAre_keep Kc9 u1
    clear u1 H9 M9 F10 up It9 Ix9 Il9 Ir9 Kd9 Kb9 Kk9 Kc9 In9 hx9 Ic9 hrs hso hpe
    k_steps
    refine cutC G10 M10 ?_ ?_
    · intro G hG
      have hkl20 : ∀ ks ∈ kss2, ks.length ≤ 20 := fun ks hk => by have := (hkok.1 ks hk).2; omega
      have hdk : (rows.map fun r => keyOf rp cols r.1 r.2).length = rows.length := List.length_map ..
      by_cases hfs : fs = []
      · subst hfs
        obtain ⟨hA, hB⟩ := hiff.mp rfl
        k_steps
        all_goals first
          | exact absurd hA (by with_reducible assumption)
          | exact absurd hB (by with_reducible assumption)
          | ((with_reducible rename News _ _ _ _ => N9); refine hG _ _ (by with_reducible assumption) (newsSub N9 ?_); intro p hp; repeat (first | exact hp | refine List.Mem.tail _ ?_))
      · k_steps
        all_goals first
          | exact absurd (hiff.mpr ⟨by with_reducible assumption, by with_reducible assumption⟩) hfs
          | ((with_reducible rename News _ _ _ _ => N9); refine hG _ _ (by with_reducible assumption) (newsSub N9 ?_); intro p hp; repeat (first | exact hp | refine List.Mem.tail _ ?_))
    · clear G10 M10
      intro h11 tk11 F11 N11
      refine wpC_any ?_
      refine wpAny_execs_cons ?_
      have hrv5 := Ir10.1
      refine listComp_A (by exact rfl) (by with_unfolding_all rfl) rfl rfl F11 (by with_unfolding_all rfl) (by decide) rfl (by decide) ?_
      k_steps
      have hkeepR : (∃ o, s₁.heap.get? lrw = some o) ∨ ∃ o, (lrw, o) ∈ T10 ∧ o.cls = .type "list" ∧ ∃ k, o.data = .seq (List.toArray rvs) k := by
        refine hide fun G99 hG99 => ?_
        obtain ⟨o, e, c, k, d⟩ := id Il10
        refine hG99 ?_
        clear hG99 G99
        rcases H10.sub _ _ e with q | q
        · exact .inl ⟨_, q⟩
        · exact .inr ⟨o, q, c, k, d⟩
      refine compAS (vs := rvs) (news := (lf, PySem.W.listOf (List.toArray fs) nf') :: T10) (fun i ys k => ys.length ≤ i → (ys = [] ↔ ∀ (j : Nat) (r : Int × List Val), j < i → rows[j]? = some r → r.2.length ≤ 3) → k ((lf, PySem.W.listOf (List.toArray fs) nf') :: T10)) rfl (by ktn_no "b_list") (by omega) (hkeepR.imp id fun ⟨o, q, c, d⟩ i ys _ _ => ⟨o, .tail _ q, c, d⟩) F11 N11 (fun k hk => hk (Nat.le_refl _) (by simp)) (fun I j h v tk Q E1 _ _ q => wpAny_pure q) ?_ ?_
      · intro i v hv ys hyl hys I mC h9 tk oI C oC D E1 F5 hoC N5 off5 ne5
        refine hide fun G99 hG99 => ?_
        obtain ⟨⟨rid, ds⟩, hrow, a9, lv9, tv9, vs9, rfl, w1, w2, w3⟩ := Ir10.2 i v hv
        refine hG99 ?_
        clear hG99 G99
        have hdl := hrd (rid, ds) (List.mem_of_getElem? hrow)
        have hvl := ValsAre.length w3
        dsimp only at hdl w1 w3 hvl
        clear F11 N11
        refine comp_store rfl rfl F5 hoC N5 off5 ne5 fun h' oC' m₂ F6 hoC' hx6 _ N6 => ?_
        clear N5 F5 hoC
        refine wpAny_tests_one ?_
        by_cases hlong : 3 < ds.length
        · k_steps
          with_reducible rename Fr _ _ _ _ => F7
          with_reducible rename News _ _ _ _ => N7
          refine CompTurned.intro ((lf, PySem.W.listOf (List.toArray fs) nf') :: T10) F7 hoC' N7 (fun _ h => h) off5 fun k hk => hk (by rw [List.length_append]; simp only [List.length_cons, List.length_nil]; omega) (all_fail hrow (by dsimp only; omega))
        · k_steps
          with_reducible rename Fr _ _ _ _ => F7
          with_reducible rename News _ _ _ _ => N7
          refine CompTurned.intro ((lf, PySem.W.listOf (List.toArray fs) nf') :: T10) F7 hoC' N7 (fun _ h => h) off5 fun k hk => hk (by omega) (all_step hys hrow (by dsimp only; omega))
      · intro ys hyl hys D h9 tk F5 N5 off5
        clear F11 N11
        rw [hrv5] at hyl hys
        have hDn : ∀ p ∈ (lf, PySem.W.listOf (List.toArray fs) nf') :: T10, p.1 ≠ D := off5.all
        have hys' : ys = [] ↔ ∀ r ∈ rows, r.2.length ≤ 3 := hys.trans ⟨fun h r hr => (let ⟨j, hj⟩ := List.getElem?_of_mem hr; h j r (List.getElem?_eq_some_iff.mp hj).1 hj), fun h j r _ hj => h r (List.mem_of_getElem? hj)⟩
        clear hys
        k_steps
        refine forA ?_
        k_steps
        with_reducible rename Fr _ _ _ _ => F8
        with_reducible rename News _ _ _ _ => N8
        refine iterAS (fun i k9 => ∀ ws nw (m : Str → Option Value), (ws.length ≤ 5 + 3 * i) → ((ws = [] ↔ (∀ r ∈ rows, r.2.length ≤ 3) ∧ ∀ (j : Nat) (r : Int × List Val), j < i → rows[j]? = some r → ∀ q : Nat, q < 3 → nns[q]? = some true → rowVal rp (q : Int) r.1 r.2 ≠ none)) → k9 (over [(Str.ofString "table", (.ref xt)), (Str.ofString "rows", (.ref lrw)), (Str.ofString "wrong", (.ref D))] m) ((D, PySem.W.listOf (List.toArray ws) nw) :: (lf, PySem.W.listOf (List.toArray fs) nf') :: T10)) rfl (by ktn_no "b_list") ?hkeep (fr_over' (es := [(Str.ofString "table", _), (Str.ofString "rows", _), (Str.ofString "wrong", _)]) F8 ⟨rfl, rfl, rfl, trivial⟩) N8 (fun _ k9 => k9 (ys) (ys.length) _ (by omega) (hys'.trans ⟨fun h => ⟨h, fun j r hj => absurd hj (Nat.not_lt_zero j)⟩, fun h => h.1⟩)) ?_ ?_
        case hkeep =>
          rcases hkeepR with q | ⟨o, q, c, d⟩
          · exact .inl q
          · exact .inr (by intro i ws nw m _ _; exact ⟨o, .tail _ (.tail _ q), c, d⟩)
        · clear F8 N8
          intro i v hv ws nw m₁ hwl hws h9 tk I o F6 N5 hI
          refine hide fun G99 hG99 => ?_
          obtain ⟨⟨rid, ds⟩, hrow, a9, lv9, tv9, vs9, rfl, w1, w2, w3⟩ := Ir10.2 i v hv
          refine hG99 ?_
          clear hG99 G99
          have hdl := hrd (rid, ds) (List.mem_of_getElem? hrow)
          have hvl := ValsAre.length w3
          have hil : i < rows.length := (List.getElem?_eq_some_iff.mp hrow).1
          dsimp only at hdl w1 w3 hvl
          refine wpAny_assign_Name ?_
          k_steps
          refine forA ?_
          k_steps
          with_reducible rename Fr _ _ _ _ => F8
          with_reducible rename News _ _ _ _ => N8
          with_reducible rename IsRange _ _ _ _ _ _ _ _ => hr
          refine iterRS (fun p k9 => ∀ gs ng (m : Str → Option Value), (gs.length ≤ 5 + 3 * i + p) → ((gs = [] ↔ ((∀ r ∈ rows, r.2.length ≤ 3) ∧ ∀ (j : Nat) (r : Int × List Val), j < i → rows[j]? = some r → ∀ q : Nat, q < 3 → nns[q]? = some true → rowVal rp (q : Int) r.1 r.2 ≠ none) ∧ ∀ q, q < p → (nns[q]? = some true → rowVal rp (q : Int) rid ds ≠ none))) → k9 (over [(Str.ofString "table", (.ref xt)), (Str.ofString "rows", (.ref lrw)), (Str.ofString "wrong", (.ref D)), (Str.ofString "row", (.ref a9))] m) ((I, o) :: (D, PySem.W.listOf (List.toArray gs) ng) :: (lf, PySem.W.listOf (List.toArray fs) nf') :: T10))
            rfl hr (rsmall0 (n := 3) (by omega)) (rsize0 3) (fr_over' (es := [(Str.ofString "table", _), (Str.ofString "rows", _), (Str.ofString "wrong", _), (Str.ofString "row", _)]) F8 ⟨rfl, rfl, rfl, rfl, trivial⟩) N8 (fun _ k9 => k9 (ws) (nw) _ (by omega) (hws.trans ⟨fun h => ⟨h, fun q hq => absurd hq (Nat.not_lt_zero q)⟩, fun h => h.1⟩)) ?_ ?_
          · clear F8 N8 hr
            intro p tp hlt gs ng m₂ hgl hgs h8 tk8 I2 o2 F10 N9 hI2
            rw [Int.zero_add]
            obtain ⟨b, hb⟩ : ∃ b, nns[p]? = some b := ⟨nns[p]'(by omega), List.getElem?_eq_getElem (by omega)⟩
            refine hide fun G99 hG99 => ?_
            obtain ⟨It1, cs0, Ilc, Icc⟩ := id It10
            refine hG99 ?_
            clear hG99 G99
            have hcl := Icc.length
            refine col_out Icc hb fun ca cd9 c1 c2 c3 c4 c5 c6 nm tn9 af cl9 hc0' hc1' hc2' hnm => ?_
            have hcv : cs0[((p : Nat) : Int).toNat]? = some (.ref ca) := hc0'
            refine tab_out It1 fun dxt t1 t2 t3 t4 t5 t6 t7 t8 tn rt rpv l1 l2 sq l3 i1 i2 i3 => ?_
            have n3 : @Ne Nat D I2 := hI2 _ (.tail _ (.head _))
            have n4 : @Ne Nat I I2 := hI2 _ (.head _)
            have n6 : @Ne Nat D I := hI _ (.head _)
            have n5 : ∀ q ∈ (lf, PySem.W.listOf (List.toArray fs) nf') :: T10, q.1 ≠ I2 := fun q hq => hI2 q (.tail _ (.tail _ hq))
            have hwg : gs.length ≤ 100 := by omega
            refine wpAny_assign_Name ?_
            have hp0 : -1 ≤ (p : Int) := by omega
            have hp1 : (p : Int) < (ds.length : Int) := by omega
            k_steps
            · with_reducible rename Fr _ _ _ _ => F8
              with_reducible rename News _ _ _ _ => N8
              try simp only [List.push_toArray] at N8
              refine' Turned.next ((I, o) :: (D, PySem.W.listOf (List.toArray (gs ++ [_])) (ng + 1)) :: (lf, PySem.W.listOf (List.toArray fs) nf') :: T10) (fr_over' (es := [(Str.ofString "table", _), (Str.ofString "rows", _), (Str.ofString "wrong", _), (Str.ofString "row", _)]) F8 ⟨rfl, rfl, rfl, rfl, trivial⟩) N8 ?mI ?mem ?ne ?J
              case mI => k_mem
              case mem => intro p hp; repeat (first | exact hp | refine List.Mem.tail _ ?_)
              case ne => exact List.forall_mem_cons.mpr ⟨n4, List.forall_mem_cons.mpr ⟨n3, n5⟩⟩
              case J => exact fun _ k9 => k9 (gs ++ [_]) (ng + 1) _ (len_snocp hgl) (col_bad fun z => z (hb.trans (congrArg some (by assumption))) (by assumption))
            · with_reducible rename Fr _ _ _ _ => F8
              with_reducible rename News _ _ _ _ => N8
              try simp only [List.push_toArray] at N8
              refine' Turned.next ((I, o) :: (D, PySem.W.listOf (List.toArray gs) ng) :: (lf, PySem.W.listOf (List.toArray fs) nf') :: T10) (fr_over' (es := [(Str.ofString "table", _), (Str.ofString "rows", _), (Str.ofString "wrong", _), (Str.ofString "row", _)]) F8 ⟨rfl, rfl, rfl, rfl, trivial⟩) N8 ?mI ?mem ?ne ?J
              case mI => k_mem
              case mem => intro p hp; repeat (first | exact hp | refine List.Mem.tail _ ?_)
              case ne => exact List.forall_mem_cons.mpr ⟨n4, List.forall_mem_cons.mpr ⟨n3, n5⟩⟩
              case J => exact fun _ k9 => k9 gs ng _ (Nat.le_succ_of_le hgl) (col_ok hgs fun _ z => some_none (by assumption) z)
            · with_reducible rename Fr _ _ _ _ => F8
              with_reducible rename News _ _ _ _ => N8
              try simp only [List.push_toArray] at N8
              refine' Turned.next ((I, o) :: (D, PySem.W.listOf (List.toArray gs) ng) :: (lf, PySem.W.listOf (List.toArray fs) nf') :: T10) (fr_over' (es := [(Str.ofString "table", _), (Str.ofString "rows", _), (Str.ofString "wrong", _), (Str.ofString "row", _)]) F8 ⟨rfl, rfl, rfl, rfl, trivial⟩) N8 ?mI ?mem ?ne ?J
              case mI => k_mem
              case mem => intro p hp; repeat (first | exact hp | refine List.Mem.tail _ ?_)
              case ne => exact List.forall_mem_cons.mpr ⟨n4, List.forall_mem_cons.mpr ⟨n3, n5⟩⟩
              case J => exact fun _ k9 => k9 gs ng _ (Nat.le_succ_of_le hgl) (col_ok hgs fun q => (true_false (by assumption) (Option.some.inj (hb.symm.trans q))).elim)
          · clear F8 N8 hr
            intro gs ng m₂ hgl hgs h8 tk8 F9 N9
            k_steps
            with_reducible rename Fr _ _ _ _ => F8
            with_reducible rename News _ _ _ _ => N8
            refine' Turned.next ((D, PySem.W.listOf (List.toArray gs) ng) :: (lf, PySem.W.listOf (List.toArray fs) nf') :: T10) (fr_over' (es := [(Str.ofString "table", _), (Str.ofString "rows", _), (Str.ofString "wrong", _)]) F8 ⟨rfl, rfl, rfl, trivial⟩) N8 ?mI ?mem ?ne ?J
            case mI => k_mem
            case mem => intro p hp; repeat (first | exact hp | refine List.Mem.tail _ ?_)
            case ne => exact List.forall_mem_cons.mpr ⟨(show D ≠ I from hI _ (.head _)), fun q hq => hI q (.tail _ hq)⟩
            case J =>
              refine fun _ k9 => k9 gs ng _ (by omega) (hgs.trans ?_)
              rw [all_next (P := fun r => ∀ q : Nat, q < 3 → nns[q]? = some true → rowVal rp (q : Int) r.1 r.2 ≠ none) hrow]
              exact and_assoc
        · clear F8 N8
          intro ws nw m₁ hwl hws h9 tk F6 N5
          rw [hrv5] at hws hwl
          k_steps
          with_reducible rename Fr _ _ _ _ => F12
          with_reducible rename News _ _ _ _ => N12
          refine hide fun G99 hG99 => ?_
          obtain ⟨lf2, _, hlf2, -⟩ := nm_1 N12
          refine hG99 ?_
          clear hG99 G99
          subst hlf2
          have up := H10.now F12 N12 (by (intro p hp; k_dflt ((repeat (refine List.Mem.tail _ ?_)); exact hp)))
          have hT10 : ∀ p ∈ T10, p.1 ≠ lf2 := by
            intro p hp
            exact t8_2 (by assumption) hp
          have nD : @Ne Nat D lf2 := by k_ne
          have hV := H10.none_of N12 (by k_mem) hT10
          have hnl : nns.length = 3 := hn2
          k_dflt (refine' tell_go (ct_checkrows (nns := nns) (rp := rp) (rows := rows) ?q1 ?q2 ?q3 ?q4) ?k1 ?k2 ?k3 ?k4 ?km ?k5 ?kK ?kp ?kd ?ku ?_; (case k1 => k_asm); (case k2 => k_asm); (case k3 => k_asm); (case k4 => k_asm); (case k5 => k_asm); (case kK => first | exact rfl | assumption); (case q1 => assumption); (case q2 => omega); (case q3 => assumption); (case q4 => assumption); (case km => (intro p hp; rcases List.mem_singleton.mp hp with rfl; k_mem)); (case kp => exact ⟨V10, fun b o e => ⟨up b o e, fun q => by rcases List.mem_singleton.mp q with rfl; rw [hV] at e; cases e⟩, It10, Il10, Ir10⟩); (case kd => (try simp only [depth_under_make, depth_under_kw, depth_in1, depth_deeper, depth_caller]); decide); (case ku => have hcL9 := cLine_is; (try simp only [units_in1, units_deeper, Around.mark_units, units_caller] at *); (try dsimp only [ktrTop] at *); omega))
          intro (r9 : Value)
          clear r9
          intro h13 tk13 F13 K13 R13
          refine hide fun G99 hG99 => ?_
          obtain ⟨fs2, nf2, hl2, hi2⟩ := R13
          refine hG99 ?_
          clear hG99 G99
          have N13 : News s₁.heap LL h13 [(lf2, PySem.W.listOf (List.toArray fs2) nf2), (D, PySem.W.listOf (List.toArray ws) nw)] := List.forall_mem_cons.mpr ⟨⟨hl2, (N12 _ (.head _)).2⟩, List.forall_mem_cons.mpr ⟨⟨K13 _ _ (N12 _ (.tail _ (.head _))).1 (by simpa using nD), (N12 _ (.tail _ (.head _))).2⟩, fun _ h => nomatch h⟩⟩
          clear N12 F12 K13 hl2 hV up
          have hww : fs2 = [] ↔ ws = [] := by
            rw [hi2, hws]
            constructor
            · intro h
              exact ⟨fun r hr => (h r hr).1, fun j r _ hj => (h r (List.mem_of_getElem? hj)).2⟩
            · rintro ⟨h1, h2⟩ r hr
              obtain ⟨j, hj⟩ := List.getElem?_of_mem hr
              exact ⟨h1 r hr, h2 j r (List.getElem?_eq_some_iff.mp hj).1 hj⟩
          by_cases hws0 : ws = []
          · have hf0 := hww.mpr hws0
            subst hws0
            subst hf0
            k_steps
            exact law_end (by with_reducible assumption) (by first | rfl | decide | simp) (.of_eq hg) rfl
          · have hf0 : fs2 ≠ [] := fun q => hws0 (hww.mp q)
            k_steps
            exact law_end (by with_reducible assumption) (by first | rfl | decide | simp) (.of_eq hg) rfl
end
end Mine

set_option maxRecDepth 100000 in
set_option maxHeartbeats 40000000 in
theorem PySem.Challenge.cw_nt0120_01_holds : PySem.Challenge.rw_nt0120_01.Holds :=
  Mine.x1
