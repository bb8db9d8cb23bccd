import PyProof.Rows.All
import Wide.All
import OpenK.AllK
import Wide.FinOn
import PyProof.InstStoreFacts
import Lean
import PySem.Challenge.RW_no0056_01
open PySem PySem.W PyProof.Rows
set_option Elab.async false
set_option maxRecDepth 100000
set_option compiler.extract_closed false

/-! part R0 -/
set_option maxHeartbeats 8000000
namespace Mine
/-- the goal as a name: what is taken apart beneath it costs nothing -/
theorem byGoal {G : Prop} (h : ∀ P : Prop, (G → P) → P) : G := h G id

/-! The restricted judgement: contexts on whose stack no codec builtin runs. -/
def dirty : Code → Bool
  | .builtin id _ => Builtin.Bytes.decodersThatHold.contains id
  | _ => false
def CleanB (l : List (Code × Pos)) : Prop := ∀ x ∈ l, dirty x.1 = false

def wpR {α : Type} (M : Model) (A : Around) (t : Sem α) (Q : α → Shared → Prop) (E : Value → Shared → Prop) (s : Shared) : Prop :=
  ∀ Γ p, Γ.In A → dirty Γ.code = false → CleanB Γ.below → Sem.wp M Γ t (fun a _ s' => Q a s') (fun e _ s' => E e s') p s
def codeR (M : Model) (A : Around) (c : Code) (R : Result → Shared → Prop) (s : Shared) : Prop :=
  ∀ Γ p, Γ.code = c → Γ.Below A → CleanB Γ.below → wpCode M Γ R p s

section
variable {α β : Type} {M : Model} {A : Around} {E : Value → Shared → Prop} {s : Shared}
theorem wpR_of {t : Sem α} {Q : α → Shared → Prop} (h : wpAny M A t Q E s) : wpR M A t Q E s := fun Γ p hΓ _ _ => h Γ p hΓ
theorem wpR_mono {t : Sem α} {Q Q' : α → Shared → Prop} {E' : Value → Shared → Prop} (h : wpR M A t Q E s) (hQ : ∀ a s, Q a s → Q' a s) (hE : ∀ e s, E e s → E' e s) : wpR M A t Q' E' s :=
  fun Γ p hΓ hd hc => Sem.wp_mono M Γ t (fun a _ s => hQ a s) (fun e _ s => hE e s) p s (h Γ p hΓ hd hc)
theorem wpR_bind {m : Sem α} {f : α → Sem β} {Q : β → Shared → Prop} (h : wpR M A m (fun a s' => wpR M A (f a) Q E s') E s) : wpR M A (m >>= f) Q E s := fun Γ p hΓ hd hc => by
  rw [Sem.wp_bind']
  exact Sem.wp_mono M Γ m (fun a p' s' h' => h' Γ p' hΓ hd hc) (fun _ _ _ h' => h') p s (h Γ p hΓ hd hc)
/-- a first part by the plain judgement -/
theorem wpR_bindA {m : Sem α} {f : α → Sem β} {Q : β → Shared → Prop} (h : wpAny M A m (fun a s' => wpR M A (f a) Q E s') E s) : wpR M A (m >>= f) Q E s := wpR_bind (wpR_of h)
theorem wpR_onRaise {m : Sem α} {k : Value → Sem Unit} {Q : α → Shared → Prop} (h : wpR M A m Q (fun e s' => wpAny M A (k e) (fun _ s'' => E e s'') E s') s) : wpR M A (m.onRaise k) Q E s := fun Γ p hΓ hd hc => by
  rw [Sem.wp_onRaise]
  exact Sem.wp_mono M Γ m (fun _ _ _ h' => h') (fun e p' s' h' => h' Γ p' hΓ) p s (h Γ p hΓ hd hc)
theorem wpR_attempt {m : Sem α} {Q : Except Value α → Shared → Prop} (h : wpR M A m (fun a => Q (.ok a)) (fun e => Q (.error e)) s) : wpR M A m.attempt Q E s := fun Γ p hΓ hd hc => by
  rw [Sem.wp_attempt]; exact h Γ p hΓ hd hc
theorem wpR_holding {vs : List Value} {m : Sem α} {Q : α → Shared → Prop} (h : wpR M A m Q E s) : wpR M A (holding vs m) Q E s := fun Γ p hΓ hd hc => by rw [Sem.wp_holding]; exact h Γ p hΓ hd hc
theorem wpR_keep {vs : List Value} {m : Sem α} {Q : α → Shared → Prop} (h : wpR M A m Q E s) : wpR M A (m.keep vs) Q E s := fun Γ p hΓ hd hc => by rw [Sem.wp_keep]; exact h Γ p hΓ hd hc
theorem wpR_standAt {pos : Pos} {Q : Unit → Shared → Prop} (h : Q () s) : wpR M A (standAt pos) Q E s := fun _ _ _ _ _ => h
theorem wpR_pure {a : α} {Q : α → Shared → Prop} (h : Q a s) : wpR M A (pure a) Q E s := fun _ _ _ _ _ => h
theorem codeR_mono {c : Code} {R R' : Result → Shared → Prop} (h : codeR M A c R s) (hR : ∀ r s, R r s → R' r s) : codeR M A c R' s := fun Γ p hc hΓ hcl => wpCode_mono hR (h Γ p hc hΓ hcl)
theorem codeR_of {c : Code} {R : Result → Shared → Prop} (h : codeAny M A c R s) : codeR M A c R s := fun Γ p hc hΓ _ => h Γ p hc hΓ

theorem codeR_of_tree {c : Code} {R : Result → Shared → Prop} (hcc : dirty c = false)
    (h : wpR M (A.under c) (M.den c) (fun fin s' => match fin with | .done f => R (.ok f) s' | .again c' => c'.quiet = true ∧ codeR M A c' R s') (fun e s' => R (.error e) s') s) : codeR M A c R s := fun Γ p hc hΓ hcl => by
  rw [wpCode_iff_wp, hc]
  refine Sem.wp_mono M Γ _ (fun fin p' s' h' => ?_) (fun _ _ _ h' => h') p s (h Γ p (hc ▸ hΓ.in) (by rw [hc]; exact hcc) hcl)
  cases fin with
  | done f => exact h'
  | again c' => exact ⟨h'.1, h'.2 (Γ.goto c') p' rfl (hΓ.goto c') hcl⟩

theorem wpR_run {c : Code} {Q : Flow → Shared → Prop} (hc : codeR M A c (fun r s' => match r with | .ok f => Q f s' | .error e => E e s') s) : wpR M A (run c) Q E s := fun Γ p hΓ hd hcl => by
  rw [Sem.wp_run]
  refine hc _ p rfl (hΓ.enter c none p (by intro x; cases x)) fun x hx => ?_
  rcases List.mem_cons.mp hx with rfl | hx
  · exact hd
  · exact hcl x hx
theorem wpR_call {f : Value} {pos : List Value} {kw : List (Str × Value)} {Q : Value → Shared → Prop}
    (hc : codeR M A (.call f ⟨pos, kw⟩) (fun r s' => match r with | .ok (.ret v) => Q v s' | .ok _ => False | .error e => E e s') s) : wpR M A (call f pos kw) Q E s := fun Γ p hΓ hd hcl => by
  show Sem.wp M Γ (runValue (.call f ⟨pos, kw⟩)) _ _ p s
  rw [Sem.wp_runValue]
  refine hc _ p rfl (hΓ.enter _ none p (by intro x; cases x)) fun x hx => ?_
  rcases List.mem_cons.mp hx with rfl | hx
  · exact hd
  · exact hcl x hx

theorem wpR_stackAny {f : Code × Pos → Bool} {Q : Bool → Shared → Prop} (hg : A.guards = some []) (hf : ∀ c p, c.isGuard = false → dirty c = false → f (c, p) = false) (h : Q false s) : wpR M A (do return (← stack).any f) Q E s := fun Γ p hΓ hd hcl => by
  have hgs : guardsOf ((Γ.code, p) :: Γ.below) = [] := by rw [guardsOf_cons]; exact hΓ.2.2.2.1 _ hg
  have hall : ∀ x ∈ ((Γ.code, p) :: Γ.below), dirty x.1 = false := fun x hx => by
    rcases List.mem_cons.mp hx with rfl | hx
    · exact hd
    · exact hcl x hx
  have key : ∀ l : List (Code × Pos), guardsOf l = [] → (∀ x ∈ l, dirty x.1 = false) → l.any f = false := by
    intro l
    induction l with
    | nil => intros; rfl
    | cons x l ih =>
      intro h1 h2
      obtain ⟨c, q⟩ := x
      rw [guardsOf_cons] at h1
      have h3 : c.guards = [] := (List.append_eq_nil_iff.mp h1).1
      have hng : c.isGuard = false := by
        cases hgc : c.isGuard with
        | false => rfl
        | true => rw [Code.guards, hgc] at h3; cases h3
      rw [List.any_cons, ih (List.append_eq_nil_iff.mp h1).2 fun x hx => h2 x (.tail _ hx), Bool.or_false]
      exact hf c q hng (h2 _ (.head _))
  show Q (((Γ.code, p) :: Γ.below).any f) s
  rw [key _ hgs hall]
  exact h
theorem guard_ne {k id : String} {args : Args} (hk : ∀ args, (Code.builtin k args).isGuard = true) (h : (Code.builtin id args).isGuard = false) : id ≠ k := fun e => Bool.noConfusion ((hk args).symm.trans ((congrArg (fun z => (Code.builtin z args).isGuard) e).symm.trans h))
theorem wpR_exported {self : Value} {Q : Bool → Shared → Prop} (hg : A.guards = some []) (h : Q false s) : wpR M A (Builtin.Bytes.exported self) Q E s := by
  unfold Builtin.Bytes.exported
  refine wpR_stackAny hg (fun c p => ?_) h
  revert c
  apply Code.rec
  case builtin =>
    intro id args hng hd
    have h1 : id ≠ "bytearray.__contains__" := guard_ne (fun _ => rfl) hng
    have h2 : id ≠ "bytearray.__mod__" := guard_ne (fun _ => rfl) hng
    have h3 : id ≠ "bytearray.__rmod__" := guard_ne (fun _ => rfl) hng
    have h4 : id ≠ "_struct.pack_into.held" := guard_ne (fun _ => rfl) hng
    have h5 : id ≠ "bytearray.find.held" := guard_ne (fun _ => rfl) hng
    clear hng
    delta Builtin.Bytes.exported.match_1
    refine (dif_neg h1 : dite _ _ _ = _).trans ?_
    refine (dif_neg h2 : dite _ _ _ = _).trans ?_
    refine (dif_neg h3 : dite _ _ _ = _).trans ?_
    refine (dif_neg h4 : dite _ _ _ = _).trans ?_
    refine (dif_neg h5 : dite _ _ _ = _).trans ?_
    obtain ⟨pos, kw⟩ := args
    cases pos with
    | nil => rfl
    | cons v r => exact (congrArg (_ && ·) hd).trans (Bool.and_false _)
  all_goals (intros; rfl)
end
end Mine

/-! part RH -/
set_option maxHeartbeats 8000000
namespace Mine

/-! The top by the restricted judgement: the claim's caller has no codec builtin on its stack. -/
theorem runR {prog : Program} {w : World} {t : Sem Fin} {s : Shared} {R : Result → Shared → Prop} (hz : s.asleep)
    (h : wpR (model prog w) callerA t (fun fin s' => ∃ f, fin = .done f ∧ (R (.ok f) s' ∧ leftWithCleanup s'.gens = false)) (fun e s' => R (.error e) s' ∧ leftWithCleanup s'.gens = false) s) :
    ∃ n r s' s'', runN (denote table) prog w n s ⟨t, .builtin "claim.caller" {}, default, []⟩ = .halted (outcomeOf r) s' ∧
      schedN (denote table) prog w n (.single s ⟨t, .builtin "claim.caller" {}, default, []⟩) = .halted (outcomeOf r) s' ∧ s'.forget = s''.forget ∧ R r s'' := by
  have one := h _ default caller_in rfl (fun _ hx => nomatch hx)
  have fin : Sem.wp (model prog w) ⟨.builtin "claim.caller" {}, none, none, [], none⟩ t (Sem.finPost (model prog w) ⟨.builtin "claim.caller" {}, none, none, [], none⟩ (fun r s' => R r s' ∧ leftWithCleanup s'.gens = false)) (fun e _ s' => R (.error e) s' ∧ leftWithCleanup s'.gens = false) default s :=
    Sem.wp_mono _ _ t (fun fin p' s' q => (by obtain ⟨f, rfl, hf⟩ := q; exact hf)) (fun _ _ _ q => q) _ s one
  obtain ⟨n, r, a, b, h1, h2, h3, h4⟩ := wp_halts_full (M := model prog w) (R := R) hz fin
  exact ⟨n, r, b, a, h2, h1, h3, h4⟩

theorem callFromR {c : ClaimW} {tree : List Value → Sem Fin} {w : World} {s : Shared} {free : Addr → Prop} {gens : Prop} {kept : Heap → Prop} (hz : s.asleep) (hgens : s.gens = #[])
    (spec : ∀ args, c.pre args = true → WData.layableAll args = true → ∀ ord : List DictEntry → List DictEntry, (∀ l, (ord l).Perm l) →
      ∃ vs s₁, layAllW c.records (classAt s.heap) w.params ord args s = some (vs, s₁) ∧
        wpR (model c.prog w) callerA (tree vs) (fun fin s' => ∃ f, fin = .done f ∧ (c.Ends s args vs s₁ (.ok f) s' ∧ s'.os = s.os ∧ AllBare s'.gens ∧ kept s'.heap))
          (fun e s' => c.Ends s args vs s₁ (.error e) s' ∧ s'.os = s.os ∧ AllBare s'.gens ∧ kept s'.heap) s₁) :
    c.CallFrom (fun vs => ⟨tree vs, .builtin "claim.caller" {}, default, []⟩) w free gens kept s := by
  intro args hpre hlay ord hord
  refine byGoal fun P9 d9 => ?_
  obtain ⟨vs, s₁, hlaid, walk⟩ := spec args hpre hlay ord hord
  obtain ⟨lg, _, _, ll⟩ := layAllW_rest _ _ _ hlaid
  obtain ⟨k, r, s', s'', ran, sched, forg, ends, os, kp⟩ := runR (prog := c.prog) (w := w) (t := tree vs) (s := s₁) (R := fun r s' => c.Ends s args vs s₁ r s' ∧ s'.os = s.os ∧ kept s'.heap) (Shared.asleep_of_life ll hz)
    (fun Γ p a b d => Sem.wp_mono _ _ _ (fun _ _ _ q => by obtain ⟨f, e, h1, h2, h3, h4⟩ := q; exact ⟨f, e, ⟨h1, h2, h4⟩, leftWithCleanup_false_of_bare h3⟩)
      (fun _ _ _ q => ⟨⟨q.1, q.2.1, q.2.2.2⟩, leftWithCleanup_false_of_bare q.2.2.1⟩) _ _ (walk Γ p a b d))
  obtain ⟨eh, _, _, eo, _⟩ := Shared.forget_eq forg
  replace ends := ClaimW.Ends.congr eh ends
  have kp' : kept s'.heap := eh ▸ kp
  have os' : s'.os = s.os := eo.trans os
  have life : s'.heap.life = s.heap.life := (runN_life _ _ _ ran).trans ll
  refine d9 ?_
  clear d9 P9
  refine ⟨vs, s₁, hlaid, k, _, s', sched, ?_, (fun _ i x hx => by rw [hgens] at hx; simp at hx), kp', by rw [life], Shared.rest_eq os'⟩
  refine byGoal fun P9 d9 => ?_
  rcases ends with ⟨v, rfl, d1, d2, d3, d4, d5⟩ | ⟨e, ob, cls, rfl, d1, d2, d3, d4, d5⟩
  · exact d9 <| .inl ⟨v, rfl, d1, d2, d3, fun b o y _ => d4 b o y, d5⟩
  · exact d9 <| .inr ⟨e, ob, cls, rfl, d1, d2, d3, d4, fun b o y _ => d5 b o y⟩

abbrev WalkR (q : Program) (loose : List Str) (XP : (Str → Option Value) → Heap → Prop) (YP : World → Heap → Prop) (r : RowW) (d : DefRec) (kwd : List (Str × PySem.Expr)) (run : Value → List Value → Sem Value) : Prop :=
  ∀ (w : World) (s₀ s₁ : Shared) (mg mb : Str → Option Value), Ground q loose r.records XP w s₀ mg mb s₁.heap → YP w s₁.heap → ∀ (a : Addr) (o : Obj) (pm cd doc dV kV : Value), s₁.heap.get? a = some o →
    o.data = .func { _root_.PySem.Calls.docDef d.name d.params d.body d.scope pm cd doc with defaults := dV, kwdefaults := kV } → s₁.heap.CodeRec cd d.name → Dflts mg s₁.heap d.params kwd dV kV → mg d.name = some (.ref a) → s₁.gens = #[] →
    ∀ (args : List WData) (vals : List Value) (as : List Addr), r.claim.pre args = true → WData.layableAll args = true → ReadsAllW r.records (classAt s₀.heap) s₁.heap vals args as → WellAll w.params s₁.heap vals args → (∀ a ∈ as, (a == sysModules) = false) →
      wpR (model r.prog w) callerA (run (.ref a) vals) (fun v s' => GoodWG r.claim (classAt s₀.heap) (ExcName.means s₀.heap) args s₁ (.ok (.ret v)) s')
        (fun e s' => GoodWG r.claim (classAt s₀.heap) (ExcName.means s₀.heap) args s₁ (.error e) s') s₁

theorem PySem.W.holds_open {r : OpenRow} {q : Program} {loose : List Str} {Xt : Shared → Bool} {XP : (Str → Option Value) → Heap → Prop} {α : Type} {Yf : Shared → α} {Ya : World → α} {YP : World → Heap → Prop} {d : DefRec} {kwd : List (Str × PySem.Expr)} {N : Nat}
    (left : LeftO r.prog q loose Xt Yf Ya N) (hY : ∀ w s, Yf s = Ya w → YP w s.heap) (hYk : ∀ w h h', YP w h → (∀ b o, h.get? b = some o → h'.get? b = some o) → YP w h')
    (hX : ∀ s, Xt s = true → XP (s.heap.nsMap mainGlobals) s.heap) (hXk : ∀ mg h h', XP mg h → (∀ b o, h.get? b = some o → h'.get? b = some o) → XP mg h')
    (hdef : defOf q r.name = some (d, kwd)) (hp : r.prog.theDef r.name = some (d.params, d.body, d.scope)) (hk : kwWritten? d.params.kwonlyargs d.params.kw_defaults = some kwd) (hRf : ∀ s, Xt s = true → RecFacts r.records s.heap) (hwr : (!r.writes || r.records.isEmpty) = true)
    (k1 : r.wellSaid = true) (ok : (chainsOk q && opensWell r.prog && (frees r.toRowW && r.within.isEmpty)) = true) (hb : r.prog.bare) (hw : r.toRowW.promised)
    (call : WalkR q loose XP YP r.toRowW d kwd fun f vs => PySem.call f vs) : r.Holds := by
  refine ⟨k1, hw, ?_⟩
  obtain ⟨ok, k5⟩ := Bool.and_eq_true_iff.mp ok
  obtain ⟨hch, o1⟩ := Bool.and_eq_true_iff.mp ok
  obtain ⟨k5, k6⟩ := Bool.and_eq_true_iff.mp k5
  obtain ⟨hsame, hu, ha, hap, hm⟩ := frees_parts k5
  have hwi : r.toRowW.claim.within = [] := List.isEmpty_iff.mp k6
  refine ⟨⟨hb, o1, by show r.makers.map _ = []; rw [hm]; rfl⟩, hw.witness, fun w => ⟨(left.behind hX hch w).1, fun s' hs' => ?_⟩⟩
  refine byGoal fun P9 d9 => ?_
  obtain ⟨s₀, hf, hg0, s, hT, hz, hgens, hg, GG, y⟩ := (left.behind (XP := fun mg h => XP mg h ∧ RecFacts r.records h) (fun s hs => ⟨hX s hs, hRf s hs⟩) hch w).2 s' hs'
  refine d9 ?_
  clear d9 P9
  have RF := GG.X.2
  have G0 : Ground q loose [] XP w s (s.heap.nsMap mainGlobals) (s.heap.nsMap builtinsNs) s.heap := { GG with X := GG.X.1 }
  refine ⟨s₀, hf, hg0, s, hT, fun n hn => ?_, RF.1, RF.2.1, ?_⟩
  · obtain rfl : n = r.name := by split at hn <;> simp_all
    exact pinned_of_view hg G0 hdef hp hk
  have no : s.gens = #[] := Array.eq_empty_of_size_eq_zero (beq_iff_eq.mp hgens)
  have G : Ground q loose r.records XP w s _ _ s.heap := RF.ground G0
  refine callFromR (c := r.toRowW.claim) hz no fun args hpre hlay ord hord => ?_
  refine byGoal fun P9 d9 => ?_
  obtain ⟨⟨vs, s₁⟩, hlaid⟩ := Option.isSome_iff_exists.mp (layAllW_isSome (P := w.params) (ord := ord) G.has args r.args s (pre_splitW hpre).1)
  refine d9 ?_
  clear d9 P9
  have keeps := layAllW_keeps _ _ _ hlaid
  have hal := layAllW_rest _ _ _ hlaid
  refine byGoal fun P9 d9 => ?_
  obtain ⟨as, hrd, hin, hold⟩ := reads_layAllW hord _ _ _ hlaid hlay s₁.heap (fun _ _ e => e)
  refine d9 ?_
  clear d9 P9
  have L : Laid r.records w s s₁ args vs as := ⟨⟨ord, hord, hlaid⟩, hrd, hin, hold, keeps, hal.1.trans no, hal.2.2.1⟩
  have G₁ := G.keeps hXk keeps
  refine byGoal fun P9 d9 => ?_
  obtain ⟨a, o, pm, cd, doc, dV, kV, h1, h2, h3, h4, h5⟩ := G₁.fn hdef
  refine d9 ?_
  clear d9 P9
  have done := call w s s₁ _ _ G₁ (hYk _ _ _ (hY w s y) keeps) a o pm cd doc dV kV h2 h3 h4 h5 (defOf_name hdef ▸ h1) L.gens args vs as hpre hlay L.reads L.well (L.low G.low)
  have hi := ident_freeW hu ha hap
  refine ⟨vs, s₁, hlaid, ?_⟩
  refine wpR_bind (wpR_of (wpAny_nsGet G₁.T.g ?_))
  rw [show (s.heap.nsMap mainGlobals) r.name = some (.ref a) from h1]
  refine wpR_bind (wpR_mono done (fun v s' g => wpR_pure ⟨_, rfl, ?_⟩) fun e s' g => ?_)
  · have z := g.laid (c := r.toRowW.claim) hsame hwi hi L
    exact ⟨z.1, z.2.1, z.2.2, fun q => ⟨namesKept_of hT hg r.keeps keeps g.2.1.old, noTable hwr q⟩⟩
  · have z := g.laid (c := r.toRowW.claim) hsame hwi hi L
    exact ⟨z.1, z.2.1, z.2.2, fun q => ⟨namesKept_of hT hg r.keeps keeps g.2.1.old, noTable hwr q⟩⟩
end Mine

/-! part Hd -/
set_option maxHeartbeats 8000000
namespace Mine
open_top hd for PySem.Challenge.rw_no0056_01
end Mine

/-! part C0 -/
set_option maxHeartbeats 8000000
namespace Mine

theorem unr_end {h₀ : Heap} {L I : Addr} {o : Obj} {s₁ : Shared} {rest : (Str → Option Value) → List (Addr × Obj) → Prop} {news : List (Addr × Obj)} {h' : Heap} {tk : Nat} {m' : Str → Option Value}
    (F : Fr h₀ L h' m') (N : News h₀ L h' ((I, o) :: news)) (off : ∀ p ∈ news, p.1 < I) (r : rest m' news) : UnrEndW h₀ L s₁ [(I, o)] rest { s₁ with heap := h', toks := tk } :=
  ⟨h', tk, m', news, rfl, F, N, fun p hp q hq => by rw [List.mem_singleton.mp hq]; exact Nat.ne_of_lt (off p hp), r⟩
theorem unr_endJ {h₀ : Heap} {L I : Addr} {o : Obj} {s₁ : Shared} {rest : (Str → Option Value) → List (Addr × Obj) → Prop} {all : List (Addr × Obj)} (news : List (Addr × Obj)) {h' : Heap} {tk : Nat} {m' : Str → Option Value}
    (F : Fr h₀ L h' m') (N : News h₀ L h' all) (hI : (I, o) ∈ all) (hs : ∀ p ∈ news, p ∈ all) (off : ∀ p ∈ news, p.1 ≠ I) (r : rest m' news) : UnrEndW h₀ L s₁ [(I, o)] rest { s₁ with heap := h', toks := tk } :=
  ⟨h', tk, m', news, rfl, F, (fun p hp => by
    rcases List.mem_append.mp hp with hp | hp
    · rw [List.mem_singleton.mp hp]; exact N _ hI
    · exact N p (hs p hp)), fun p hp q hq => by rw [List.mem_singleton.mp hq]; exact off p hp, r⟩

theorem map_put {m : Str → Option Value} {x : Str} {v : Value} (e : m x = some v) : (fun y => if y = x then some v else m y) = m := by
  funext y
  by_cases h : y = x
  · rw [if_pos h, h, e]
  · rw [if_neg h]
theorem fr_put {h₀ h : Heap} {L : Addr} {m : Str → Option Value} {x : Str} {v : Value} (F : Fr h₀ L h m) (e : m x = some v) : Fr h₀ L h (fun y => if y = x then some v else m y) := by
  rw [map_put e]; exact F
theorem fr_put2 {h₀ h : Heap} {L : Addr} {m : Str → Option Value} {x x2 : Str} {v v2 : Value} (F : Fr h₀ L h m) (e : m x = some v) (e2 : m x2 = some v2) : Fr h₀ L h (fun y => if y = x then some v else if y = x2 then some v2 else m y) := by
  have : (fun y => if y = x then some v else if y = x2 then some v2 else m y) = m := by
    have h2 := map_put e2
    funext y
    by_cases h : y = x
    · rw [if_pos h, h, e]
    · rw [if_neg h]; exact congrFun h2 y
  rw [this]; exact F
theorem fr_put3 {h₀ h : Heap} {L : Addr} {m : Str → Option Value} {x x2 x3 : Str} {v v2 v3 : Value} (F : Fr h₀ L h m) (e : m x = some v) (e2 : m x2 = some v2) (e3 : m x3 = some v3) : Fr h₀ L h (fun y => if y = x then some v else if y = x2 then some v2 else if y = x3 then some v3 else m y) := by
  have : (fun y => if y = x then some v else if y = x2 then some v2 else if y = x3 then some v3 else m y) = m := by
    funext y
    by_cases h : y = x
    · rw [if_pos h, h, e]
    · rw [if_neg h]
      by_cases h : y = x2
      · rw [if_pos h, h, e2]
      · rw [if_neg h]; exact congrFun (map_put e3) y
  rw [this]; exact F
theorem fr_put4 {h₀ h : Heap} {L : Addr} {m : Str → Option Value} {x x2 x3 x4 : Str} {v v2 v3 v4 : Value} (F : Fr h₀ L h m) (e : m x = some v) (e2 : m x2 = some v2) (e3 : m x3 = some v3) (e4 : m x4 = some v4) : Fr h₀ L h (fun y => if y = x then some v else if y = x2 then some v2 else if y = x3 then some v3 else if y = x4 then some v4 else m y) := by
  have : (fun y => if y = x then some v else if y = x2 then some v2 else if y = x3 then some v3 else if y = x4 then some v4 else m y) = m := by
    funext y
    by_cases h : y = x
    · rw [if_pos h, h, e]
    · rw [if_neg h]
      by_cases h : y = x2
      · rw [if_pos h, h, e2]
      · rw [if_neg h]
        by_cases h : y = x3
        · rw [if_pos h, h, e3]
        · rw [if_neg h]; exact congrFun (map_put e4) y
  rw [this]; exact F
theorem news_sub {h₀ h : Heap} {L : Addr} {n₁ : List (Addr × Obj)} (n₂ : List (Addr × Obj)) (N : News h₀ L h n₁) (hs : ∀ p ∈ n₂, p ∈ n₁) : News h₀ L h n₂ := N.perm hs

theorem step_on {h₀ : Heap} {L I : Addr} {oI : Obj} {own : List (Addr × Obj)} {J' Jn : (Str → Option Value) → List (Addr × Obj) → Prop} {Q : Flow → Shared → Prop} {s₁ s₃ : Shared} {f : Flow}
    (hJ : ∀ m nx, J' m nx → Jn m nx) (hown : ∀ p ∈ own, ∀ m nx, J' m nx → p ∈ (I, oI) :: nx) (p : UnrPostW h₀ L s₁ [(I, oI)] J' Q f s₃) :
    LoopStepV h₀ L [I] own Jn s₁ (fun v s' => Q (.ret v) s') (fun s' => Q .next s') f s₃ := by
  have fin : UnrEndW h₀ L s₁ [(I, oI)] J' s₃ → LoopStepU h₀ L [I] own Jn s₁ .next s₃ := by
    rintro ⟨h', tk, m', nx', e, F', N', hn', hJ'⟩
    refine ⟨rfl, h', tk, m', nx', e, F', fun p hp => ?_, fun p hp hq => hn' p hp _ (.head _) (List.mem_singleton.mp hq), hJ _ _ hJ'⟩
    rcases List.mem_append.mp hp with hp | hp
    · exact N' _ (hown p hp _ _ hJ')
    · exact N' p (.tail _ hp)
  cases f with
  | ret v => exact .ret p
  | brk => exact .brk p
  | next => exact .next (fin p)
  | cont => exact .cont (fin p)
section
variable {prog : Program} {w : World} {A : Around} {E : Value → Shared → Prop} {s : Shared} {env : Env} {h₀ : Heap} {target : Expr} {body : List Stmt} {Q : Flow → Shared → Prop}
theorem turns_at {E : Value → Shared → Prop} {A : Around} {w : World} {it : Value} {s₂ : Shared} {I : Addr} {fp wr : List Addr} {n : Nat} {P Md : Nat → Value → Heap → Prop} {St : Nat → Heap → Prop} {m : Str → Option Value} {news : List (Addr × Obj)} {J : Nat → (Str → Option Value) → List (Addr × Obj) → Prop}
    (h1 : it = .ref I) (h2 : KTurns prog w A target I fp wr n P Md St) (h3 : env.locals ∉ fp) (h4 : ∀ b ∈ wr, h₀.get? b = none) (h5 : ∀ p ∈ news, p.1 ∉ wr) (h6 : St 0 s₂.heap) (h7 : Fr h₀ env.locals s₂.heap m) (h8 : News h₀ env.locals s₂.heap news) (h9 : J 0 m news)
    (ha : ∀ i v m₁ news₁ h₁ tk₁ own, i < n → P i v h₁ → J i m₁ news₁ → (∀ p ∈ news₁, p.1 ∉ wr) → (∀ p ∈ own, p.1 ∈ fp) → (∀ p ∈ own, h₁.get? p.1 = some p.2) → (∀ b ∈ fp, h₀.get? b = none → ∀ o, h₁.get? b = some o → (b, o) ∈ own) → St (i + 1) h₁ →
      Fr h₀ env.locals h₁ m₁ → News h₀ env.locals h₁ (own ++ news₁) →
      wpAny (model prog w) A (assign target env v) (fun _ s₃ => wpAny (model prog w) A (execs body env)
        (LoopStepV h₀ env.locals wr own (J (i + 1)) { s₂ with heap := h₁, toks := tk₁ } (fun v s' => Q (.ret v) s') fun s' => Q .next s') E s₃) E { s₂ with heap := h₁, toks := tk₁ })
    (hb : ∀ h' tk m' news', Fr h₀ env.locals h' m' → News h₀ env.locals h' news' → (∀ p ∈ news', p.1 ∉ wr) → J n m' news' → Q .next { s₂ with heap := h', toks := tk }) :
    TurnsAt prog w A h₀ env target body Q E it s₂ := ⟨I, fp, wr, n, P, Md, St, m, news, J, h1, h2, h3, h4, h5, h6, h7, h8, h9, ha, hb⟩
theorem iter_J {l : Addr} {vs : List Value} {nn : Nat} {m₀ : Str → Option Value} {news : List (Addr × Obj)} (J : Nat → (Str → Option Value) → List (Addr × Obj) → Prop)
    (hh : A.handled = none) (hl : (l, listOf (List.toArray vs) nn) ∈ news) (F : Fr h₀ env.locals s.heap m₀) (N : News h₀ env.locals s.heap news)
    (hJl : ∀ i m nx, J i m nx → (l, listOf (List.toArray vs) nn) ∈ nx) (hj : J 0 m₀ news)
    (turn : ∀ i v m₁ nx h tk I o, vs[i]? = some v → J i m₁ nx → (∀ p ∈ nx, p.1 ≠ I) → Fr h₀ env.locals h m₁ → News h₀ env.locals h ((I, o) :: nx) →
      wpAny (model prog w) A (assign target env v) (fun _ s₃ => wpAny (model prog w) A (execs body env) (UnrPostW h₀ env.locals { s with heap := h, toks := tk } [(I, o)] (J (i + 1)) Q) E s₃) E { s with heap := h, toks := tk })
    (done : ∀ m₁ nx h tk, J vs.length m₁ nx → Fr h₀ env.locals h m₁ → News h₀ env.locals h nx → Q .next { s with heap := h, toks := tk }) :
    wpAny (model prog w) A (pyIter (.ref l)) (fun it s₂ => TurnsAt prog w A h₀ env target body Q E it s₂) E s := by
  have hol : s.heap.get? l = some (listOf (List.toArray vs) nn) := (N _ hl).1
  have hls : s.heap.IsList l vs.toArray := ⟨_, hol, rfl, nn, rfl⟩
  have hne : l ≠ s.heap.objs.size := Nat.ne_of_lt (Heap.lt_size hol)
  refine wpAny_pyIter_list hls ?_
  have W := KTurns.ofWalks (target := target) (Walks.list (prog := prog) (w := w) hh s.heap.objs.size l hne vs.toArray) fun i v s Q E st q => letGo_listiter st.1 q
  have hlen : vs.toArray.size = vs.length := by simp
  rw [hlen] at W
  refine turns_at (n := vs.length) (m := m₀) (news := news) (J := fun i m nx => (l, listOf (List.toArray vs) nn) ∈ nx ∧ J i m nx) rfl W ?_ ?_ ?_ ⟨⟨_, Heap.get?_push_size _ rfl, rfl, rfl⟩, hls.at fun o e => Heap.get?_push_of_some _ e⟩ (F.push _) (fun p hp => ⟨Heap.get?_push_of_some _ (N p hp).1, (N p hp).2⟩) ⟨hl, hj⟩ ?_ ?_
  · intro hm
    rcases List.mem_cons.mp hm with e | hm
    · exact absurd F.ns.lt (e ▸ Nat.lt_irrefl _)
    · exact (N _ hl).2.1 ((List.mem_singleton.mp hm).symm)
  · intro b hb
    rw [List.mem_singleton.mp hb]
    exact next_is_new F
  · intro p hp hI
    exact absurd (Heap.lt_size (N p hp).1) ((List.mem_singleton.mp hI) ▸ Nat.lt_irrefl _)
  · intro i v m₁ nx h₁ tk₁ own hin hP ⟨hl₁, hJ⟩ hoff hown hget hall hst F₁ N₁
    have hP' : vs[i]? = some v := by simpa using hP
    have hI0 : h₀.get? s.heap.objs.size = none := next_is_new F
    obtain ⟨⟨oI, hoI, _⟩, _⟩ := id hst
    have hIown : (s.heap.objs.size, oI) ∈ own := hall _ (List.mem_cons.mpr (.inl rfl)) hI0 _ hoI
    have hlo : h₁.get? l = some (listOf (List.toArray vs) nn) := (N₁ _ (List.mem_append.mpr (.inr hl₁))).1
    have hoff' : ∀ p ∈ nx, p.1 ≠ s.heap.objs.size := fun p hp e => hoff p hp (List.mem_singleton.mpr e)
    have N₂ : News h₀ env.locals h₁ ((s.heap.objs.size, oI) :: nx) := List.forall_mem_cons.mpr ⟨N₁ _ (List.mem_append.mpr (.inl hIown)), fun p hp => N₁ _ (List.mem_append.mpr (.inr hp))⟩
    have ownOf : ∀ p ∈ own, p = (s.heap.objs.size, oI) ∨ p = (l, listOf (List.toArray vs) nn) := fun p hp => by
      have h2 := hget p hp
      rcases List.mem_cons.mp (hown p hp) with e | e
      · left
        have : h₁.get? p.1 = some oI := by rw [e]; exact hoI
        exact Prod.ext e (Option.some.inj (h2.symm.trans this))
      · right
        have e := List.mem_singleton.mp e
        have : h₁.get? p.1 = some (listOf (List.toArray vs) nn) := by rw [e]; exact hlo
        exact Prod.ext e (Option.some.inj (h2.symm.trans this))
    refine wpAny_mono (turn i v m₁ nx h₁ tk₁ _ oI hP' hJ hoff' F₁ N₂) (fun _ s₂ h₂ => wpAny_mono h₂ (fun f s₃ p => ?_) fun _ _ e => e) fun _ _ e => e
    refine step_on (fun _ _ q => ⟨hJl _ _ _ q, q⟩) (fun p hp m nx q => ?_) p
    rcases ownOf p hp with e | e
    · exact e ▸ .head _
    · exact e ▸ .tail _ (hJl _ _ _ q)
  · rintro h' tk m' nx F' N' _ ⟨_, hJ⟩
    exact done m' nx h' tk hJ F' N'

theorem letGo_rangeiter {I : Addr} {x y z : Int} {v : Value} {Q' : Unit → Shared → Prop} {s' : Shared} {t : Expr} (hit : IsRangeIter s'.heap I x y z) (h : Q' () s') :
    wpAny (model prog w) A (letOwnedTupleGo t (.ref I) v) Q' E s' := by
  unfold letOwnedTupleGo
  cases t <;> first
    | exact wpAny_pure h
    | (cases v <;> first
        | exact wpAny_pure h
        | (refine wpAny_bind (wpAny_load hit ?_)
           exact wpAny_pure h))

theorem iter_Js {r : Addr} {a₀ b₀ st : Int} {t₀ u₀ v₀ : Tok} {n : Nat} {m₀ : Str → Option Value} {news : List (Addr × Obj)} (J : Nat → (Str → Option Value) → List (Addr × Obj) → Prop)
    (hh : A.handled = none) (hr : IsRange s.heap r a₀ b₀ st t₀ u₀ v₀) (hsmall : Builtin.Range.small a₀ b₀ st = true) (hsz : Builtin.Range.rangeSize a₀ b₀ st = (n : Int)) (F : Fr h₀ env.locals s.heap m₀) (N : News h₀ env.locals s.heap news)
    (hj : J 0 m₀ news)
    (turn : ∀ (i : Nat) t m₁ nx h tk I o, i < n → J i m₁ nx → (∀ p ∈ nx, p.1 ≠ I) → Fr h₀ env.locals h m₁ → News h₀ env.locals h ((I, o) :: nx) →
      wpAny (model prog w) A (assign target env (.int (a₀ + (i : Int) * st) t)) (fun _ s₃ => wpAny (model prog w) A (execs body env) (UnrPostW h₀ env.locals { s with heap := h, toks := tk } [(I, o)] (J (i + 1)) Q) E s₃) E { s with heap := h, toks := tk })
    (done : ∀ m₁ nx h tk, J n m₁ nx → Fr h₀ env.locals h m₁ → News h₀ env.locals h nx → Q .next { s with heap := h, toks := tk }) :
    wpAny (model prog w) A (pyIter (.ref r)) (fun it s₂ => TurnsAt prog w A h₀ env target body Q E it s₂) E s := by
  refine wpAny_pyIter_range hr hsmall ?_
  have W₀ : Walks prog w A s.heap.objs.size [s.heap.objs.size] [s.heap.objs.size] n (fun i v => i < n ∧ ∃ t, v = .int (a₀ + i * st) t)
      (fun i h => IsRangeIter h s.heap.objs.size (a₀ + (i : Nat) * st) ((n : Int) - (i : Nat)) st) := (Walks.range hh _ a₀ st n).bound
  have W := KTurns.ofWalks (target := target) W₀ fun i v s Q E st q => letGo_rangeiter st q
  refine turns_at (n := n) (m := m₀) (news := news) (J := J) rfl W ?_ ?_ ?_ (by show IsRangeIter _ _ _ _ _; rw [hsz]; simpa using Heap.get?_push_size _ rfl) (F.push _) (fun p hp => ⟨Heap.get?_push_of_some _ (N p hp).1, (N p hp).2⟩) hj ?_ ?_
  · intro hm
    exact absurd F.ns.lt ((List.mem_singleton.mp hm) ▸ Nat.lt_irrefl _)
  · intro b hb
    rw [List.mem_singleton.mp hb]
    exact next_is_new F
  · intro p hp hI
    exact absurd (Heap.lt_size (N p hp).1) ((List.mem_singleton.mp hI) ▸ Nat.lt_irrefl _)
  · intro i v m₁ nx h₁ tk₁ own hin hP hJ hoff hown hget hall hst F₁ N₁
    obtain ⟨_, t, rfl⟩ := hP
    have hI0 : h₀.get? s.heap.objs.size = none := next_is_new F
    obtain ⟨oI, hoI⟩ : ∃ oI, h₁.get? s.heap.objs.size = some oI := ⟨_, hst⟩
    have hIown : (s.heap.objs.size, oI) ∈ own := hall _ List.mem_cons_self hI0 _ hoI
    have hoff' : ∀ p ∈ nx, p.1 ≠ s.heap.objs.size := fun p hp e => hoff p hp (List.mem_singleton.mpr e)
    have N₂ : News h₀ env.locals h₁ ((s.heap.objs.size, oI) :: nx) := List.forall_mem_cons.mpr ⟨N₁ _ (List.mem_append.mpr (.inl hIown)), fun p hp => N₁ _ (List.mem_append.mpr (.inr hp))⟩
    have ownOf : ∀ p ∈ own, p = (s.heap.objs.size, oI) := fun p hp => by
      have h2 := hget p hp
      have e := List.mem_singleton.mp (hown p hp)
      rw [e, hoI] at h2
      exact Prod.ext e (Option.some.inj h2).symm
    refine wpAny_mono (turn i t m₁ nx h₁ tk₁ _ oI hin hJ hoff' F₁ N₂) (fun _ s₂ h₂ => wpAny_mono h₂ (fun f s₃ p => ?_) fun _ _ e => e) fun _ _ e => e
    exact step_on (fun _ _ q => q) (fun p hp m nx _ => ownOf p hp ▸ .head _) p
  · rintro h' tk m' nx F' N' _ hJ
    exact done m' nx h' tk hJ F' N'
theorem iter_Jr {r : Addr} {a₀ b₀ : Int} {t₀ u₀ v₀ : Tok} {n : Nat} {m₀ : Str → Option Value} {news : List (Addr × Obj)} (J : Nat → (Str → Option Value) → List (Addr × Obj) → Prop)
    (hh : A.handled = none) (hr : IsRange s.heap r a₀ b₀ 1 t₀ u₀ v₀) (hsmall : Builtin.Range.small a₀ b₀ 1 = true) (hsz : Builtin.Range.rangeSize a₀ b₀ 1 = (n : Int)) (F : Fr h₀ env.locals s.heap m₀) (N : News h₀ env.locals s.heap news)
    (hj : J 0 m₀ news)
    (turn : ∀ (i : Nat) t m₁ nx h tk I o, i < n → J i m₁ nx → (∀ p ∈ nx, p.1 ≠ I) → Fr h₀ env.locals h m₁ → News h₀ env.locals h ((I, o) :: nx) →
      wpAny (model prog w) A (assign target env (.int (a₀ + (i : Int)) t)) (fun _ s₃ => wpAny (model prog w) A (execs body env) (UnrPostW h₀ env.locals { s with heap := h, toks := tk } [(I, o)] (J (i + 1)) Q) E s₃) E { s with heap := h, toks := tk })
    (done : ∀ m₁ nx h tk, J n m₁ nx → Fr h₀ env.locals h m₁ → News h₀ env.locals h nx → Q .next { s with heap := h, toks := tk }) :
    wpAny (model prog w) A (pyIter (.ref r)) (fun it s₂ => TurnsAt prog w A h₀ env target body Q E it s₂) E s :=
  iter_Js J hh hr hsmall hsz F N hj (fun i t m₁ nx h tk I o hi hJ hI F₁ N₁ => by rw [Int.mul_one]; exact turn i t m₁ nx h tk I o hi hJ hI F₁ N₁) done
end

/-! pairs of ints in the ledger -/
def pd (R : List (Int × Int)) : List Dat := R.map fun p => Dat.tuple [.int p.1, .int p.2]
theorem pd_len (R : List (Int × Int)) : (pd R).length = R.length := by simp [pd]
abbrev tup2 (x : Int) (tx : Tok) (y : Int) (ty : Tok) (k : Nat) : Obj := { cls := .type "tuple", data := .seq (List.toArray [.int x tx, .int y ty]) k }
def InvD (im : List (Addr × Obj)) (v : Value) (d : Dat) : Prop := match d with
  | .int i => ∃ t, v = .int i t
  | .tuple ds => ∃ a vs n, v = .ref a ∧ (a, ({ cls := .type "tuple", data := .seq (List.toArray vs) n } : Obj)) ∈ im ∧ DatAll im vs ds
  | _ => True
theorem inv_in {im : List (Addr × Obj)} {v : Value} {d : Dat} (h : DatIn im v d) : InvD im v d := by
  cases h with
  | int i t => exact ⟨t, rfl⟩
  | tuple hm hr => exact ⟨_, _, _, rfl, hm, hr⟩
  | _ => trivial
def InvL (im : List (Addr × Obj)) (vs : List Value) (ds : List Dat) : Prop := match ds with
  | [] => vs = []
  | d :: ds => ∃ v vs', vs = v :: vs' ∧ InvD im v d ∧ DatAll im vs' ds
theorem inv_all {im : List (Addr × Obj)} {vs : List Value} {ds : List Dat} (h : DatAll im vs ds) : InvL im vs ds := by
  cases h with
  | nil => rfl
  | cons h0 h1 => exact ⟨_, _, rfl, inv_in h0, h1⟩
theorem pl_cons {im : List (Addr × Obj)} {vs : List Value} {x y : Int} {R : List (Int × Int)} (h : DatAll im vs (pd ((x, y) :: R))) :
    ∃ (t : Addr) (k : Nat) (tx ty : Tok) (vs' : List Value), vs = .ref t :: vs' ∧ (t, tup2 x tx y ty k) ∈ im ∧ DatAll im vs' (pd R) ∧ vs'.length = R.length := by
  refine byGoal fun P d => ?_
  obtain ⟨_, vs', rfl, ⟨a, _, n, rfl, hm, ha⟩, hr⟩ := inv_all h
  obtain ⟨_, _, rfl, ⟨tx, rfl⟩, hb⟩ := inv_all ha
  obtain ⟨_, _, rfl, ⟨ty, rfl⟩, hc⟩ := inv_all hb
  obtain rfl := inv_all hc
  exact d ⟨a, n, tx, ty, vs', rfl, hm, hr, hr.length.trans (pd_len R)⟩
theorem pl_get {im : List (Addr × Obj)} : ∀ {vs : List Value} {R : List (Int × Int)} {i : Nat} {v : Value}, DatAll im vs (pd R) → vs[i]? = some v →
    ∃ (t : Addr) (k : Nat) (tx ty : Tok) (x y : Int), v = .ref t ∧ (t, tup2 x tx y ty k) ∈ im ∧ R[i]? = some (x, y)
  | _, [], _, _, h, e => by cases h; simp at e
  | _, (x, y) :: R, i, v, h, e => by
    obtain ⟨t, k, tx, ty, vs', rfl, hm, hD, _⟩ := pl_cons h
    cases i with
    | zero => simp at e; exact ⟨t, k, tx, ty, x, y, e.symm, hm, rfl⟩
    | succ i => simp at e; simpa using pl_get hD e
theorem pl_snoc {im : List (Addr × Obj)} {vs : List Value} {R : List (Int × Int)} {t : Addr} {k : Nat} {tx ty : Tok} {x y : Int} (h : DatAll im vs (pd R))
    (hm : (t, tup2 x tx y ty k) ∈ im) : DatAll im (vs ++ [.ref t]) (pd (R ++ [(x, y)])) := by
  rw [pd, List.map_append]
  exact DatAll.append h (.one (.tuple hm (.cons (.int _ _) (.cons (.int _ _) .nil))))
theorem pl_len {im : List (Addr × Obj)} {vs : List Value} {R : List (Int × Int)} (h : DatAll im vs (pd R)) : vs.length = R.length := by rw [h.length, pd_len]
theorem take_snoc {α : Type} {R : List α} {i : Nat} {x : α} (h : R[i]? = some x) : R.take (i + 1) = R.take i ++ [x] := by
  rw [List.take_add_one, h]; rfl

def GrowJ (f : Addr) (cn : List (Addr × Obj)) (G : Nat → List (Int × Int)) (Φ : Nat → (Str → Option Value) → Prop) (i : Nat) (m : Str → Option Value) (nx : List (Addr × Obj)) : Prop :=
  ∃ k fvs tl, nx = (f, listOf (List.toArray fvs) k) :: (tl ++ cn) ∧ DatAll tl fvs (pd (G i)) ∧ (∀ q ∈ tl ++ cn, q.1 ≠ f) ∧ Φ i m

theorem grow_end {h₀ : Heap} {L I f T : Addr} {s₁ : Shared} {o : Obj} {cn tl : List (Addr × Obj)} {G : Nat → List (Int × Int)} {Φ : Nat → (Str → Option Value) → Prop} {i : Nat} {fvs : List Value} {z1 z2 : Int} {u1 u2 : Tok} {kt k' : Nat} {h' : Heap} {tk : Nat} {m' : Str → Option Value} {of : Obj}
    (F : Fr h₀ L h' m') (N : News h₀ L h' ((T, tup2 z1 u1 z2 u2 kt) :: (I, o) :: (f, listOf ((List.toArray fvs).push (.ref T)) k') :: (tl ++ cn)))
    (lI : @Ne Nat T I) (lf : @Ne Nat T f) (hI : ∀ p ∈ (f, of) :: (tl ++ cn), p.1 ≠ I) (hoff : ∀ q ∈ tl ++ cn, q.1 ≠ f) (hfv : DatAll tl fvs (pd (G i))) (hG : G (i + 1) = G i ++ [(z1, z2)]) (hΦ : Φ (i + 1) m') :
    UnrEndW h₀ L s₁ [(I, o)] (GrowJ f cn G Φ (i + 1)) { s₁ with heap := h', toks := tk } := by
  simp only [List.push_toArray] at N
  refine ⟨h', tk, m', (f, listOf (List.toArray (fvs ++ [.ref T])) k') :: (((T, tup2 z1 u1 z2 u2 kt) :: tl) ++ cn), rfl, F, fun p hp => ?_, fun p hp q hq => ?_, k', fvs ++ [.ref T], (T, tup2 z1 u1 z2 u2 kt) :: tl, rfl, ?_, ?_, hΦ⟩
  · refine N p ?_
    simp only [List.mem_append, List.mem_cons, List.mem_singleton, List.cons_append, List.nil_append, List.not_mem_nil, or_false] at hp ⊢
    rcases hp with h | h | h | h | h <;> simp [h]
  · rw [List.mem_singleton.mp hq]
    simp only [List.mem_append, List.mem_cons, List.cons_append] at hp
    rcases hp with h | h | h | h
    · rw [h]; exact hI (f, of) List.mem_cons_self
    · rw [h]; exact lI
    · exact hI p (.tail _ (List.mem_append.mpr (.inl h)))
    · exact hI p (.tail _ (List.mem_append.mpr (.inr h)))
  · rw [hG]
    exact pl_snoc (hfv.mono fun p hp => .tail _ hp) List.mem_cons_self
  · intro q hq
    rcases List.mem_cons.mp hq with rfl | h
    · exact lf
    · exact hoff q h
end Mine

/-! part C1 -/
set_option maxHeartbeats 8000000
namespace Mine

def vs (n : Int) : Int := if n < 64 then 1 else if n < 16384 then 2 else if n < 1073741824 then 4 else 8

theorem vs_never {n : Int} (h1 : n < 4611686018427387904) (h : ¬ n < 1 * 2 ^ (8 * 8 - 2 : Int).toNat) : False := by simp at h; omega
theorem off1 {news : List (Addr × Obj)} {I : Addr} {o : Obj} (h : ∀ p ∈ news, p.1 < I) : ∀ p ∈ news, ∀ q ∈ [(I, o)], p.1 ≠ q.1 := by
  intro p hp q hq
  rw [List.mem_singleton.mp hq]
  exact Nat.ne_of_lt (h p hp)

section
variable {w : World} {p : Program} {loose : List Str} {mean : ExcName → Option Value} {mg mb : Str → Option Value}
 {dp un : Nat} {gd : Option (List Code)} {cn : Str} {cs : Scope} {a : Addr} {ccd : Value} {cl : List (Str × Addr)} {outer : List Env} {A₀ : Around} {base h₀ : Heap} {L : Addr} {m : Str → Option Value} {news : List (Addr × Obj)} {s : Shared}
 {Q E : Value → Shared → Prop}

local macro_rules | `(tactic| walk_at "exec For Name Name") => `(tactic| (k_here; (rename Fr _ _ _ _ => lF'); (with_unfolding_all refine' For_turnsG lF' (by exact rfl) ?_; k_whole)))
local macro_rules | `(tactic| walk_at "exec Raise some none") => `(tactic| (exact (vs_never (by assumption) (by assumption)).elim))
theorem vsize_spec {n : Int} {t : Tok} (B : Below A₀ base outer h₀) (F : Fr h₀ L s.heap m) (X : (Mine.hd.heap_39 w.params).In h₀) (N : News h₀ L s.heap news) (T : Top p loose mean mg mb h₀) (hk : cs.kind = .function) (hd : dp + 1 < recursionLimit) (hu : un + 8 < cLine)
  (h0 : 0 ≤ n) (h1 : n < 4611686018427387904)
  (ret : ∀ t h' tk', Fr h₀ L h' m → News h₀ L h' news → Q (.int (vs n) t) { s with heap := h', toks := tk' }) :
  wpAny (model (PySem.Challenge.rw_no0056_01.row.prog) w) (ktrTop dp un gd cn cs L a ccd cl outer) (call (.ref 49) [.int n t]) Q E s := by
  refine wpAny_call ?_
  revert X
  w_top off
  k_fill
  intro X
  k_dflt ktr_enter
  k_steps
  repeat' (first | ((refine' unr_end (by assumption) (by assumption) (by assumption) ⟨trivial, ?_⟩); (try k_steps)))
  trace "AFTER"
  all_goals (refine cb_retI ret ?_ (by assumption) (by first | assumption | exact News.tail' (by assumption)); simp at *; unfold vs; (repeat' split) <;> omega)
end
end Mine

/-! part R1 -/
set_option maxHeartbeats 8000000
namespace Mine
section
variable {α β : Type} {prog : Program} {w : World} {M : Model} {A : Around} {E : Value → Shared → Prop} {s : Shared}
theorem wpR_ite_false {c : Prop} [Decidable c] {a b : Sem α} {Q : α → Shared → Prop} (hc : ¬ c) (h : wpR M A b Q E s) : wpR M A (if c then a else b) Q E s := by rw [if_neg hc]; exact h
theorem wpR_ite_true {c : Prop} [Decidable c] {a b : Sem α} {Q : α → Shared → Prop} (hc : c) (h : wpR M A a Q E s) : wpR M A (if c then a else b) Q E s := by rw [if_pos hc]; exact h
theorem wpR_of_eq {a : α} {t : Sem α} {Q : α → Shared → Prop} (ht : t = pure a) (h : Q a s) : wpR M A t Q E s := by rw [ht]; exact wpR_pure h
theorem codeR_builtin {id : String} {args : Args} {b : Builtin} {R : Result → Shared → Prop} (hd : Builtin.Bytes.decodersThatHold.contains id = false) (hb : entryFor table id = some b)
    (h : wpR (model prog w) (A.under (.builtin id args)) (b args) (fun fin s' => match fin with | .done f => R (.ok f) s' | .again c' => c'.quiet = true ∧ codeR (model prog w) A c' R s') (fun e s' => R (.error e) s') s) :
    codeR (model prog w) A (.builtin id args) R s := by
  refine codeR_of_tree hd ?_
  have hden : (model prog w).den (.builtin id args) = b args := by
    show (match entryFor table id with | some b => b args | none => unsupported ((withoutEnding? id "#data").getD id)) = _
    rw [hb]
  rw [hden]; exact h

theorem callTypeR {T newId initId : String} {Bi : Builtin} {args : List Value} {Q Q₁ : Value → Shared → Prop} (ft : TypeCalled T newId initId)
    (hct : checkTypeCall T ⟨args, []⟩ = pure ()) (entryI : entryFor table initId = some Bi) (hdi : Builtin.Bytes.decodersThatHold.contains initId = false)
    (hnew : codeAny (model prog w) A.in1 (.call (.builtin newId) ⟨.type T :: args, []⟩) (wants Q₁ E) s)
    (hnext : ∀ obj s₁, Q₁ obj s₁ → s₁.TypeIs obj T ∧ argsOk initId ⟨obj :: args, []⟩ ∧
      wpR (model prog w) A.in1.in1 (Bi ⟨obj :: args, []⟩)
        (fun fin s' => match fin with | .done f => wants (fun r s₂ => r = .none ∧ Q obj s₂) E (.ok f) s' | .again c' => c'.quiet = true ∧ codeR (model prog w) A.in1 c' (wants (fun r s₂ => r = .none ∧ Q obj s₂) E) s')
        (fun e s' => wants (fun r s₂ => r = .none ∧ Q obj s₂) E (.error e) s') s₁) :
    wpR (model prog w) A (call (.type T) args) Q E s := by
  obtain ⟨c, tl, hmro⟩ := ft.mro
  have hmade := ft.made
  have hsub := ft.sub
  refine wpR_call (codeR_of_tree rfl ?_)
  show wpR _ _ (callAny (.type T) _) _ _ _
  refine wpR_pure ⟨Code.quiet_builtin _ (by decide +kernel), codeR_builtin (by decide +kernel) F.entry_type_call ?_⟩
  rw [Around.under_plain (weight_type_call_type T args []) rfl]
  have h1 := ft.notType
  have h2 := ft.canCreate
  unfold Builtin.«type.__call__»
  dsimp only
  refine wpR_ite_false (by rw [h1]; decide) ?_
  refine wpR_ite_false (by rw [h2]; decide) ?_
  refine wpR_bind (wpR_of_eq hct ?_)
  refine wpR_bind (wpR_of_eq hmro ?_)
  refine wpR_ite_false (by intro h; cases h) ?_
  refine wpR_bind (wpR_of_eq hmade ?_)
  refine wpR_bind (wpR_pure ?_)
  refine wpR_bindA (wpAny_holding (wpAny_call (codeAny_mono hnew fun r s₁ hr => ?_)))
  cases r with
  | error e => exact hr
  | ok fl =>
    cases fl with
    | ret obj =>
      obtain ⟨hT, hok, hsi⟩ := hnext _ _ hr
      refine wpR_bindA (wpAny_isInstance hT hsub ?_)
      refine wpR_ite_false (by decide) ?_
      refine wpR_bind (wpR_holding ?_)
      unfold callSpecial?
      refine wpR_bindA (wpAny_specialOf hT ft.init.lookup ?_)
      dsimp only
      refine wpR_holding ?_
      refine wpR_bind (wpR_of_eq (ft.init.bind obj) ?_)
      dsimp only
      refine wpR_bind (wpR_call ?_)
      refine codeR_mono (R := wants (fun r s₂ => r = .none ∧ Q obj s₂) E) ?_ fun r s' hr2 => ?_
      · refine codeR_of_tree rfl ?_
        rw [show A.in1.under (.call (.builtin initId) ⟨[obj] ++ args, []⟩) = A.in1.in1 from rfl]
        show wpR _ _ (do checkBuiltinCall initId ⟨obj :: args, []⟩; again (.builtin initId ⟨obj :: args, []⟩)) _ _ _
        refine wpR_bindA (ft.init.check _ _ _ _ _ _ _ _ hT hok ?_)
        refine wpR_pure ⟨plainId_quiet ft.init.plain _, codeR_builtin hdi entryI ?_⟩
        rw [Around.under_plainId ft.init.plain _]
        exact hsi
      · cases r with
        | error e => exact hr2
        | ok fl =>
          cases fl with
          | ret v =>
            obtain ⟨rfl, hq⟩ := hr2
            refine wpR_pure ?_
            dsimp only
            exact wpR_ite_false (by decide) (wpR_pure hq)
          | _ => exact hr2.elim
    | _ => exact hr.elim

/-! bytearray -/
theorem ba_mro : mroOf (.type "bytearray") = pure [.type "bytearray", .type "object"] := by rw [mroOf_type]; kernel_rfl
theorem ba_lookup_new : typeLookup (.type "bytearray") "__new__" = pure (some (.builtin "bytearray.__new__")) := by rw [typeLookup_type, builtinLookup_eq_fast]; kernel_rfl
theorem ba_slot_init : Slot "bytearray" "__init__" "bytearray.__init__" :=
  .of (owner := "bytearray") (n := "__init__") (by rw [typeLookup_type, builtinLookup_eq_fast]; kernel_rfl) (by decide +kernel) (by decide +kernel) (by decide +kernel)
    (by first | exact .inl (by decide +kernel) | exact .inr (by decide +kernel)) (by rw [isSubtype_type]; kernel_rfl)
theorem ba_called : TypeCalled "bytearray" "bytearray.__new__" "bytearray.__init__" :=
  ⟨by decide +kernel, by decide +kernel, ⟨_, _, ba_mro⟩, madeBy_type ba_mro ba_lookup_new (by decide +kernel), by decide +kernel, by rw [isSubtype_type]; kernel_rfl, ba_slot_init⟩
theorem ba_typeCall (a : Value) : checkTypeCall "bytearray" ⟨[a], []⟩ = pure () := by kernel_rfl
theorem ba_newCall (a : Value) : checkBuiltinCall "bytearray.__new__" ⟨[.type "bytearray", a], []⟩ = pure () := by kernel_rfl
theorem ba_entry_new : entryFor table "bytearray.__new__" = some Builtin.«list.__new__» := entryFor_alias (id' := "list.__new__") (by rw [fastTable_eq_tree]; kernel_rfl) (by decide +kernel) (by decide +kernel) (by rw [fastTable_eq_tree]; kernel_rfl)
theorem ba_entry_init : entryFor table "bytearray.__init__" = some Builtin.«bytearray.__init__» := entryFor_of_tree (by kernel_rfl)
theorem ba_plain_new : plainId "bytearray.__new__" = true := by decide +kernel
set_option maxRecDepth 1000000 in
theorem ba_owner : ("bytearray.__new__".splitOn ".__new__").headD "" = "bytearray" := by simp +decide [String.splitOn, String.splitOnAux]
theorem ba_new (a : Value) {Q₁ : Value → Shared → Prop}
    (h : Q₁ (.ref s.heap.objs.size) { s with heap := s.heap.push { cls := .type "bytearray", data := .bytearray #[] } }) :
    codeAny (model prog w) A (.call (.builtin "bytearray.__new__") ⟨[.type "bytearray", a], []⟩) (wants Q₁ E) s := by
  refine codeAny_of_tree ?_
  show wpAny _ A.in1 (do checkBuiltinCall "bytearray.__new__" ⟨[.type "bytearray", a], []⟩; again (.builtin "bytearray.__new__" ⟨[.type "bytearray", a], []⟩)) _ _ s
  refine wpAny_bind (wpAny_of_eq (ba_newCall a) (wpAny_pure ⟨plainId_quiet ba_plain_new _, codeAny_builtin_stack ba_entry_new rfl fun p st => ?_⟩))
  rw [Around.under_plainId ba_plain_new _]
  have hsub := PySem.F.sub_bytearray_bytearray
  have hown := ba_owner
  obtain ⟨hp, g, d, tk, os⟩ := s
  simp only [hown]
  wp_walk
  exact h
end
end Mine

/-! part R2 -/
open PySem PySem.W PyProof.Rows PySem.Builtin
set_option maxHeartbeats 8000000
namespace Mine
section
variable {α β : Type} {prog : Program} {w : World} {M : Model} {A : Around} {E : Value → Shared → Prop} {s : Shared}
theorem itA_false {c : Prop} [Decidable c] {a b : Sem α} {Q : α → Shared → Prop} (hc : ¬ c) (h : wpAny M A b Q E s) : wpAny M A (if c then a else b) Q E s := by rw [if_neg hc]; exact h
theorem itA_true {c : Prop} [Decidable c] {a b : Sem α} {Q : α → Shared → Prop} (hc : c) (h : wpAny M A a Q E s) : wpAny M A (if c then a else b) Q E s := by rw [if_pos hc]; exact h
abbrev baObj (b : Array UInt8) : Obj := { cls := .type "bytearray", data := .bytearray b }
theorem ba_release : typeLookup (.type "bytearray") "__release_buffer__" = pure (some (.builtin "bytearray.__release_buffer__")) := by rw [typeLookup_type, builtinLookup_eq_fast]; kernel_rfl
theorem ba_ownRelease {S : Addr} {Q : Bool → Shared → Prop} (hT : s.TypeIs (.ref S) "bytearray") (h : Q false s) : wpAny (model prog w) A (Bytes.ownRelease (.ref S)) Q E s := by
  unfold Bytes.ownRelease Bytes.slotIsOwn
  refine wpAny_bind (wpAny_bind (wpAny_specialOf hT ba_release ?_))
  dsimp only
  have key : ∀ x : String, x = "bytearray" → wpAny (model prog w) A (isInstance (.ref S) (.type x)) (fun a s' => wpAny (model prog w) A (pure !a) Q E s') E s := fun x hx => by
    rw [hx]; exact wpAny_isInstance hT PySem.F.sub_bytearray_bytearray (wpAny_pure h)
  split
  · rename_i hx
    exact absurd hx (by decide +kernel)
  · exact key _ (by decide +kernel)
theorem ba_bind (v : Value) : Bytes.bindOptional "bytearray.__init__" "bytearray" ["source", "encoding", "errors"] [v] [] = pure [some v, none, none] := by kernel_rfl
theorem ba_write {S : Addr} {f : Array UInt8 → Array UInt8} {b : Array UInt8} {Q : Unit → Shared → Prop} (hS : s.heap.get? S = some (baObj b)) (hz : (f b).size ≤ sizeLine)
    (h : ∀ h', h'.get? S = some (baObj (f b)) → Heap.SameBut S s.heap h' → Q () { s with heap := h' }) : wpAny M A (Bytes.write (.ref S) f) Q E s := by
  show wpAny M A (updateBytearray S f) Q E s
  unfold updateBytearray
  refine wpAny_bind (wpAny_load hS ?_)
  show wpAny M A (update S (Obj.mapBytearray f) >>= fun _ => lookBehind S) _ _ _
  refine wpAny_bind (wpAny_update hS ?_)
  have hS₂ : (s.heap.update S (Obj.mapBytearray f)).get? S = some (baObj (f b)) := Heap.get?_update_self (Obj.mapBytearray f) hS rfl
  refine wpAny_lookBehind hS₂ ?_ ?_
  · show (if (f b).size > sizeLine then some "bytearray:memory" else none) = none
    rw [if_neg (Nat.not_lt.mpr hz)]
  · exact h _ hS₂ (Heap.SameBut.update ..)

theorem ba_init {S : Addr} {n : Int} {t : Tok} {R : Shared → Prop} (hg : A.guards = some []) (hS : s.heap.get? S = some (baObj #[])) (h0 : 0 < n) (h1 : n ≤ 1000)
    (h : ∀ h', h'.get? S = some (baObj (Array.replicate n.toNat 0)) → Heap.SameBut S s.heap h' → R { s with heap := h' }) :
    wpR (model prog w) A (Builtin.«bytearray.__init__» ⟨[.ref S, .int n t], []⟩)
      (fun fin s' => fin = .done (.ret .none) ∧ R s') E s := by
  have hT : s.TypeIs (.ref S) "bytearray" := ⟨_, hS, rfl⟩
  unfold Builtin.«bytearray.__init__»
  dsimp only
  refine wpR_bindA (ba_ownRelease hT ?_)
  refine wpR_ite_false (by decide) ?_
  refine wpR_bind (wpR_of_eq (ba_bind _) ?_)
  dsimp only
  refine wpR_bind (wpR_of_eq (a := ()) rfl ?_)
  refine wpR_bind (wpR_of_eq (a := ()) rfl ?_)
  refine wpR_bind ?_
  unfold orM
  refine wpR_bind (wpR_exported hg (wpR_of ?_))
  show wpAny _ _ (Bytes.exportsOf (.ref S) >>= fun k => pure (decide (k > 0))) _ _ _
  refine wpAny_bind ?_
  show wpAny _ _ (load S >>= fun o => match o.data with | .bytearray _ n => pure n | _ => pure 0) _ _ _
  refine wpAny_bind (wpAny_load hS (wpAny_pure (wpAny_pure (wpR_of ?_))))
  refine itA_false (by decide) ?_
  refine wpAny_bind (ba_write hS (Nat.zero_le _) fun h₁ hS₁ hs₁ => ?_)
  refine wpAny_bind (wpAny_of_eq (a := none) rfl ?_)
  refine itA_false (by decide) ?_
  refine itA_false (by simp only [Bytes.fitsIndex, Bool.not_eq_true', Bool.not_eq_false, Bool.and_eq_true, decide_eq_true_eq]; omega) ?_
  refine itA_false (by omega) ?_
  refine itA_false (by simp only [beq_iff_eq]; omega) ?_
  refine itA_false (by rw [Bytes.tooLong, sizeLine_eq]; simp only [decide_eq_true_eq]; omega) ?_
  refine wpAny_bind (wpAny_rule ?_)
  refine itA_true h0 ?_
  refine wpAny_bind (ba_write hS₁ (by rw [Array.size_replicate, sizeLine_eq]; omega) fun h₂ hS₂ hs₂ => ?_)
  exact wpAny_pure ⟨rfl, h _ hS₂ (hs₁.trans hs₂)⟩
end
end Mine

/-! part R3 -/
open PySem PySem.W PyProof.Rows PySem.Builtin
set_option maxHeartbeats 8000000
namespace Mine
theorem ba_args_init (a b : Value) : argsOk "bytearray.__init__" ⟨[a, b], []⟩ := by unfold argsOk; kernel_rfl
theorem ba_slot_set : Slot "bytearray" "__setitem__" "bytearray.__setitem__" :=
  .of (owner := "bytearray") (n := "__setitem__") (by rw [typeLookup_type, builtinLookup_eq_fast]; kernel_rfl) (by decide +kernel) (by decide +kernel) (by decide +kernel)
    (by first | exact .inl (by decide +kernel) | exact .inr (by decide +kernel)) (by rw [isSubtype_type]; kernel_rfl)
theorem ba_entry_set : entryFor table "bytearray.__setitem__" = some Builtin.«bytearray.__setitem__» := entryFor_of_tree (by kernel_rfl)
theorem ba_args_set (a b c : Value) : argsOk "bytearray.__setitem__" ⟨[a, b, c], []⟩ := by unfold argsOk; kernel_rfl
theorem ba_no_bytes : typeLookup (.type "bytearray") "__bytes__" = pure none := by rw [typeLookup_type, builtinLookup_eq_fast]; kernel_rfl
theorem ba_no_index : typeLookup (.type "bytearray") "__index__" = pure none := by rw [typeLookup_type, builtinLookup_eq_fast]; kernel_rfl
theorem ba_buffer : typeLookup (.type "bytearray") "__buffer__" = pure (some (.builtin "bytearray.__buffer__")) := by rw [typeLookup_type, builtinLookup_eq_fast]; kernel_rfl
section
variable {α β : Type} {prog : Program} {w : World} {M : Model} {A : Around} {E : Value → Shared → Prop} {s : Shared} {h₀ : Heap} {L : Addr} {m : Str → Option Value} {news : List (Addr × Obj)}

theorem call_bytearrayR {n : Int} {t : Tok} {Q : Value → Shared → Prop} (hg : A.guards = some []) (F : Fr h₀ L s.heap m) (N : News h₀ L s.heap news) (h0 : 0 < n) (h1 : n ≤ 1000)
    (h : ∀ S h', Fr h₀ L h' m → News h₀ L h' ((S, baObj (Array.replicate n.toNat 0)) :: news) → (∀ p ∈ news, p.1 < S) → Q (.ref S) { s with heap := h' }) :
    wpR (model prog w) A (call (.type "bytearray") [.int n t]) Q E s := by
  refine callTypeR (Q₁ := fun obj s₁ => obj = .ref s.heap.objs.size ∧ s₁ = { s with heap := s.heap.push (baObj #[]) }) ba_called (ba_typeCall _) ba_entry_init (by decide +kernel) (ba_new _ ⟨rfl, rfl⟩) ?_
  rintro obj s₁ ⟨rfl, rfl⟩
  have hS : (s.heap.push (baObj #[])).get? s.heap.objs.size = some (baObj #[]) := Heap.get?_push_size _ rfl
  have N₁ := N.push F (baObj #[]) rfl
  refine ⟨⟨_, hS, rfl⟩, ba_args_init _ _, wpR_mono (ba_init (R := Q (.ref s.heap.objs.size)) (E := fun _ _ => False) hg hS h0 h1 fun h' hS' hs => h _ h' ((F.push _).change hs (N₁ _ (.head _)).2.1 (N₁ _ (.head _)).2.2) (fun p hp => ?_) fun p hp => Heap.lt_size (N p hp).1) (fun fin s' ⟨e, q⟩ => by subst e; exact ⟨rfl, q⟩) fun _ _ x => x.elim⟩
  rcases List.mem_cons.mp hp with rfl | hp
  · exact ⟨hS', (N₁ _ (.head _)).2⟩
  · have z := N₁ p (.tail _ hp)
    exact ⟨(hs.2 _ (Nat.ne_of_lt (Heap.lt_size (N p hp).1))).trans z.1, z.2⟩

theorem ba_setItem {S : Addr} {b : Array UInt8} {k v : Int} {t u : Tok} {Q : Unit → Shared → Prop} (hS : s.heap.get? S = some (baObj b)) (k0 : 0 ≤ k) (k1 : k < b.size) (hb : b.size ≤ 1000) (v0 : 0 ≤ v) (v1 : v < 256)
    (h : ∀ h', h'.get? S = some (baObj (b.setIfInBounds k.toNat v.toNat.toUInt8)) → Heap.SameBut S s.heap h' → Q () { s with heap := h' }) :
    wpAny (model prog w) A (setItem (.ref S) (.int k t) (.int v u)) Q E s := by
  have hT : s.TypeIs (.ref S) "bytearray" := ⟨_, hS, rfl⟩
  unfold setItem
  refine wpAny_holding ?_
  refine wpAny_bind (wpAny_sequenceKey hT (by decide) ?_)
  refine wpAny_bind (wpAny_callSpecial?_slot (name := Str.ofString "__setitem__") hT ba_slot_set
    (wpAny_call_entry ba_slot_set hT ba_entry_set ?_ (ba_args_set _ _ _)))
  unfold Builtin.«bytearray.__setitem__»
  dsimp only
  refine itA_false (by decide) ?_
  have hsub : Bytes.subscript? (.int k t) = pure (some k) := by
    unfold Bytes.subscript?
    rw [show specialOf (.int k t) "__index__" = typeLookup (.type "int") "__index__" from rfl, typeLookup_type, builtinLookup_eq_fast]
    have e : Bytes.fitsIndex k = true := by simp only [Bytes.fitsIndex, Bool.and_eq_true, decide_eq_true_eq]; omega
    show (if (!Bytes.fitsIndex k) = true then _ else _) = _
    rw [e]; rfl
  refine wpAny_bind (wpAny_of_eq hsub ?_)
  dsimp only
  have hbv : Bytes.byteValue (.int v u) = pure v.toNat.toUInt8 := by
    unfold Bytes.byteValue
    show (if (decide (v < 0) || decide (v ≥ 256)) = true then _ else _) = _
    rw [if_neg (by simp only [Bool.or_eq_true, decide_eq_true_eq]; omega)]
  refine wpAny_bind (wpAny_of_eq hbv ?_)
  refine wpAny_bind ?_
  unfold Bytes.payload Bytes.payload?
  refine wpAny_bind (wpAny_bind (wpAny_load hS ?_))
  refine wpAny_pure (wpAny_pure ?_)
  have hsi : seqIndex? k b.size = some k.toNat := by
    unfold seqIndex?
    simp only [if_neg (show ¬ k < 0 by omega)]
    first
      | (rw [if_pos (by omega)]; done)
      | (split <;> simp_all <;> omega)
  rw [hsi]
  dsimp only
  refine wpAny_bind (ba_write hS (by rw [Array.size_setIfInBounds, sizeLine_eq]; omega) fun h₁ hS₁ hs₁ => ?_)
  exact wpAny_pure ⟨_, rfl, wpAny_pure (h _ hS₁ hs₁)⟩

theorem ba_ownBuffer {S : Addr} {Q : Bool → Shared → Prop} (hT : s.TypeIs (.ref S) "bytearray") (h : Q true s) : wpAny (model prog w) A (Bytes.slotIsOwn (.ref S) "__buffer__") Q E s := by
  unfold Bytes.slotIsOwn
  refine wpAny_bind (wpAny_specialOf hT ba_buffer ?_)
  dsimp only
  have key : ∀ x : String, x = "bytearray" → wpAny (model prog w) A (isInstance (.ref S) (.type x)) Q E s := fun x hx => by
    rw [hx]; exact wpAny_isInstance hT PySem.F.sub_bytearray_bytearray h
  split
  · rename_i hx
    exact absurd hx (by decide +kernel)
  · exact key _ (by decide +kernel)
theorem ba_payload {S : Addr} {b : Array UInt8} {Q : Array UInt8 → Shared → Prop} (hS : s.heap.get? S = some (baObj b)) (h : Q b s) : wpAny (model prog w) A (Bytes.payload (.ref S)) Q E s := by
  unfold Bytes.payload Bytes.payload?
  refine wpAny_bind (wpAny_bind (wpAny_load hS ?_))
  exact wpAny_pure (wpAny_pure h)
theorem bytes_ba_new {S : Addr} {b : Array UInt8} {Q : Value → Shared → Prop} (hS : s.heap.get? S = some (baObj b)) (hz : b.size ≤ sizeLine)
    (hQ : ∀ t, Q (.bytes b t) { s with toks := s.toks + 1 }) :
    codeAny (model prog w) A (.call (.builtin "bytes.__new__") ⟨[.type "bytes", .ref S], []⟩) (wants Q E) s := by
  refine codeAny_of_tree ?_
  show wpAny _ A.in1 (do checkBuiltinCall "bytes.__new__" ⟨[.type "bytes", .ref S], []⟩; again (.builtin "bytes.__new__" ⟨[.type "bytes", .ref S], []⟩)) _ _ s
  refine wpAny_bind (wpAny_of_eq (F.bm_newCall _) (wpAny_pure ⟨plainId_quiet F.bm_plain _, codeAny_builtin F.bm_entry ?_⟩))
  rw [Around.under_plainId F.bm_plain _]
  have hT : s.TypeIs (.ref S) "bytearray" := ⟨_, hS, rfl⟩
  unfold Builtin.«bytes.__new__»
  refine wpAny_bind (wpAny_of_eq (a := true) rfl ?_)
  refine itA_false (by decide) ?_
  refine wpAny_bind (wpAny_of_eq F.bm_sub ?_)
  refine itA_false (by decide) ?_
  refine wpAny_bind (wpAny_of_eq (F.bm_bind _) ?_)
  refine wpAny_bind (wpAny_of_eq (a := ()) rfl ?_)
  refine wpAny_bind (wpAny_of_eq (a := ()) rfl ?_)
  refine itA_false (by decide) ?_
  refine wpAny_bind (wpAny_specialOf hT ba_no_bytes ?_)
  refine wpAny_bind (wpAny_bind ?_)
  show wpAny _ _ (load S >>= _) _ _ _
  refine wpAny_bind (wpAny_load hS ?_)
  refine wpAny_pure (wpAny_pure ?_)
  refine itA_false (by decide) ?_
  refine wpAny_bind (wpAny_specialOf hT ba_no_index ?_)
  refine itA_true (by decide) ?_
  first
    | show wpAny _ _ (Bytes.buffer? "bytes.__new__" (.ref S) true >>= _) _ _ _
    | (refine wpAny_bind ?_; show wpAny _ _ (Bytes.buffer? "bytes.__new__" (.ref S) true >>= _) _ _ _)
  refine wpAny_bind ?_
  unfold Bytes.buffer?
  refine wpAny_bind (wpAny_specialOf hT ba_buffer ?_)
  dsimp only
  refine wpAny_bind (ba_ownBuffer hT ?_)
  refine itA_false (by decide) ?_
  refine wpAny_bind (wpAny_specialOf hT ba_buffer ?_)
  refine wpAny_bind (ba_ownRelease hT ?_)
  refine itA_false (by decide) ?_
  refine wpAny_bind (ba_payload hS ?_)
  refine wpAny_pure ?_
  dsimp only
  refine wpAny_bind (wpAny_rule ?_)
  refine wpAny_bind (wpAny_mkBytes ?_ hz)
  show wpAny _ _ (if (Value.type "bytes" == Value.type "bytes") = true then _ else _) _ _ _
  refine itA_true (by decide) ?_
  first
    | exact wpAny_pure (hQ _)
    | exact wpAny_bind (wpAny_pure (wpAny_pure (hQ _)))

theorem call_bytes_ba {S : Addr} {b : Array UInt8} {Q : Value → Shared → Prop} (hS : s.heap.get? S = some (baObj b)) (hz : b.size ≤ sizeLine)
    (hQ : ∀ t, Q (.bytes b t) { s with toks := s.toks + 1 }) : wpAny (model prog w) A (call (.type "bytes") [.ref S]) Q E s := by
  refine callType_codes (Q₁ := fun obj s₁ => s₁.TypeIs obj "bytes" ∧ Q obj s₁) F.bm_called (F.bm_typeCall _) F.entry_object_init
    (bytes_ba_new hS hz fun t => ⟨PySem.W.typeIs_bytes _ _ _, hQ t⟩) fun obj s₁ h₁ => ?_
  exact ⟨h₁.1, F.args_object_init_2 obj _, object_init_meets F.bm_called.init.lookup F.bm_called.made (by decide) prog w A.in1 _ s₁ ⟨h₁.1, rfl, h₁.2⟩⟩
end
end Mine

/-! part R4 -/
set_option maxHeartbeats 8000000
namespace Mine
section
variable {prog : Program} {w : World} {M : Model} {A A₀ : Around} {E : Value → Shared → Prop} {s : Shared} {env : Env}

theorem codeR_func {body : List Stmt} {env : Env} {R : Result → Shared → Prop}
    (h : wpR (model prog w) (A.deeper env) (execs body env) (fun f s' => R (.ok (.ret (match f with | .ret v => v | _ => .none))) s')
      (fun e s' => wpAny (model prog w) (A.deeper env) (leaving env e) (fun _ s'' => R (.error e) s'') (fun e' s'' => R (.error e') s'') s') s) : codeR (model prog w) A (.func body env) R s := by
  refine codeR_of_tree rfl ?_
  show wpR _ (A.deeper env) (do point; match ← (execs body env).onRaise (leaving env) with | .ret v => ret v | _ => ret .none) _ _ s
  refine wpR_bindA (wpAny_point (wpR_bind (wpR_onRaise (wpR_mono h (fun f s' q => ?_) fun _ _ q => q))))
  cases f <;> exact wpR_pure q

theorem codeR_enter {a : Addr} {args : Args} {o : Obj} {fd : FuncData} {body : List Stmt} {R : Result → Shared → Prop} (hroom : A.depth < recursionLimit) (ho : s.heap.get? a = some o) (hd : o.data = .func fd)
    (hco : fd.scope.isCoroutine = false) (hgen : fd.scope.isGenerator = false) (hbody : fd.body = .stmts body) (hcd : s.heap.CodeRec fd.code fd.qualname)
    (h : wpAny (model prog w) A.in1 (bindArgs fd args) (fun binds s₁ => wpAny (model prog w) A.in1 (newFunctionEnv fd.scope fd.globals fd.closure binds (fd.qualname ++ ".<locals>.") (some a) fd.code none fd.builtins)
        (fun env s₂ => s₂.heap.NoLimit ∧ codeR (model prog w) A (.func body env) R s₂) (fun e s' => R (.error e) s') s₁) (fun e s' => R (.error e) s') s) :
    codeR (model prog w) A (.call (.ref a) args) R s := by
  refine codeR_of_tree rfl (wpR_of ?_)
  show wpAny _ A.in1 (callAny (.ref a) args) _ _ s
  obtain ⟨c, oc, vs, tq, hc, hoc, hdc, hq⟩ := hcd
  rw [hc] at h
  simp only [callAny]
  refine wpAny_bind (wpAny_load ho ?_)
  simp only [hd, callFunction, hco, hgen, hbody, hc]
  refine wpAny_bind (m := field (.ref c) 1) (wpAny_field hoc hdc hq (wpAny_bind (wpAny_pure ?_)))
  refine wpAny_bind (wpAny_mono h (fun binds s₁ h₁ => ?_) fun _ _ q => q)
  refine wpAny_bind (wpAny_mono h₁ (fun env s₂ h₂ => ?_) fun _ _ q => q)
  exact wpAny_bind (wpAny_enterFrame h₂.1 hroom (wpAny_pure ⟨rfl, h₂.2⟩))

section
variable {base h₀ : Heap} {outer : List Env} {L : Addr} {m : Str → Option Value} {news : List (Addr × Obj)} {K : Frag} {R : Result → Shared → Prop} {name qual : Str} {params : Arguments} {body : List Stmt} {scope : Scope} {dV kV doc pm cdv ct oc : Value} {an od : Option Addr}
 {osl : Array (Option Value)} {f : Addr} {args : Args} {binds : List (Str × Value)} {p : Program} {loose : List Str} {mean : ExcName → Option Value} {mg mb : Str → Option Value}

theorem code_defR (B : Below A₀ base outer h₀) (F : Fr h₀ L s.heap m) (X₀ : K.In h₀) (N : News h₀ L s.heap news) (T : Top p loose mean mg mb h₀) (hA : A.frames = some (env :: outer)) (hf : env.frame = some L) (hke : env.scope.kind = .function)
    (ho : K.lookup f = some ⟨oc, od, .func (fnOf name qual params body scope dV kV doc pm an cdv ct), osl⟩) (hcd : codeIn K cdv qual = true) (hroom : A.depth < recursionLimit)
    (hbind : BindsTo s (fnOf name qual params body scope dV kV doc pm an cdv ct) args binds) (hloc : ∀ y ∈ binds, scope.names.lookup y.1 = some .local)
    (h : ∀ g L' h₁, Fr h₀ L g m → Fr g L' h₁ (fun y => binds.reverse.lookup y) → News g L' h₁ news → Below A base (env :: outer) g → K.In g → Top p loose mean mg mb g →
      wpR (model prog w) (A.deeper (envOf qual scope L' f cdv)) (execs body (envOf qual scope L' f cdv))
        (fun fl s' => LeaveK h₀ L m g R (match fl with | .ret v => v | _ => .none) s')
        (fun e s' => wpAny (model prog w) (A.deeper (envOf qual scope L' f cdv)) (leaving (envOf qual scope L' f cdv) e) (fun _ s'' => R (.error e) s'') (fun e' s'' => R (.error e') s'') s')
        { s with heap := h₁, toks := s.toks + binds.length })
    (hco : scope.isCoroutine = false) (hgen : scope.isGenerator = false) (hk : scope.kind = .function) (hcell : ∀ x ∈ scope.names, x.2 ≠ .cell) : codeR (model prog w) A (.call (.ref f) args) R s := by
  obtain ⟨FG, BG, st, lv⟩ := groundX (R := R) B F N hA hf hke
  have X := X₀.keeps F.keep
  refine codeR_enter hroom (X _ _ ho) rfl hco hgen rfl (codeRec_of X hcd) (hbind _ _ _ _ ?_)
  refine wpAny_newFunctionEnv hcell hloc (fun h₁ hns hsb => ⟨(T.nolimit.keeps F.keep).fresh _ hsb, codeR_func ?_⟩) hk
  have hk₁ : ∀ b o, s.heap.get? b = some o → h₁.get? b = some o := fun b o e => hsb.extBut b o (Nat.ne_of_lt (Heap.lt_size e)) (Heap.get?_push_of_some _ e)
  refine wpR_mono (h _ s.heap.objs.size h₁ FG ⟨hns, fun b o e => hk₁ b o (of_hideAll _ e), Nat.le_of_eq (hideAll_size _ _)⟩ (fun q hq => ?_) BG (X₀.keeps st) (T.keeps st)) (fun fl s' hl => lv _ _ hl) fun _ _ q => q
  exact ⟨hk₁ _ _ (N q hq).1, Nat.ne_of_lt (Heap.lt_size (N q hq).1), hideAll_none _ (List.mem_map_of_mem hq)⟩
end

/-! statements -/
theorem wpR_execsA {st : Stmt} {rest : List Stmt} {Q : Flow → Shared → Prop}
    (h : wpAny M A (exec st env) (fun fl s' => match fl with | .next => wpR M A (execs rest env) Q E s' | f => Q f s') E s) : wpR M A (execs (st :: rest) env) Q E s := by
  show wpR M A (do match ← exec st env with | .next => execs rest env | f => pure f) Q E s
  refine wpR_bindA (wpAny_mono h (fun fl s' q => ?_) fun _ _ q => q)
  cases fl <;> first | exact q | exact wpR_pure q
theorem wpR_execsR {st : Stmt} {rest : List Stmt} {Q : Flow → Shared → Prop}
    (h : wpR M A (exec st env) (fun fl s' => match fl with | .next => wpR M A (execs rest env) Q E s' | f => Q f s') E s) : wpR M A (execs (st :: rest) env) Q E s := by
  show wpR M A (do match ← exec st env with | .next => execs rest env | f => pure f) Q E s
  refine wpR_bind (wpR_mono h (fun fl s' q => ?_) fun _ _ q => q)
  cases fl <;> first | exact q | exact wpR_pure q
theorem wpR_execs_nil {Q : Flow → Shared → Prop} (h : Q .next s) : wpR M A (execs [] env) Q E s := wpR_pure h
theorem wpR_AssignName {x : Str} {px pos : Pos} {value : PySem.Expr} {Q : Flow → Shared → Prop}
    (h : wpR M A (eval value env) (fun v s₁ => wpAny M A (storeName env x v) (fun _ => Q .next) E s₁) E s)
    (hs : swapsWith value (some (.Name x px)) pos.line env = pure false := by rfl) : wpR M A (exec (.Assign [.Name x px] value pos) env) Q E s := by
  rw [exec_Assign_Name (hs := hs)]
  refine wpR_bind (wpR_standAt (wpR_bind (wpR_mono h (fun v s₁ q => ?_) fun _ _ q => q)))
  exact wpR_of (wpAny_bind (wpAny_standAt (wpAny_bind (wpAny_bindName (wpAny_mono q (fun _ _ q => wpAny_pure q) fun _ _ q => q)))))
theorem wpR_Return {e : PySem.Expr} {pos : Pos} {Q : Flow → Shared → Prop} (h : wpR M A (eval e env) (fun v => Q (.ret v)) E s) : wpR M A (exec (.Return (some e) pos) env) Q E s := by
  rw [exec_Return_some]
  exact wpR_bind (wpR_standAt (wpR_bind (wpR_mono h (fun v s' q => wpR_pure q) fun _ _ q => q)))
theorem wpR_BinOp {l r : PySem.Expr} {op : Operator} {pos : Pos} {Q : Value → Shared → Prop}
    (h : wpR M A (eval l env) (fun a s₁ => wpR M A (eval r env) (fun b s₂ => wpAny M A (binaryOp op a b) Q E s₂) E s₁) E s) : wpR M A (eval (.BinOp l op r pos) env) Q E s := by
  rw [eval_BinOp]
  refine wpR_bind (wpR_mono h (fun a s₁ q => ?_) fun _ _ q => q)
  refine wpR_bind (wpR_holding (wpR_mono q (fun b s₂ q => ?_) fun _ _ q => q))
  refine wpR_bind (wpR_standAt (wpR_of ?_))
  exact fun Γ p hΓ => by rw [Sem.wp_operate]; exact q Γ p hΓ

/-! calls -/
theorem callWithR {pos : Pos} {f : Value} {first : List Value} {args : List (Bool × Sem Value)} {Q : Value → Shared → Prop} {P : Heap → Prop} (hplain : args.any (·.1) = false)
    (hk : ∀ h, P h → ∃ k, (k = Keeper.frame ∨ k = Keeper.machine ∨ k = Keeper.boundFrame) ∧ Looks M h (keeperOf f) k)
    (h : wpR M A (evalArgs f true args []) (fun a s₁ => P s₁.heap ∧ wpR M A (call f (first ++ a.pos) a.kw) Q E s₁) E s) : wpR M A (callWith pos f first args []) Q E s := by
  unfold callWith
  refine wpR_bind (wpR_holding (wpR_mono h (fun a s₁ q => wpR_bind (wpR_standAt ?_)) fun _ _ q => q))
  obtain ⟨k, hk', Lk⟩ := hk _ q.1
  simp only [hplain, List.any_nil, Bool.or_false]
  refine wpR_bindA (Lk.here ?_)
  have tail : ∀ {t : Sem Value}, wpR M A t Q E s₁ → wpR M A (t >>= fun r => holding [r] point >>= fun _ => pure r) Q E s₁ := fun ht =>
    wpR_bind (wpR_mono ht (fun r s₂ hr => wpR_of (wpAny_bind (wpAny_holding (wpAny_point (wpAny_pure hr))))) fun _ _ q => q)
  have marked (mk : Value) : wpR M A (callMarked mk f (first ++ a.pos) a.kw) Q E s₁ := by unfold callMarked; exact wpR_keep q.2
  rcases hk' with rfl | rfl | rfl <;> dsimp only <;> first | exact tail q.2 | (split <;> first | exact tail q.2 | exact tail (marked _))
/-- a call whose arguments walk plainly -/
theorem callWithR_K {K : Frag} {pos : Pos} {f : Value} {e : PySem.Expr} {rest : List PySem.Expr} {Q : Value → Shared → Prop} (hk : keepIn K f = true)
    (h : wpAny M A (spliced (backTo pos (starEach (e :: rest) env))) (fun vs s₁ => K.In s₁.heap ∧ wpR M A (call f vs) Q E s₁) E s)
    (he : starEach (e :: rest) env = (false, eval e env) :: starEach rest env := by rfl) (hplain : (backTo pos (starEach rest env)).any (·.1) = false := by rfl) :
    wpR M A (callWith pos f [] (backTo pos (starEach (e :: rest) env)) []) Q E s := by
  rw [he] at h ⊢
  exact callWithR (by show (false || (backTo pos (starEach rest env)).any (·.1)) = false; rw [hplain]; rfl) (keeps_K hk) (wpR_of (Calls.evalArgs_plain h))
theorem evalArgs_one {f : Value} {x : Sem Value} {Q : Args → Shared → Prop} (h : wpR M A x (fun v s' => Q ⟨[v], []⟩ s') E s) : wpR M A (evalArgs f true [(false, x)] []) Q E s := by
  unfold evalArgs
  show wpR M A (spliced [(false, x)] >>= _) Q E s
  refine wpR_bind ?_
  show wpR M A (x >>= fun v => _) _ E s
  refine wpR_bind (wpR_mono h (fun v s' q => ?_) fun _ _ q => q)
  refine wpR_of ?_
  refine wpAny_bind (wpAny_pure (wpAny_bind (wpAny_holding (wpAny_pure (wpAny_pure (wpR_of (wpAny_bind (wpAny_pure (wpAny_holding ?_)))))))))
  exact wpAny_bind (wpAny_pure (wpAny_bind (wpAny_pure (wpAny_pure q))))
/-- a call of one argument that itself walks restrictedly -/
theorem callWithR_one {K : Frag} {pos : Pos} {f : Value} {e : PySem.Expr} {Q : Value → Shared → Prop} (hk : ∀ h, K.In h → ∃ k, (k = Keeper.frame ∨ k = Keeper.machine ∨ k = Keeper.boundFrame) ∧ Looks M h (keeperOf f) k)
    (h : wpR M A (eval e env) (fun v s₁ => K.In s₁.heap ∧ wpR M A (call f [v]) Q E s₁) E s)
    (he : starEach [e] env = [(false, eval e env)] := by rfl) : wpR M A (callWith pos f [] (backTo pos (starEach [e] env)) []) Q E s := by
  rw [he]
  exact callWithR rfl hk (evalArgs_one h)
theorem callWithR_T {pos : Pos} {f : Value} {e : PySem.Expr} {rest : List PySem.Expr} {Q : Value → Shared → Prop} (hk : keeperOf f = pure .machine)
    (h : wpAny M A (spliced (backTo pos (starEach (e :: rest) env))) (fun vs s₁ => wpR M A (call f vs) Q E s₁) E s)
    (he : starEach (e :: rest) env = (false, eval e env) :: starEach rest env := by rfl) (hplain : (backTo pos (starEach rest env)).any (·.1) = false := by rfl) :
    wpR M A (callWith pos f [] (backTo pos (starEach (e :: rest) env)) []) Q E s := by
  rw [he] at h ⊢
  exact callWithR (P := fun _ => True) (by show (false || (backTo pos (starEach rest env)).any (·.1)) = false; rw [hplain]; rfl) (fun h _ => ⟨.machine, .inr (.inl rfl), Looks.of_pure hk⟩)
    (wpR_of (Calls.evalArgs_plain (wpAny_mono h (fun vs s₁ q => ⟨trivial, q⟩) fun _ _ q => q)))
theorem evalCallR {f : Str} {pf pos : Pos} {args : List PySem.Expr} {Q : Value → Shared → Prop}
    (h : wpAny M A (eval (.Name f pf) env) (fun v s' => wpR M A (callWith pos v [] (backTo pos (starEach args env)) []) Q E s') E s) : wpR M A (eval (.Call (.Name f pf) args [] pos) env) Q E s := by
  show wpR M A (do callWith pos (← eval (.Name f pf) env) [] (backTo pos (starEach args env)) []) Q E s
  exact wpR_bindA h
end
end Mine

/-! part W0 -/
open PySem PySem.W PyProof.Rows PySem.Builtin
set_option maxHeartbeats 8000000
namespace Mine
section
variable {prog : Program} {w : World} {A : Around} {E : Value → Shared → Prop} {s : Shared} {Q : Value → Shared → Prop}
theorem index_sizes {T : Addr} {n : Nat} {t1 t2 t4 t8 u : Tok} {sz : Int} (i : Int) (hT : s.heap.get? T = some { cls := .type "tuple", data := .seq #[.int 1 t1, .int 2 t2, .int 4 t4, .int 8 t8] n })
    (hs : (sz = 1 ∧ i = 0) ∨ (sz = 2 ∧ i = 1) ∨ (sz = 4 ∧ i = 2) ∨ (sz = 8 ∧ i = 3)) (h : ∀ t, Q (.int i t) { s with toks := s.toks + 1 }) :
    wpAny (model prog w) A (call (.builtin "tuple.index") [.ref T, .int sz u]) Q E s := by
  have hTy : s.TypeIs (.ref T) "tuple" := ⟨_, hT, rfl⟩
  refine wpAny_call_entry F.slot_tuple_index hTy F.entry_tuple_index ?_ (F.args_tuple_index_2 _ _)
  unfold Builtin.«tuple.index»
  refine wpAny_bind (wpAny_of_eq (a := (.ref T, [.int sz u])) (by kernel_rfl) ?_)
  dsimp only
  have hits : ∀ {α : Type} {k : Array Value → Sem α} {Q : α → Shared → Prop} {E : Value → Shared → Prop} {A : Around}, wpAny (model prog w) A (k #[.int 1 t1, .int 2 t2, .int 4 t4, .int 8 t8]) Q E s → wpAny (model prog w) A (Tuple.tupleItemsOf (.ref T) >>= k) Q E s := fun hk => by
    unfold Tuple.tupleItemsOf
    exact wpAny_bind (wpAny_bind (wpAny_seqItems hT rfl (wpAny_pure hk)))
  refine hits ?_
  refine wpAny_bind (wpAny_pure (wpAny_bind (wpAny_pure ?_)))
  rw [Std.Legacy.Range.forIn_eq_forIn_range']
  have hsz : ([:Min.min #[Value.int 1 t1, Value.int 2 t2, Value.int 4 t4, Value.int 8 t8].size #[Value.int 1 t1, Value.int 2 t2, Value.int 4 t4, Value.int 8 t8].size] : Std.Legacy.Range).size = 4 := by simp [Std.Legacy.Range.size]
  have one : ∀ (k : Nat) (x : Int) (t : Tok) (cont : Bool → Sem (ForInStep (Option Fin × Unit))) {Q : ForInStep (Option Fin × Unit) → Shared → Prop}, wpAny (model prog w) A.in1 (cont (x == sz)) Q E s → wpAny (model prog w) A.in1 (eqBool (.int x t) (.int sz u) >>= cont) Q E s := fun k x t cont Q hq => wpAny_bind (wpAny_eqBool_int hq)
  rw [hsz]
  simp only [List.range', List.forIn_cons, List.forIn_nil]
  have hit : ∀ (x : Int) (t : Tok) (j : Nat) {Q : ForInStep (Option Fin × Unit) → Shared → Prop}, x = sz → (∀ t', Q (.done (some (.done (.ret (.int j t'))), ())) { s with toks := s.toks + 1 }) →
      wpAny (model prog w) A.in1 (eqBool (.int x t) (.int sz u) >>= fun b => if b = true then (do let r ← retInt j; pure (ForInStep.done (some r, ()))) else pure (ForInStep.yield (none, ()))) Q E s := fun x t j Q hx hq => by
    refine wpAny_bind (wpAny_eqBool_int ?_)
    refine itA_true (by rw [hx]; simp) ?_
    exact wpAny_bind (wpAny_bind (wpAny_mkInt (wpAny_pure (wpAny_pure (hq _)))))
  have miss : ∀ (x : Int) (t : Tok) (j : Nat) {Q : ForInStep (Option Fin × Unit) → Shared → Prop}, x ≠ sz → Q (.yield (none, ())) s →
      wpAny (model prog w) A.in1 (eqBool (.int x t) (.int sz u) >>= fun b => if b = true then (do let r ← retInt j; pure (ForInStep.done (some r, ()))) else pure (ForInStep.yield (none, ()))) Q E s := fun x t j Q hx hq => by
    refine wpAny_bind (wpAny_eqBool_int ?_)
    exact itA_false (by simpa using hx) (wpAny_pure hq)
  have fin : ∀ (j : Nat), (j : Int) = i → ∀ t', (fun fin s' => ∃ v, fin = Fin.done (Flow.ret v) ∧ Q v s') (Fin.done (.ret (.int j t'))) { s with toks := s.toks + 1 } := fun j hj t' => ⟨_, rfl, hj ▸ h t'⟩
  refine wpAny_bind (wpAny_bind ?_)
  by_cases h1 : (1 : Int) = sz
  · exact hit 1 t1 0 h1 fun t' => wpAny_pure (wpAny_pure (fin 0 (by omega) t'))
  refine miss 1 t1 0 h1 ?_
  refine wpAny_bind ?_
  by_cases h2 : (2 : Int) = sz
  · exact hit 2 t2 1 h2 fun t' => wpAny_pure (wpAny_pure (fin 1 (by omega) t'))
  refine miss 2 t2 1 h2 ?_
  refine wpAny_bind ?_
  by_cases h3 : (4 : Int) = sz
  · exact hit 4 t4 2 h3 fun t' => wpAny_pure (wpAny_pure (fin 2 (by omega) t'))
  refine miss 4 t4 2 h3 ?_
  refine wpAny_bind ?_
  exact hit 8 t8 3 (by omega) fun t' => wpAny_pure (wpAny_pure (fin 3 (by omega) t'))

theorem notin_sizes {T : Addr} {n : Nat} {t1 t2 t4 t8 u : Tok} {sz : Int} (hT : s.heap.get? T = some { cls := .type "tuple", data := .seq #[.int 1 t1, .int 2 t2, .int 4 t4, .int 8 t8] n })
    (hs : sz = 1 ∨ sz = 2 ∨ sz = 4 ∨ sz = 8) (h : Q (.bool false) s) : wpAny (model prog w) A (compareOp .NotIn (.int sz u) (.ref T)) Q E s := by
  refine SeqAt.notIn_tupleAt (fun y => match y with | .int v _ => v == sz | _ => false) ⟨_, hT, rfl, n, rfl⟩ (fun y hy => ?_) ?_
  · simp only [List.mem_toArray, List.mem_cons, List.not_mem_nil, or_false] at hy
    rcases hy with rfl | rfl | rfl | rfl <;> exact (PySem.MeetsSeq.EqGives.int _ _ _ _).at _ _
  · have : (!(#[Value.int 1 t1, Value.int 2 t2, Value.int 4 t4, Value.int 8 t8].any fun y => match y with | .int v _ => v == sz | _ => false)) = false := by
      rcases hs with rfl | rfl | rfl | rfl <;> simp
    rw [this]; exact h
theorem method_index {T : Addr} {n : Nat} {items : Array Value} {pl : Sem Bool} {Q : Value × List Value → Shared → Prop} (hT : s.heap.get? T = some { cls := .type "tuple", data := .seq items n })
    (h : Q (.builtin "tuple.index", [.ref T]) s) : wpAny (model prog w) A (getMethod (.ref T) "index" pl) Q E s :=
  getMethod_builtin ⟨_, hT, rfl⟩ PySem.F.plainAttrs_tuple PySem.F.slot_tuple_index PySem.F.type_tuple_index (fun a e => by cases e; exact ⟨_, hT, rfl⟩) h
end
end Mine
namespace Mine
section
local macro_rules | `(tactic| k_mem) => `(tactic| first | assumption | exact List.mem_cons_self | (refine List.mem_cons_of_mem _ ?_; k_mem) | (refine List.mem_append.mpr (.inl ?_); k_mem) | (refine List.mem_append.mpr (.inr ?_); k_mem))
local macro_rules | `(tactic| kqd_sub) => `(tactic| (intro q9 h9; k_mem))
local macro_rules | `(tactic| k_all) => `(tactic| (first | assumption | fail "none"))

/-! part C2 -/
section
local macro_rules | `(tactic| walk_at "none 0") => `(tactic| fail "none")
set_option maxHeartbeats 8000000

def gp : Int → List (Int × Int) → List (Int × Int)
  | _, [] => []
  | b, (x, y) :: R => (b - y - 2, y - x) :: gp x R
def lastb : Int → List (Int × Int) → Int
  | b, [] => b
  | _, (x, _) :: R => lastb x R
theorem gp_snoc : ∀ (b : Int) (R : List (Int × Int)) (x y : Int), gp b (R ++ [(x, y)]) = gp b R ++ [(lastb b R - y - 2, y - x)]
  | _, [], _, _ => rfl
  | _, (u, v) :: R, x, y => by simp [gp, lastb, gp_snoc u R x y]
theorem lastb_snoc : ∀ (b : Int) (R : List (Int × Int)) (x y : Int), lastb b (R ++ [(x, y)]) = x
  | _, [], _, _ => rfl
  | _, (u, v) :: R, x, y => lastb_snoc u R x y
theorem gp_len : ∀ (b : Int) (R : List (Int × Int)), (gp b R).length = R.length
  | _, [] => rfl
  | _, (u, v) :: R => by simp [gp, gp_len u R]

section
variable {prog : Program} {w : World} {A : Around} {E : Value → Shared → Prop} {s : Shared} {h₀ : Heap} {L l : Addr} {m : Str → Option Value} {news : List (Addr × Obj)} {vs : List Value} {n : Nat} {v : Value} {k : Int} {u : Tok} {Q : Value → Shared → Prop}
theorem item_led {value slice : PySem.Expr} (N : News h₀ L s.heap news) (hl : (l, listOf (List.toArray vs) n) ∈ news) (h0 : 0 ≤ k) (hhi : k < 2 ^ 63) (hx : vs[k.toNat]? = some v) (h : Q v s)
    (hs : subscripted slice false (.ref l) (.int k u) = operate [.ref l, .int k u] (getItem (.ref l) (.int k u)) := by with_unfolding_all rfl) :
    wpAny (model prog w) A (subscriptTail value slice (.ref l) (.int k u)) Q E s :=
  have hL : s.heap.IsList l vs.toArray := News.isList N hl
  tail_any hL.typeIs slot_list_getitem.lookup (wpAny_getItem_list hL h0 hhi (by simpa using hx) h) hs
end
theorem kp_from1 (v : Value) (vs : List Value) : kms_pick (List.toArray (v :: vs)).toList (some 1) none = vs := by
  simp [kms_pick, kms_lo, kms_hi]
theorem sz_of {vs : List Value} (h : vs.length < 1001) : (List.toArray vs).size ≤ sizeLine := by
  rw [List.size_toArray, sizeLine_eq]; omega

section
variable {w : World} {p : Program} {loose : List Str} {mean : ExcName → Option Value} {mg mb : Str → Option Value}
 {dp un : Nat} {gd : Option (List Code)} {cn : Str} {cs : Scope} {a : Addr} {ccd : Value} {cl : List (Str × Addr)} {outer : List Env} {A₀ : Around} {base h₀ : Heap} {L : Addr} {m : Str → Option Value} {news : List (Addr × Obj)} {s : Shared}
 {Q E : Value → Shared → Prop}
local macro_rules | `(tactic| walk_at "exec For Name Subscript cons nil") => `(tactic| (k_here; (rename Fr _ _ _ _ => lF'); (with_unfolding_all refine' For_turns lF' ?_; k_whole)))
local macro_rules | `(tactic| walk_at "call builtin:list.append") => `(tactic| (k_here; (with_reducible show wpAny _ _ (call (Value.builtin _) [Value.ref _, _]) _ _ _); k_dflt (refine' append_K (by k_asm) (by k_asm) (by k_upd) ?_ (by first | assumption | size_fits); k_whole); intro h' F' N'))

theorem gaps_spec {l : Addr} {vs0 : List Value} {nn : Nat} {lo hi : Int} {R : List (Int × Int)} (B : Below A₀ base outer h₀) (F : Fr h₀ L s.heap m) (X : (Mine.hd.heap_39 w.params).In h₀) (N : News h₀ L s.heap news) (T : Top p loose mean mg mb h₀) (hk : cs.kind = .function) (hd : dp + 1 < recursionLimit) (hu : un + 8 < cLine)
  (hl : (l, listOf (List.toArray vs0) nn) ∈ news) (hD : DatAll news vs0 (pd ((lo, hi) :: R))) (hR : R.length < 1000)
  (ret : ∀ (T f : Addr) (fvs : List Value) (k : Nat) (t1 t2 : Tok) (tl : List (Addr × Obj)) h' tk', Fr h₀ L h' m → News h₀ L h' ((T, { cls := .type "tuple", data := .seq [.int hi t1, .int (hi - lo) t2, .ref f].toArray }) :: (f, listOf fvs.toArray k) :: (tl ++ news)) → DatAll tl fvs (pd (gp lo R)) → Q (.ref T) { s with heap := h', toks := tk' }) :
  wpAny (model (PySem.Challenge.rw_no0056_01.row.prog) w) (ktrTop dp un gd cn cs L a ccd cl outer) (call (.ref 63) [.ref l]) Q E s := by
  refine wpAny_call ?_
  revert X
  w_top off
  k_fill
  intro X
  obtain ⟨t0, k0, tx, ty, vs', rfl, hm, hD1, hn1⟩ := pl_cons hD
  have hz2 : (Value.ref t0 :: vs').length < 1001 := by rw [List.length_cons]; omega
  k_dflt ktr_enter
  k_steps
  repeat' (first | ((k_here; (with_reducible show wpAny _ _ (subscriptTail _ (PySem.Expr.Slice _ _ none _) (Value.ref _) (Value.ref _)) _ _ _); k_dflt (refine' kms_slice_lit (by k_asm) (by k_asm) (by kmk_list) (by kmk_part) (by kmk_part) (by exact kp_from1 _ _) ?_ (by with_unfolding_all rfl) (by kmk_pure) (by exact sz_of (by assumption))); intro _ _ _ _ _); (try k_steps)) | ((k_here; (with_reducible show wpAny _ _ (subscriptTail _ _ (Value.ref _) (Value.int _ _)) _ _ _); k_dflt (refine' item_led (by k_asm) (by k_mem) (by decide) (by decide) (by rfl) ?_ (by with_unfolding_all rfl))); (try k_steps)))
  rename_i f h5 l1a T0 h4 l1b h3 h2 h1 lF N1 D h0' FF NN l1c
  have efD := ltN (l1c (f, _) (List.mem_cons_of_mem _ List.mem_cons_self))
  dsimp only at efD
  have hne : ∀ q ∈ (D, listOf (List.toArray vs') 0) :: news, q.1 ≠ f := List.forall_mem_cons.mpr ⟨Nat.ne_of_gt efD, fun q hq => Nat.ne_of_lt (l1a q hq)⟩
  have N2 := news_sub ((f, listOf (List.toArray []) 0) :: ([] ++ ((D, listOf (List.toArray vs') 0) :: news))) NN (by kqd_sub)
  refine iter_J (GrowJ f ((D, listOf (List.toArray vs') 0) :: news) (fun i => gp lo (R.take i)) fun i m => i ≤ R.length ∧ ∃ tb, m (Str.ofString "before") = some (.int (lastb lo (R.take i)) tb) ∧ m (Str.ofString "found") = some (.ref f) ∧ m (Str.ofString "high") = some (.int hi ty) ∧ m (Str.ofString "low") = some (.int lo tx))
    rfl (List.mem_cons_of_mem _ List.mem_cons_self) FF N2 ?_ ?_ ?_ ?_
  · rintro i m nx ⟨k, fvs, tl, rfl, _⟩
    k_mem
  · exact ⟨0, [], [], rfl, .nil, hne, Nat.zero_le _, tx, rfl, rfl, rfl, rfl⟩
  · intro i v m₁ nx h tk I o hv hJ9 hI F₁ N₁
    refine byGoal fun P9 d9 => ?_
    obtain ⟨k, fvs, tl, rfl, hfv, hoff, hile, tb, mb1, mb2, mb3, mb4⟩ := hJ9
    obtain ⟨t1, k1, tx1, ty1, x1, y1, rfl, hm1, hR1⟩ := pl_get hD1 hv
    have F₂ := fr_put4 F₁ mb2 mb1 mb3 mb4
    have eI := neN (hI _ List.mem_cons_self)
    dsimp only at eI
    have hlen := pl_len hfv
    rw [gp_len, List.length_take] at hlen
    have hsz : (List.toArray fvs).size ≤ sizeLine := sz_of (by omega)
    refine d9 ?_
    clear d9 P9
    clear F₁ FF lF
    k_steps
    repeat' (first | ((k_here; (with_reducible show wpAny _ _ (subscriptTail _ (PySem.Expr.Slice _ _ none _) (Value.ref _) (Value.ref _)) _ _ _); k_dflt (refine' kms_slice_lit (by k_asm) (by k_asm) (by kmk_list) (by kmk_part) (by kmk_part) (by exact kp_from1 _ _) ?_ (by with_unfolding_all rfl) (by kmk_pure) (by exact sz_of (by assumption))); intro _ _ _ _ _); (try k_steps)) | ((k_here; (with_reducible show wpAny _ _ (subscriptTail _ _ (Value.ref _) (Value.int _ _)) _ _ _); k_dflt (refine' item_led (by k_asm) (by k_mem) (by decide) (by decide) (by rfl) ?_ (by with_unfolding_all rfl))); (try k_steps)))
    rename_i T1 hA lT hB hC FZ NZ
    have hi' := (List.getElem?_eq_some_iff.mp hR1).1
    refine grow_end FZ NZ (Nat.ne_of_gt lT.1) (Nat.ne_of_gt lT.2.1) hI hoff hfv ?_ ⟨hi', tx1, ?_, rfl, rfl, rfl⟩
    · rw [take_snoc hR1, gp_snoc]
    · rw [take_snoc hR1, lastb_snoc]; rfl
  · intro m₁ nx h tk hJ9 F₁ N₁
    refine byGoal fun P9 d9 => ?_
    obtain ⟨k, fvs, tl, rfl, hfv, hoff, hile, tb, mb1, mb2, mb3, mb4⟩ := hJ9
    have F₂ := fr_put3 F₁ mb2 mb4 mb3
    refine d9 ?_
    clear d9 P9
    clear F₁ FF lF
    k_steps
    repeat' (first | ((k_here; (with_reducible show wpAny _ _ (subscriptTail _ (PySem.Expr.Slice _ _ none _) (Value.ref _) (Value.ref _)) _ _ _); k_dflt (refine' kms_slice_lit (by k_asm) (by k_asm) (by kmk_list) (by kmk_part) (by kmk_part) (by exact kp_from1 _ _) ?_ (by with_unfolding_all rfl) (by kmk_pure) (by exact sz_of (by assumption))); intro _ _ _ _ _); (try k_steps)) | ((k_here; (with_reducible show wpAny _ _ (subscriptTail _ _ (Value.ref _) (Value.int _ _)) _ _ _); k_dflt (refine' item_led (by k_asm) (by k_mem) (by decide) (by decide) (by rfl) ?_ (by with_unfolding_all rfl))); (try k_steps)))
    refine ret _ f fvs k _ _ tl _ _ (by assumption) (news_sub _ (by assumption) (by kqd_sub)) ?_
    simp only [hn1, List.take_length] at hfv
    exact hfv
end
end

/-! part W1 -/
section
set_option maxHeartbeats 8000000
/-- the lowest k octets of n, the highest first -/
def beL (n : Int) : Nat → List UInt8
  | 0 => []
  | k + 1 => beL (n.fdiv 256) k ++ [(n.fmod 256).toNat.toUInt8]
/-- n, an octet shorter k times -/
def shr (n : Int) : Nat → Int
  | 0 => n
  | k + 1 => (shr n k).fdiv 256
theorem shr_in (n : Int) : ∀ k, shr (n.fdiv 256) k = (shr n k).fdiv 256
  | 0 => rfl
  | k + 1 => congrArg (·.fdiv 256) (shr_in n k)
theorem beL_up : ∀ (k : Nat) (n : Int), beL n (k + 1) = ((shr n k).fmod 256).toNat.toUInt8 :: beL n k
  | 0, _ => rfl
  | k + 1, n => by
    show beL (n.fdiv 256) (k + 1) ++ _ = _
    rw [beL_up k (n.fdiv 256), shr_in]; rfl
/-- the array when k octets of n stand in it -/
def filled (n : Int) (z k : Nat) : Array UInt8 := (List.replicate (z - k) 0 ++ beL n k).toArray
theorem beL_len : ∀ (k : Nat) (n : Int), (beL n k).length = k
  | 0, _ => rfl
  | k + 1, n => by rw [beL_up, List.length_cons, beL_len k n]
theorem filled_size {n : Int} {z k : Nat} (h : k ≤ z) : (filled n z k).size = z := by
  rw [filled, List.size_toArray, List.length_append, List.length_replicate, beL_len]; omega
theorem filled_set {n : Int} {z k : Nat} (h : k < z) {p : Int} (hp : p = (z : Int) - 1 - k) {d : UInt8} (hd : d = ((shr n k).fmod 256).toNat.toUInt8) : (filled n z k).setIfInBounds p.toNat d = filled n z (k + 1) := by
  subst hd
  obtain ⟨j, rfl⟩ : ∃ j, z = k + 1 + j := ⟨z - (k + 1), by omega⟩
  have e1 : p.toNat = j := by omega
  have e2 : k + 1 + j - k = j + 1 := by omega
  have e3 : k + 1 + j - (k + 1) = j := by omega
  rw [filled, filled, e1, e2, e3, List.setIfInBounds_toArray, beL_up, List.replicate_succ', List.append_assoc, List.set_append_right _ _ (by simp)]
  simp
theorem fdiv_zero {n d : Int} (h0 : 0 ≤ n) (h1 : n < d) : n.fdiv d = 0 := by
  rw [Int.fdiv_eq_ediv_of_nonneg _ (by omega)]; exact Int.ediv_eq_zero_of_lt h0 h1
theorem fmod_nn (n : Int) : 0 ≤ n.fmod 256 := by rw [Int.fmod_eq_emod_of_nonneg _ (by decide)]; omega
theorem fmod_lt (n : Int) : n.fmod 256 < 256 := by rw [Int.fmod_eq_emod_of_nonneg _ (by decide)]; omega
theorem size_down {z : Nat} (h : 0 < z) : Builtin.Range.rangeSize ((z : Int) - 1) (-1) (-1) = (z : Int) := by
  unfold Builtin.Range.rangeSize
  simp
  omega
theorem small_down {z : Nat} (h : 0 < z) (h1 : z < 1000) : Builtin.Range.small ((z : Int) - 1) (-1) (-1) = true := by
  unfold Builtin.Range.small
  rw [size_down h]
  simp only [Builtin.Range.rangeFitsLong, Bool.and_eq_true, Bool.or_eq_true, decide_eq_true_eq, beq_iff_eq]
  simp
  omega
theorem ltAll_ne {news : List (Addr × Obj)} {S : Addr} (h : ∀ p ∈ news, p.1 < S) : ∀ p ∈ news, p.1 ≠ S := fun p hp => Nat.ne_of_lt (h p hp)
section
variable {prog : Program} {w : World} {A : Around} {E : Value → Shared → Prop} {s : Shared} {h₀ : Heap} {L : Addr} {m : Str → Option Value} {news news' : List (Addr × Obj)}
theorem ba_setN {S : Addr} {b : Array UInt8} {k v : Int} {t u : Tok} {Q : Unit → Shared → Prop} (F : Fr h₀ L s.heap m) (N : News h₀ L s.heap news) (U : Upd S (baObj b) (baObj (b.setIfInBounds k.toNat v.toNat.toUInt8)) news news')
    (k0 : 0 ≤ k) (k1 : k < b.size) (hb : b.size ≤ 1000) (v0 : 0 ≤ v) (v1 : v < 256) (h : ∀ h', Fr h₀ L h' m → News h₀ L h' news' → Q () { s with heap := h' }) : wpAny (model prog w) A (setItem (.ref S) (.int k t) (.int v u)) Q E s := by
  obtain ⟨pre, post, rfl, rfl, a, b'⟩ := U.split
  have z := N (S, baObj b) (List.mem_append.mpr (.inr (.head _)))
  exact ba_setItem z.1 k0 k1 hb v0 v1 fun h' ho' hs => h h' (F.change hs z.2.1 z.2.2) (news_set N a b' hs ho')
theorem ba_bytesN {S : Addr} {b : Array UInt8} {Q : Value → Shared → Prop} (N : News h₀ L s.heap news) (hm : (S, baObj b) ∈ news) (hz : b.size ≤ sizeLine)
    (hQ : ∀ t, Q (.bytes b t) { s with toks := s.toks + 1 }) : wpAny (model prog w) A (call (.type "bytes") [.ref S]) Q E s := call_bytes_ba (N _ hm).1 hz hQ
end
section
variable {w : World} {p : Program} {loose : List Str} {mean : ExcName → Option Value} {mg mb : Str → Option Value}
 {dp un : Nat} {cn : Str} {cs : Scope} {a : Addr} {ccd : Value} {cl : List (Str × Addr)} {outer : List Env} {A₀ : Around} {base h₀ : Heap} {L : Addr} {m : Str → Option Value} {news : List (Addr × Obj)} {s : Shared}
 {Q E : Value → Shared → Prop}
theorem filled0 (n : Int) (z : Nat) : Array.replicate (z : Int).toNat 0 = filled n z 0 := by
  simp [filled, beL]
theorem filled_end (n : Int) (z : Nat) : filled n z z = (beL n z).toArray := by
  rw [filled, Nat.sub_self]; rfl
/-- what a turn keeps -/
def WholeJ (S : Addr) (n : Int) (z : Nat) (news : List (Addr × Obj)) (i : Nat) (m : Str → Option Value) (nx : List (Addr × Obj)) : Prop :=
  ∃ t, nx = (S, baObj (filled n z i)) :: news ∧ m (Str.ofString "n") = some (.int (shr n i) t) ∧ m (Str.ofString "found") = some (.ref S)
local macro_rules | `(tactic| walk_at "exec Raise some none") => `(tactic| (exfalso; first | omega | contradiction))
local macro_rules | `(tactic| walk_at "exec For Name Call cons nil") => `(tactic| (k_here; (rename Fr _ _ _ _ => lF'); (with_unfolding_all refine' For_turns lF' ?_; k_whole)))
theorem whole_spec {n : Int} {z : Nat} {t u : Tok} (B : Below A₀ base outer h₀) (F : Fr h₀ L s.heap m) (X : (Mine.hd.heap_39 w.params).In h₀) (N : News h₀ L s.heap news) (T : Top p loose mean mg mb h₀) (hk : cs.kind = .function) (hd : dp + 1 < recursionLimit) (hu : un + 8 < cLine)
  (hz0 : 0 < z) (hz1 : z ≤ 8) (h0 : 0 ≤ n) (h1 : n.fdiv (2 ^ (8 * (z : Int)).toNat) = 0)
  (ret : ∀ t h' tk', Fr h₀ L h' m → News h₀ L h' news → Q (.bytes (beL n z).toArray t) { s with heap := h', toks := tk' }) :
  wpR (model (PySem.Challenge.rw_no0056_01.row.prog) w) (ktrTop dp un (some []) cn cs L a ccd cl outer) (call (.ref 42) [.int n t, .int z u]) Q E s := by
  refine wpR_call ?_
  revert X
  w_top off
  k_fill
  intro X
  k_dflt (refine' code_defR ?k1 ?k2 ?k3 ?k4 ?k5 ?kA ?kF ?kK ?k6 ?k7 ?k8 ?k9 ?kB ?_ ?c2 ?c3 ?c4 ?c5; (case kA => exact rfl); (case kF => exact rfl); (case kK => assumption); (case k1 => k_asm); (case k2 => k_asm); (case k3 => k_asm); (case k4 => k_asm); (case k5 => k_asm); (case k6 => k_is); (case k7 => k_is); (case k8 => ktr_room); (case k9 => exact BindsTo.of_eq rfl); (case c5 => decide); (case kB => exact locs rfl); (case c2 => exact rfl); (case c3 => exact rfl); (case c4 => exact rfl); k_whole; intro _ _ _ _ _ _ _ _ _; (try dsimp only))
  refine wpR_execsA ?_
  k_fold
  k_steps
  refine wpR_execsR (wpR_AssignName (evalCallR ?_))
  k_fold
  k_steps
  refine callWithR_T rfl ?_
  k_fold
  k_steps
  refine call_bytearrayR rfl (by assumption) (by assumption) (by omega) (by omega) (fun S h' F' N' l => ?_)
  dsimp only
  k_fold
  k_steps
  refine wpR_of ?_
  k_steps
  rename_i hr tkr tr1 tr2 tr3 hrange FR NR kp
  refine iter_Js (n := z) (WholeJ S n z news) rfl hrange (small_down hz0 (by omega)) (size_down hz0) FR (filled0 n z ▸ NR) ⟨_, rfl, rfl, rfl⟩ ?_ ?_
  · rintro i t m₁ nx h tk I o hin ⟨tn, rfl, mn, mf⟩ hI F₁ N₁
    have F₂ := fr_put2 F₁ mn mf
    have hIS := neN (hI _ List.mem_cons_self)
    dsimp only at hIS
    clear F₁ FR NR kp
    k_steps
    have hz : (filled n z i).size = z := filled_size (Nat.le_of_lt hin)
    refine ba_setN (by assumption) (by assumption) (.tail (Ne.symm hIS) (.head (ltAll_ne l))) (by omega) (by rw [hz]; omega) (by rw [hz]; omega) (fmod_nn _) (fmod_lt _) fun h9 F9 N9 => ?_
    dsimp only
    k_fold
    k_steps
    exact ⟨_, _, _, _, rfl, by assumption, by assumption, fun p hp q hq => by
      rw [List.mem_singleton.mp hq]
      rcases List.mem_cons.mp hp with rfl | hp
      · exact hIS
      · exact hI p (.tail _ hp), _, congrArg (fun b => (S, baObj b) :: news) (filled_set hin (by omega) rfl), rfl, rfl⟩
  · rintro m₁ nx h tk ⟨tn, rfl, mn, mf⟩ F₁ N₁
    have F₂ := fr_put2 F₁ mn mf
    clear F₁ FR NR kp
    k_steps
    refine ba_bytesN (by assumption) List.mem_cons_self (by rw [filled_size (Nat.le_refl _)]; exact Nat.le_trans hz1 (by decide)) fun t9 => ?_
    k_steps
    rw [filled_end]
    exact ret _ _ _ (by assumption) (News.tail' (by assumption))
end
end

/-! part W2 -/
section
set_option maxHeartbeats 8000000

def enc (n : Int) : List UInt8 := if n < 64 then beL n 1 else if n < 16384 then beL (16384 + n) 2 else if n < 1073741824 then beL (2147483648 + n) 4 else beL (13835058055282163712 + n) 8

theorem nat_hi_and (i k b : Nat) (h : b < 2 ^ k) : (i * 2 ^ k) &&& b = 0 := by
  apply Nat.eq_of_testBit_eq
  intro j
  rw [Nat.testBit_and, Nat.zero_testBit]
  by_cases hj : k ≤ j
  · rw [Nat.testBit_lt_two_pow (Nat.lt_of_lt_of_le h (Nat.pow_le_pow_right (by decide) hj)), Bool.and_false]
  · rw [Nat.testBit_mul_two_pow, decide_eq_false hj, Bool.false_and, Bool.false_and]
theorem bitOr_hi (i k : Nat) {n : Int} (h0 : 0 ≤ n) (h1 : n < ((2 ^ k : Nat) : Int)) : Builtin.bitOr ((i * 2 ^ k : Nat) : Int) n = ((i * 2 ^ k : Nat) : Int) + n := by
  rw [bitOr_and, bitAnd_pp (by omega) h0, Int.toNat_natCast, nat_hi_and i k n.toNat (by omega)]
  simp
section
variable {w : World} {p : Program} {loose : List Str} {mean : ExcName → Option Value} {mg mb : Str → Option Value}
 {dp un : Nat} {gd : Option (List Code)} {cn : Str} {cs : Scope} {a : Addr} {ccd : Value} {cl : List (Str × Addr)} {outer : List Env} {A₀ : Around} {base h₀ : Heap} {L : Addr} {m : Str → Option Value} {news : List (Addr × Obj)} {s : Shared}
 {Q E : Value → Shared → Prop}
theorem vsize_v {n v : Int} {t : Tok} (B : Below A₀ base outer h₀) (F : Fr h₀ L s.heap m) (X : (Mine.hd.heap_39 w.params).In h₀) (N : News h₀ L s.heap news) (T : Top p loose mean mg mb h₀) (hk : cs.kind = .function) (hd : dp + 1 < recursionLimit) (hu : un + 8 < cLine)
  (h0 : 0 ≤ n) (h1 : n < 4611686018427387904) (hv : vs n = v)
  (ret : ∀ t h' tk', Fr h₀ L h' m → News h₀ L h' news → Q (.int v t) { s with heap := h', toks := tk' }) :
  wpAny (model (PySem.Challenge.rw_no0056_01.row.prog) w) (ktrTop dp un gd cn cs L a ccd cl outer) (call (.ref 49) [.int n t]) Q E s := by
  subst hv
  exact vsize_spec B F X N T hk hd hu h0 h1 ret

theorem pv_z {n k M : Int} {z : Nat} {t : Tok} (B : Below A₀ base outer h₀) (F : Fr h₀ L s.heap m) (X : (Mine.hd.heap_39 w.params).In h₀) (N : News h₀ L s.heap news) (T : Top p loose mean mg mb h₀) (hk : cs.kind = .function) (hd : dp + 2 < recursionLimit) (hu : un + 16 < cLine)
  (h0 : 0 ≤ n) (h1 : n < 4611686018427387904) (hv : vs n = (z : Int)) (hz : ((z : Int) = 1 ∧ k = 0) ∨ ((z : Int) = 2 ∧ k = 1) ∨ ((z : Int) = 4 ∧ k = 2) ∨ ((z : Int) = 8 ∧ k = 3))
  (hM : Builtin.bitOr (k * 2 ^ (8 * (z : Int) - 2).toNat) n = M) (M0 : 0 ≤ M) (M1 : M.fdiv (2 ^ (8 * (z : Int)).toNat) = 0)
  (ret : ∀ t h' tk', Fr h₀ L h' m → News h₀ L h' news → Q (.bytes (beL M z).toArray t) { s with heap := h', toks := tk' }) :
  wpR (model (PySem.Challenge.rw_no0056_01.row.prog) w) (ktrTop dp un (some []) cn cs L a ccd cl outer) (call (.ref 56) [.int n t, .none]) Q E s := by
  subst hM
  have z1 : 1 ≤ z ∧ z ≤ 8 ∧ 0 ≤ k := by omega
  refine wpR_call ?_
  revert X
  w_top off
  k_fill
  intro X
  k_dflt (refine' code_defR ?k1 ?k2 ?k3 ?k4 ?k5 ?kA ?kF ?kK ?k6 ?k7 ?k8 ?k9 ?kB ?_ ?c2 ?c3 ?c4 ?c5; (case kA => exact rfl); (case kF => exact rfl); (case kK => assumption); (case k1 => k_asm); (case k2 => k_asm); (case k3 => k_asm); (case k4 => k_asm); (case k5 => k_asm); (case k6 => k_is); (case k7 => k_is); (case k8 => ktr_room); (case k9 => exact BindsTo.of_eq rfl); (case c5 => decide); (case kB => exact locs rfl); (case c2 => exact rfl); (case c3 => exact rfl); (case c4 => exact rfl); k_whole; intro _ _ _ _ _ _ _ _ _; (try dsimp only))
  refine wpR_execsA ?_
  k_fold
  k_steps
  refine vsize_v (by k_asm) (by k_asm) (by k_asm) (by k_asm) (by k_asm) rfl (by ktr_room) (by ktr_units) h0 h1 hv ?_
  intro t9 h9 tk9 F9 N9
  k_fold
  k_steps
  refine wpR_execsA ?_
  k_fold
  k_steps
  refine wpR_execsA ?_
  k_fold
  k_steps
  refine notin_sizes (by exact (Frag.In.keeps (by k_asm) (Fr.keep (by k_asm))) _ _ (by k_is)) (by omega) ?_
  k_fold
  k_steps
  refine wpR_execsR (wpR_Return (evalCallR ?_))
  k_fold
  k_steps
  refine callWithR_K (K := Mine.hd.heap_39 w.params) (by k_is) ?_
  k_fold
  k_steps
  refine method_index (by exact (Frag.In.keeps (by k_asm) (Fr.keep (by k_asm))) _ _ (by k_is)) ?_
  k_fold
  k_steps
  refine index_sizes k (by exact (Frag.In.keeps (by k_asm) (Fr.keep (by k_asm))) _ _ (by k_is)) hz ?_
  intro t8
  k_steps
  refine whole_spec (by k_asm) (by k_asm) (by k_asm) (by k_asm) (by k_asm) rfl (by ktr_room) (by ktr_units) (by omega) (by omega) M0 M1 fun t h' tk' F' N' => ?_
  k_steps
  exact ret _ _ _ (by assumption) (by assumption)
theorem pv_spec {n : Int} {t : Tok} (B : Below A₀ base outer h₀) (F : Fr h₀ L s.heap m) (X : (Mine.hd.heap_39 w.params).In h₀) (N : News h₀ L s.heap news) (T : Top p loose mean mg mb h₀) (hk : cs.kind = .function) (hd : dp + 2 < recursionLimit) (hu : un + 16 < cLine)
  (h0 : 0 ≤ n) (h1 : n < 4611686018427387904)
  (ret : ∀ t h' tk', Fr h₀ L h' m → News h₀ L h' news → Q (.bytes (enc n).toArray t) { s with heap := h', toks := tk' }) :
  wpR (model (PySem.Challenge.rw_no0056_01.row.prog) w) (ktrTop dp un (some []) cn cs L a ccd cl outer) (call (.ref 56) [.int n t, .none]) Q E s := by
  by_cases c1 : n < 64
  · rw [show enc n = beL n 1 by rw [enc, if_pos c1]] at ret
    exact pv_z (k := 0) (z := 1) B F X N T hk hd hu h0 h1 (by rw [vs, if_pos c1]; rfl) (by decide) (by simpa using bitOr_hi 0 6 h0 (by simpa using c1)) h0 (fdiv_zero h0 (by simp; omega)) ret
  by_cases c2 : n < 16384
  · rw [show enc n = beL (16384 + n) 2 by rw [enc, if_neg c1, if_pos c2]] at ret
    exact pv_z (k := 1) (z := 2) B F X N T hk hd hu h0 h1 (by rw [vs, if_neg c1, if_pos c2]; rfl) (by decide) (by simpa using bitOr_hi 1 14 h0 (by simpa using c2)) (by omega) (fdiv_zero (by omega) (by simp; omega)) ret
  by_cases c3 : n < 1073741824
  · rw [show enc n = beL (2147483648 + n) 4 by rw [enc, if_neg c1, if_neg c2, if_pos c3]] at ret
    exact pv_z (k := 2) (z := 4) B F X N T hk hd hu h0 h1 (by rw [vs, if_neg c1, if_neg c2, if_pos c3]; rfl) (by decide) (by simpa using bitOr_hi 2 30 h0 (by simpa using c3)) (by omega) (fdiv_zero (by omega) (by simp; omega)) ret
  · rw [show enc n = beL (13835058055282163712 + n) 8 by rw [enc, if_neg c1, if_neg c2, if_neg c3]] at ret
    exact pv_z (k := 3) (z := 8) B F X N T hk hd hu h0 h1 (by rw [vs, if_neg c1, if_neg c2, if_neg c3]; rfl) (by decide) (by simpa using bitOr_hi 3 62 h0 (by simpa using h1)) (by omega) (fdiv_zero (by omega) (by simp; omega)) ret
end
end

/-! part R5 -/
section
set_option maxHeartbeats 8000000
abbrev NoE : Value → Shared → Prop := fun _ _ => False
section
variable {prog : Program} {w : World} {A : Around} {E : Value → Shared → Prop} {s : Shared} {env : Env} {h₀ : Heap} {target iter : PySem.Expr} {body : List Stmt} {Q : Flow → Shared → Prop}

theorem codeR_for {it : Value} {R : Result → Shared → Prop} (I : Nat → Shared → Prop)
    (turn : ∀ n s, I n s → wpAny (model prog w) A (pyNext it) (fun r s₁ => match r with
      | none => R (.ok .next) s₁
      | some v => wpAny (model prog w) A (letOwnedTupleGo target it v) (fun _ s₂ => wpAny (model prog w) A (assign target env v) (fun _ s₃ => wpR (model prog w) A (execs body env) (fun f s₄ => match f with
          | .next | .cont => ∃ m, m < n ∧ I m s₄
          | .brk => R (.ok .next) s₄
          | .ret v => R (.ok (.ret v)) s₄) NoE s₃) NoE s₂) NoE s₁) NoE s)
    (n : Nat) (h : I n s) : codeR (model prog w) A (.forLoop target it body [] env) R s := by
  induction n using Nat.strongRecOn generalizing s with
  | ind n ih =>
    refine codeR_of_tree rfl ?_
    show wpR _ A ((forTurn target it body [] env).onRaise (fun x => do noteFrame x env; theTreesLotGoes x)) _ _ s
    refine wpR_onRaise (wpR_mono (E := NoE) ?_ (fun _ _ q => q) fun _ _ x => x.elim)
    simp only [forTurn]
    refine wpR_bindA (wpAny_standAt (wpR_bindA (wpAny_onRaise (wpAny_mono (turn n s h) (fun r s₁ h₁ => ?_) fun _ _ x => x.elim))))
    cases r with
    | none => exact wpR_pure ⟨rfl, codeR_of (codeAny_block (wpAny_execs_nil h₁))⟩
    | some v =>
      refine wpR_bindA (wpAny_mono h₁ (fun _ s₂ h₂ => ?_) fun _ _ x => x.elim)
      refine wpR_bindA (wpAny_mono h₂ (fun _ s₃ h₃ => ?_) fun _ _ x => x.elim)
      refine wpR_bind (wpR_mono h₃ (fun f s₄ h₄ => ?_) fun _ _ x => x.elim)
      cases f with
      | next => obtain ⟨m, hm, hI⟩ := h₄; exact wpR_pure ⟨rfl, ih m hm hI⟩
      | cont => obtain ⟨m, hm, hI⟩ := h₄; exact wpR_pure ⟨rfl, ih m hm hI⟩
      | brk => exact wpR_pure h₄
      | ret v => exact wpR_pure h₄

theorem for_listR {pos : Pos} {l : Addr} {vs : List Value} {nn : Nat} {m₀ : Str → Option Value} {news : List (Addr × Obj)} (J : Nat → (Str → Option Value) → List (Addr × Obj) → Prop)
    (hh : A.handled = none) (he : wpAny (model prog w) A (eval iter env) (fun xv s₁ => xv = .ref l ∧ s₁ = s) E s) (hl : (l, listOf (List.toArray vs) nn) ∈ news) (F : Fr h₀ env.locals s.heap m₀) (N : News h₀ env.locals s.heap news)
    (hJl : ∀ i m nx, J i m nx → (l, listOf (List.toArray vs) nn) ∈ nx) (hj : J 0 m₀ news)
    (turn : ∀ i v m₁ nx h tk I o, vs[i]? = some v → J i m₁ nx → (∀ p ∈ nx, p.1 ≠ I) → Fr h₀ env.locals h m₁ → News h₀ env.locals h ((I, o) :: nx) →
      wpAny (model prog w) A (assign target env v) (fun _ s₃ => wpR (model prog w) A (execs body env) (UnrPostW h₀ env.locals { s with heap := h, toks := tk } [(I, o)] (J (i + 1)) Q) NoE s₃) NoE { s with heap := h, toks := tk })
    (done : ∀ m₁ nx h tk, J vs.length m₁ nx → Fr h₀ env.locals h m₁ → News h₀ env.locals h nx → Q .next { s with heap := h, toks := tk })
    (hs : ∀ x, foldedSetIterable iter env x = pure x := by intro _; rfl) :
    wpR (model prog w) A (exec (.For target iter body [] pos) env) Q E s := by
  have hol : s.heap.get? l = some (listOf (List.toArray vs) nn) := (N _ hl).1
  have hls : s.heap.IsList l vs.toArray := ⟨_, hol, rfl, nn, rfl⟩
  have hne : l ≠ s.heap.objs.size := Nat.ne_of_lt (Heap.lt_size hol)
  have hI0 : h₀.get? s.heap.objs.size = none := next_is_new F
  have hIL : s.heap.objs.size ≠ env.locals := Nat.ne_of_gt F.ns.lt
  rw [exec_For]
  refine wpR_bindA (wpAny_standAt (wpR_bindA (wpAny_mono he ?_ fun _ _ q => q)))
  rintro xv s₁ ⟨rfl, rfl⟩
  refine wpR_bindA (wpAny_of_eq (hs _) (wpR_bindA (wpAny_standAt (wpR_bindA (wpAny_holding (wpAny_pyIter_list hls ?_))))))
  unfold runOwn
  refine wpR_onRaise (wpR_run (codeR_mono (R := fun r s' => match r with | .ok f => Q f s' | .error _ => False) ?_ fun r s' q => by cases r <;> first | exact q | exact q.elim))
  refine codeR_for (fun k s' => ∃ h' tk m' nx i, s' = { s₁ with heap := h', toks := tk } ∧ h'.IsListIter s₁.heap.objs.size l i ∧ Fr h₀ env.locals h' m' ∧ News h₀ env.locals h' nx ∧ (∀ p ∈ nx, p.1 ≠ s₁.heap.objs.size) ∧ J i m' nx ∧ i ≤ vs.length ∧ k = vs.length + 1 - i)
    ?_ (vs.length + 1) ⟨_, s₁.toks, m₀, news, 0, rfl, ⟨_, Heap.get?_push_size _ rfl, rfl, rfl⟩, F.push _, fun p hp => ⟨Heap.get?_push_of_some _ (N p hp).1, (N p hp).2⟩, fun p hp => Nat.ne_of_lt (Heap.lt_size (N p hp).1), hj, Nat.zero_le _, rfl⟩
  intro k s' q9
  refine byGoal fun P9 d9 => ?_
  obtain ⟨h', tk, m', nx, i, rfl, hit, F', N', hoff, hJ, hi, rfl⟩ := q9
  refine d9 ?_
  clear d9 P9
  have hl' : h'.IsList l vs.toArray := ⟨_, (N' _ (hJl _ _ _ hJ)).1, rfl, nn, rfl⟩
  by_cases hlt : i < vs.length
  · have hx : vs[i]? = some vs[i] := List.getElem?_eq_getElem hlt
    refine wpAny_pyNext_list_item (x := vs[i]) hit hl' (by simpa using hx) fun h₁ hit₁ hs₁ => ?_
    refine letGo_listiter hit₁ ?_
    obtain ⟨oI, hoI, hc, hd⟩ := id hit₁
    have F₁ : Fr h₀ env.locals h₁ m' := ⟨F'.ns.at' fun o e => (hs₁.2 _ hIL.symm).trans e, fun b o e => (hs₁.2 b (fun q => by rw [q, hI0] at e; cases e)).trans (F'.keep b o e), F'.above⟩
    have N₁ : News h₀ env.locals h₁ ((s₁.heap.objs.size, oI) :: nx) := fun p hp => by
      rcases List.mem_cons.mp hp with rfl | hp
      · exact ⟨hoI, hIL, hI0⟩
      · exact ⟨(hs₁.2 _ (hoff p hp)).trans (N' p hp).1, (N' p hp).2⟩
    refine wpAny_mono (turn i vs[i] m' nx h₁ tk _ oI hx hJ hoff F₁ N₁) (fun _ s₃ h₃ => wpR_mono h₃ (fun f s₄ q => ?_) fun _ _ x => x) fun _ _ x => x
    have fin : UnrEndW h₀ env.locals { s₁ with heap := h₁, toks := tk } [(s₁.heap.objs.size, oI)] (J (i + 1)) s₄ →
        ∃ m, m < vs.length + 1 - i ∧ ∃ h' tk m' nx i, s₄ = { s₁ with heap := h', toks := tk } ∧ h'.IsListIter s₁.heap.objs.size l i ∧ Fr h₀ env.locals h' m' ∧ News h₀ env.locals h' nx ∧ (∀ p ∈ nx, p.1 ≠ s₁.heap.objs.size) ∧ J i m' nx ∧ i ≤ vs.length ∧ m = vs.length + 1 - i := by
      rintro ⟨h₂, tk₂, m₂, nx₂, e, F₂, N₂, hoff₂, hJ₂⟩
      exact ⟨_, by omega, h₂, tk₂, m₂, nx₂, i + 1, e, ⟨oI, (N₂ _ (.head _)).1, hc, hd⟩, F₂, fun p hp => N₂ p (.tail _ hp), fun p hp => hoff₂ p hp _ (.head _), hJ₂, hlt, rfl⟩
    cases f with
    | ret v => exact q
    | brk => exact q
    | next => exact fin q
    | cont => exact fin q
  · have hin : i = vs.length := by omega
    subst hin
    refine wpAny_pyNext_list_end hh hit hl' (by simp) fun h₁ he₁ => ?_
    refine done m' nx h₁ tk hJ ⟨F'.ns.at' fun o e => he₁ _ o hIL.symm e, fun b o e => he₁ b o (fun q => by rw [q, hI0] at e; cases e) (F'.keep b o e), F'.above⟩ fun p hp => ⟨he₁ _ _ (hoff p hp) (N' p hp).1, (N' p hp).2⟩
end
end

/-! part W3 -/
section
set_option maxHeartbeats 8000000

def encs : List (Int × Int) → List UInt8
  | [] => []
  | (x, y) :: R => enc x ++ (enc y ++ encs R)
theorem encs_snoc : ∀ (R : List (Int × Int)) (x y : Int), encs (R ++ [(x, y)]) = encs R ++ (enc x ++ enc y)
  | [], x, y => by simp [encs]
  | (u, v) :: R, x, y => by simp [encs, encs_snoc R x y]
theorem enc_len (n : Int) : (enc n).length ≤ 8 := by
  unfold enc
  repeat' split
  all_goals simp [beL_len]
theorem encs_len : ∀ R : List (Int × Int), (encs R).length ≤ 16 * R.length
  | [] => by simp [encs]
  | (x, y) :: R => by
    have h1 := enc_len x
    have h2 := enc_len y
    have h3 := encs_len R
    simp only [encs, List.length_append, List.length_cons]
    omega
theorem add_L {prog : Program} {w : World} {A : Around} {E : Value → Shared → Prop} {s : Shared} {b c : List UInt8} {t u : Tok} {Q : Value → Shared → Prop} (hsz : b.length + c.length ≤ 16777216) (h : ∀ t' k, Q (.bytes (b ++ c).toArray t') { s with toks := k }) : wpAny (model prog w) A (binaryOp .Add (.bytes b.toArray t) (.bytes c.toArray u)) Q E s :=
  KBy.add_bytes (by simpa using hsz) fun t' k => by rw [List.append_toArray]; exact h t' k
theorem len_led {prog : Program} {w : World} {A : Around} {E : Value → Shared → Prop} {s : Shared} {h₀ : Heap} {L l : Addr} {news : List (Addr × Obj)} {vs : List Value} {k n : Nat} {Q : Value → Shared → Prop} (N : News h₀ L s.heap news) (hl : (l, listOf (List.toArray vs) k) ∈ news) (hn : vs.length = n) (hz : n ≤ 16384)
    (h : Q (.int (n : Int) (s.toks + 1)) { s with toks := s.toks + 1 + 1 }) : wpAny (model prog w) A (call (.builtin "len") [.ref l]) Q E s :=
  kun_lenL (News.isList N hl) (by simp [hn]) (by omega) h
/-- the octets of put_ranges -/
def packed (d lo hi : Int) (R : List (Int × Int)) : List UInt8 := enc hi ++ enc d ++ enc (R.length : Int) ++ enc (hi - lo) ++ encs (gp lo R)

section
variable {w : World} {p : Program} {loose : List Str} {mean : ExcName → Option Value} {mg mb : Str → Option Value}
 {dp un : Nat} {gd : Option (List Code)} {cn : Str} {cs : Scope} {a : Addr} {ccd : Value} {cl : List (Str × Addr)} {outer : List Env} {A₀ : Around} {base h₀ : Heap} {L : Addr} {m : Str → Option Value} {news : List (Addr × Obj)} {s : Shared}
 {Q E : Value → Shared → Prop}
local macro_rules | `(tactic| walk_at "call builtin:len") => `(tactic| (k_here; (with_reducible show wpAny _ _ (call (Value.builtin "len") [Value.ref _]) _ _ _); k_dflt (refine' len_led (by k_asm) (by k_mem) (by assumption) (by omega) ?_; k_whole)))
local macro_rules | `(tactic| walk_at "pv_add") => `(tactic| (refine add_L (by (try simp only [List.length_append]); omega) ?_; intro t9 k9))
local macro_rules | `(tactic| walk_at "pv_call") => `(tactic| (refine evalCallR ?_; k_fold; k_steps; refine callWithR_K (K := Mine.hd.heap_39 w.params) (by k_is) ?_; k_fold; k_steps; refine pv_spec (by k_asm) (by k_asm) (by k_asm) (by k_asm) (by k_asm) rfl (by ktr_room) (by ktr_units) (by first | (with_reducible assumption) | omega) (by first | (with_reducible assumption) | omega) ?_; intro t9 h9 tk9 F9 N9))
theorem putr_spec {l : Addr} {vs0 : List Value} {nn : Nat} {d lo hi : Int} {td : Tok} {R : List (Int × Int)} (B : Below A₀ base outer h₀) (F : Fr h₀ L s.heap m) (X : (Mine.hd.heap_39 w.params).In h₀) (N : News h₀ L s.heap news) (T : Top p loose mean mg mb h₀) (hk : cs.kind = .function) (hd : dp + 3 < recursionLimit) (hu : un + 24 < cLine)
  (hl : (l, listOf (List.toArray vs0) nn) ∈ news) (hD : DatAll news vs0 (pd ((lo, hi) :: R))) (hR : R.length < 1000)
  (hd0 : 0 ≤ d) (hd1 : d < 4611686018427387904) (hh0 : 0 ≤ hi) (hh1 : hi < 4611686018427387904) (hf0 : 0 ≤ hi - lo) (hf1 : hi - lo < 4611686018427387904)
  (hg : ∀ q ∈ gp lo R, (0 ≤ q.1 ∧ q.1 < 4611686018427387904) ∧ 0 ≤ q.2 ∧ q.2 < 4611686018427387904)
  (ret : ∀ t h' tk', Fr h₀ L h' m → News h₀ L h' news → Q (.bytes (packed d lo hi R).toArray t) { s with heap := h', toks := tk' }) :
  wpR (model (PySem.Challenge.rw_no0056_01.row.prog) w) (ktrTop dp un (some []) cn cs L a ccd cl outer) (call (.ref 77) [.int d td, .ref l]) Q E s := by
  have le1 := enc_len d
  have le2 := enc_len hi
  have le3 := enc_len (hi - lo)
  have le4 := enc_len (R.length : Int)
  refine wpR_call ?_
  revert X
  w_top off
  k_fill
  intro X
  k_dflt (refine' code_defR ?k1 ?k2 ?k3 ?k4 ?k5 ?kA ?kF ?kK ?k6 ?k7 ?k8 ?k9 ?kB ?_ ?c2 ?c3 ?c4 ?c5; (case kA => exact rfl); (case kF => exact rfl); (case kK => assumption); (case k1 => k_asm); (case k2 => k_asm); (case k3 => k_asm); (case k4 => k_asm); (case k5 => k_asm); (case k6 => k_is); (case k7 => k_is); (case k8 => ktr_room); (case k9 => exact BindsTo.of_eq rfl); (case c5 => decide); (case kB => exact locs rfl); (case c2 => exact rfl); (case c3 => exact rfl); (case c4 => exact rfl); k_whole; intro _ _ _ _ _ _ _ _ _; (try dsimp only))
  refine wpR_execsA ?_
  k_fold
  k_steps
  repeat' (first | ((k_here; (with_reducible show wpAny _ _ (call (Value.ref 63) _ _) _ _ _); k_dflt (refine' gaps_spec (by k_asm) (by k_asm) (by k_asm) (by k_asm) (by k_asm) (by first | exact rfl | assumption) (by ktr_room) (by ktr_units) (by k_mem) (by assumption) (by assumption) ?_; k_whole); intro _ _ _ _ _ _ _ _ _ _ _ _); (try k_steps)))
  rename_i T1 f1 fvs1 kk tA tB tl1 hx9 tkx D1 h4 h3 h2 h1 F1 N1
  have hfl := pl_len (by assumption : DatAll _ _ (pd (gp lo R)))
  rw [gp_len] at hfl
  refine wpR_execsR (wpR_AssignName (wpR_BinOp (wpR_BinOp (wpR_BinOp ?_))))
  walk_at "pv_call"
  walk_at "pv_call"
  walk_at "pv_add"
  walk_at "pv_call"
  walk_at "pv_add"
  walk_at "pv_call"
  walk_at "pv_add"
  k_fold
  k_steps
  repeat' (first | ((k_here; (with_reducible show wpAny _ _ (call (Value.ref 63) _ _) _ _ _); k_dflt (refine' gaps_spec (by k_asm) (by k_asm) (by k_asm) (by k_asm) (by k_asm) (by first | exact rfl | assumption) (by ktr_room) (by ktr_units) (by k_mem) (by assumption) (by assumption) ?_; k_whole); intro _ _ _ _ _ _ _ _ _ _ _ _); (try k_steps)))
  rename_i tpre kpre h6 F6 N6
  have hpre : (enc hi ++ enc d ++ enc (R.length : Int) ++ enc (hi - lo)).length ≤ 32 := by simp only [List.length_append]; omega
  have gl := gp_len lo R
  refine wpR_execsR ?_
  refine for_listR (l := f1) (vs := fvs1) (nn := kk) (m₀ := _) (news := (T1, { cls := Value.type "tuple", data := Data.seq #[Value.int hi tA, Value.int (hi - lo) tB, Value.ref f1] }) :: (f1, W.listOf fvs1.toArray kk) :: (tl1 ++ news))
    (fun i m nx => nx = (T1, { cls := Value.type "tuple", data := Data.seq #[Value.int hi tA, Value.int (hi - lo) tB, Value.ref f1] }) :: (f1, W.listOf fvs1.toArray kk) :: (tl1 ++ news) ∧ i ≤ R.length ∧ ∃ t, m (Str.ofString "found") = some (.bytes ((enc hi ++ enc d ++ enc (R.length : Int) ++ enc (hi - lo)) ++ encs ((gp lo R).take i)).toArray t))
    rfl ?_ (List.mem_cons_of_mem _ List.mem_cons_self) F6 N6 ?_ ⟨rfl, Nat.zero_le _, tpre, ?_⟩ ?_ ?_
  · k_fold
    k_steps
    repeat' (first | ((k_here; (with_reducible show wpAny _ _ (call (Value.ref 63) _ _) _ _ _); k_dflt (refine' gaps_spec (by k_asm) (by k_asm) (by k_asm) (by k_asm) (by k_asm) (by first | exact rfl | assumption) (by ktr_room) (by ktr_units) (by k_mem) (by assumption) (by assumption) ?_; k_whole); intro _ _ _ _ _ _ _ _ _ _ _ _); (try k_steps)))
  · rintro i m nx ⟨rfl, _⟩
    exact List.mem_cons_of_mem _ List.mem_cons_self
  · simp only [List.take_zero, encs, List.append_nil]
    rfl
  · intro i v m₁ nx h tk I o hv hJ9 hI Fz Nz
    refine byGoal fun P9 d9 => ?_
    obtain ⟨rfl, hile, tb, mb1⟩ := hJ9
    obtain ⟨t1, k1, tx1, ty1, x1, y1, rfl, hm1, hR1⟩ := pl_get D1 hv
    have F₂ := fr_put Fz mb1
    refine d9 ?_
    clear d9 P9
    clear Fz F6 N6
    k_steps
    repeat' (first | ((k_here; (with_reducible show wpAny _ _ (call (Value.ref 63) _ _) _ _ _); k_dflt (refine' gaps_spec (by k_asm) (by k_asm) (by k_asm) (by k_asm) (by k_asm) (by first | exact rfl | assumption) (by ktr_room) (by ktr_units) (by k_mem) (by assumption) (by assumption) ?_; k_whole); intro _ _ _ _ _ _ _ _ _ _ _ _); (try k_steps)))
    obtain ⟨⟨q1, q2⟩, q3, q4⟩ := hg (x1, y1) (List.mem_of_getElem? hR1)
    dsimp only at q1 q2 q3 q4
    have hi' := (List.getElem?_eq_some_iff.mp hR1).1
    have le6 := encs_len ((gp lo R).take i)
    have le7 := enc_len x1
    have le8 := enc_len y1
    rw [List.length_take] at le6
    refine wpR_execsR (wpR_AssignName (wpR_BinOp (wpR_BinOp (wpR_of ?_))))
    k_fold
    k_steps
    repeat' (first | ((k_here; (with_reducible show wpAny _ _ (call (Value.ref 63) _ _) _ _ _); k_dflt (refine' gaps_spec (by k_asm) (by k_asm) (by k_asm) (by k_asm) (by k_asm) (by first | exact rfl | assumption) (by ktr_room) (by ktr_units) (by k_mem) (by assumption) (by assumption) ?_; k_whole); intro _ _ _ _ _ _ _ _ _ _ _ _); (try k_steps)))
    walk_at "pv_call"
    walk_at "pv_add"
    walk_at "pv_call"
    walk_at "pv_add"
    k_fold
    k_steps
    repeat' (first | ((k_here; (with_reducible show wpAny _ _ (call (Value.ref 63) _ _) _ _ _); k_dflt (refine' gaps_spec (by k_asm) (by k_asm) (by k_asm) (by k_asm) (by k_asm) (by first | exact rfl | assumption) (by ktr_room) (by ktr_units) (by k_mem) (by assumption) (by assumption) ?_; k_whole); intro _ _ _ _ _ _ _ _ _ _ _ _); (try k_steps)))
    refine wpR_execs_nil ?_
    rename_i FZ NZ
    refine ⟨_, _, _, _, rfl, FZ, NZ, fun p hp q hq => by rw [List.mem_singleton.mp hq]; exact hI p hp, rfl, by omega, ?_⟩
    rw [take_snoc hR1, encs_snoc]
    simp only [List.append_assoc]
    exact ⟨_, rfl⟩
  · intro m₁ nx h tk hJ9 Fz Nz
    refine byGoal fun P9 d9 => ?_
    obtain ⟨rfl, hile, tb, mb1⟩ := hJ9
    have F₂ := fr_put Fz mb1
    refine d9 ?_
    clear d9 P9
    clear Fz F6 N6
    refine wpR_execsR (wpR_Return (wpR_of ?_))
    k_fold
    k_steps
    repeat' (first | ((k_here; (with_reducible show wpAny _ _ (call (Value.ref 63) _ _) _ _ _); k_dflt (refine' gaps_spec (by k_asm) (by k_asm) (by k_asm) (by k_asm) (by k_asm) (by first | exact rfl | assumption) (by ktr_room) (by ktr_units) (by k_mem) (by assumption) (by assumption) ?_; k_whole); intro _ _ _ _ _ _ _ _ _ _ _ _); (try k_steps)))
    have e9 : fvs1.length = (gp lo R).length := by omega
    rw [e9, List.take_length]
    exact ret _ _ _ (by assumption) (news_sub _ (by assumption) (by kqd_sub))
end
end

/-! part RL -/
section
set_option maxHeartbeats 8000000
/-- entry of a def with cells, by the restricted judgement -/
theorem callR_cells {prog : Program} {w : World} {A : Around} {R : Result → Shared → Prop} {s : Shared} {name : Str} {params : Arguments} {body : List Stmt} {scope : Scope}
    {pm cd doc : Value} {a : Addr} {o : Obj} {args : List Value} {binds : List (Str × Value)}
    (hroom : A.depth < recursionLimit) (ho : s.heap.get? a = some o) (hdata : o.data = .func (_root_.PySem.Calls.docDef name params body scope pm cd doc)) (hlim : s.heap.NoLimit) (hcd : s.heap.CodeRec cd name)
    (hbind : bindArgs (_root_.PySem.Calls.docDef name params body scope pm cd doc) ⟨args, []⟩ = pure binds)
    (hkind : ∀ x ∈ binds, scope.names.lookup x.1 = some .local ∨ (scope.names.lookup x.1 = some .cell ∧ ((cellsFrom (s.heap.objs.size + 1) scope.names []).lookup x.1).isSome = true))
    (hnd : ((cellsFrom 0 scope.names []).map (·.1)).Nodup)
    (h : ∀ h₁ tk cells, Fr s.heap s.heap.objs.size h₁ (bindL (envOfC name scope s.heap.objs.size a cd).kindOf binds fun _ => none) → News s.heap s.heap.objs.size h₁ cells →
      CellsAre (bindC (envOfC name scope s.heap.objs.size a cd).kindOf binds fun _ => none) (cellsFrom (s.heap.objs.size + 1) scope.names []) cells →
      wpR (model prog w) (A.deeper (envOfC name scope s.heap.objs.size a cd)) (execs body (envOfC name scope s.heap.objs.size a cd))
        (fun f s' => R (.ok (.ret (match f with | .ret v => v | _ => .none))) s')
        (fun e s' => wpAny (model prog w) (A.deeper (envOfC name scope s.heap.objs.size a cd)) (leaving (envOfC name scope s.heap.objs.size a cd) e)
          (fun _ s'' => R (.error e) s'') (fun e' s'' => R (.error e') s'') s')
        { s with heap := h₁, toks := tk })
    (hco : scope.isCoroutine = false := by rfl) (hgen : scope.isGenerator = false := by rfl) (hk : scope.kind = .function := by rfl) :
    codeR (model prog w) A (.call (.ref a) ⟨args, []⟩) R s := by
  refine codeR_enter hroom ho hdata hco hgen rfl hcd ?_
  rw [hbind]
  refine wpAny_pure (wpAny_newFunctionEnv_cells hk hkind fun env he s' x => ?_)
  subst he
  refine ⟨hlim.keeps x.toInCall.keep, codeR_func ?_⟩
  obtain ⟨h₁, tk, rfl, _⟩ := x.done
  have C : Cl s.heap.objs.size (cellsFrom (s.heap.objs.size + 1) scope.names []) h₁ (bindC (envOfC name scope s.heap.objs.size a cd).kindOf binds fun _ => none) := ⟨x.cell, x.apart, x.above⟩
  obtain ⟨cells, N, Y⟩ := Cl.news (h₀ := s.heap) (Nat.le_refl _) fun n c hm => ⟨C.cell n c (lookup_of_mem_nodup (cellsFrom_names scope.names 0 (s.heap.objs.size + 1) [] [] rfl ▸ hnd) hm), C.above n c hm⟩
  exact h h₁ tk cells ⟨x.toInCall.ns, x.toInCall.keep, x.toInCall.fresh⟩ N Y
theorem enter_callR {M : Model} {A : Around} {s : Shared} {f : Value} {pos : List Value} {kw : List (Str × Value)} {c : ClaimW} {cl : Str → Option Addr} {mean : ExcName → Option Value} {args : List WData} {s₁ : Shared}
    (h : codeR M A (.call f ⟨pos, kw⟩) (GoodWG c cl mean args s₁) s) : wpR M A (call f pos kw) (fun v s' => GoodWG c cl mean args s₁ (.ok (.ret v)) s') (fun e s' => GoodWG c cl mean args s₁ (.error e) s') s :=
  wpR_call (codeR_mono h fun res s' g => by rcases g.1 with ⟨v, _, _, rfl, _⟩ | ⟨e, _, _, rfl, _⟩ <;> exact g)
end

/-! part R6 -/
section
set_option maxHeartbeats 8000000
section
variable {prog : Program} {w : World} {A : Around} {E : Value → Shared → Prop} {s : Shared} {env : Env} {h₀ : Heap} {L : Addr} {m : Str → Option Value} {news : List (Addr × Obj)}

theorem compStartR {elt target iter : PySem.Expr} {ifs : List PySem.Expr} {rest : List Comprehension} {scope : Scope} {pos : Pos} {it acc : Value} {R : Result → Shared → Prop}
    (h0 : codeR (model prog w) A (.compLoop (.ListComp elt (⟨target, iter, ifs, 0⟩ :: rest) scope pos) 0 it acc env) R s)
    (h : wpAny (model prog w) A (pyIter it) (fun it' s' => codeR (model prog w) A (.compLoop (.ListComp elt (⟨target, iter, ifs, 0⟩ :: rest) scope pos) 0 it' acc env) R s') NoE s) :
    codeR (model prog w) A (.compStart (.ListComp elt (⟨target, iter, ifs, 0⟩ :: rest) scope pos) 0 it acc env) R s := by
  refine codeR_of_tree rfl (wpR_of ?_)
  show wpAny _ A ((compStart (.ListComp elt (⟨target, iter, ifs, 0⟩ :: rest) scope pos) 0 it acc env).onRaise (fun x => do noteFrame x env; standAt theWindowsPlace)) _ _ s
  refine wpAny_onRaise (wpAny_mono (E := NoE) ?_ (fun _ _ q => q) fun _ _ x => x.elim)
  unfold compStart
  show wpAny _ _ (ask >>= _) _ _ s
  refine wpAny_bind (wpAny_askSetting (wpAny_ite ?_))
  split
  · first
      | exact wpAny_bind (wpAny_pure (wpAny_pure (And.intro rfl h0)))
      | exact wpAny_pure (And.intro rfl h0)
  · refine wpAny_bind (wpAny_rule ?_)
    show wpAny _ _ (standAt iter.pos >>= _) _ _ s
    exact wpAny_bind (wpAny_standAt (wpAny_bind (wpAny_mono h (fun it' s' h' => wpAny_pure (And.intro rfl h')) fun _ _ x => x)))

theorem compLoopR {elt target iter : PySem.Expr} {scope : Scope} {pos : Pos} {it acc : Value} {R : Result → Shared → Prop} (I : Nat → Shared → Prop)
    (turn : ∀ n s, I n s → wpAny (model prog w) A (pyNext it) (fun r s₁ => match r with
      | none => R (.ok .next) s₁
      | some v => wpAny (model prog w) A (assign target env v) (fun _ s₂ => wpR (model prog w) A (eval elt env) (fun x s₃ =>
          wpAny (model prog w) A (call (.builtin "list.append") [acc, x]) (fun _ s₄ => ∃ m, m < n ∧ I m s₄) NoE s₃) NoE s₂) NoE s₁) NoE s)
    (n : Nat) (h : I n s) (ht : ∀ v, letOwnedTupleGo target it v = pure () := by intro _; rfl) :
    codeR (model prog w) A (.compLoop (.ListComp elt [⟨target, iter, [], 0⟩] scope pos) 0 it acc env) R s := by
  induction n using Nat.strongRecOn generalizing s with
  | ind n ih =>
    refine codeR_of_tree rfl ?_
    show wpR _ A ((compTurn (.ListComp elt [⟨target, iter, [], 0⟩] scope pos) 0 it acc env).onRaise (fun x => do noteFrame x env; theTreesLotGoes x)) _ _ s
    refine wpR_onRaise (wpR_mono (E := NoE) ?_ (fun _ _ q => q) fun _ _ x => x.elim)
    rw [compTurn_list1]
    refine wpR_bindA (wpAny_standAt (wpR_bindA (wpAny_mono (turn n s h) (fun r s₁ h₁ => ?_) fun _ _ h' => h')))
    cases r with
    | none => exact wpR_pure h₁
    | some v =>
      refine wpR_bindA (wpAny_of_eq (ht v) ?_)
      refine wpR_bindA (wpAny_mono h₁ (fun _ s₂ h₂ => ?_) fun _ _ h' => h')
      refine wpR_bind (wpR_bind (wpR_mono h₂ (fun x s₃ h₃ => ?_) fun _ _ h' => h'))
      refine wpR_bindA (wpAny_mono h₃ (fun _ s₄ h₄ => ?_) fun _ _ h' => h')
      obtain ⟨k, hk, hI⟩ := h₄
      exact wpR_pure (wpR_pure ⟨rfl, ih k hk hI⟩)

end
end

/-! part R7 -/
section
set_option maxHeartbeats 8000000
theorem news_cons {h₀ h : Heap} {L a : Addr} {o : Obj} {l : List (Addr × Obj)} (h1 : h.get? a = some o) (h2 : a ≠ L) (h3 : h₀.get? a = none) (N : News h₀ L h l) : News h₀ L h ((a, o) :: l) := List.forall_mem_cons.mpr ⟨⟨h1, h2, h3⟩, N⟩
def CEnd (s : Shared) (h₀ : Heap) (L C D : Addr) (m : Str → Option Value) (news : List (Addr × Obj)) (n : Nat) (P : Nat → Value → Prop) (r : Result) (s' : Shared) : Prop := match r with
  | .ok _ => ∃ h tk m' ys, s' = { s with heap := h, toks := tk } ∧ ys.length = n ∧ (∀ j y, ys[j]? = some y → P j y) ∧ h.Ns C m' ∧ Fr h₀ L h m ∧ News h₀ L h ((D, LCg.lst ys) :: news)
  | .error _ => False
def CTurn (s : Shared) (h₀ : Heap) (L C D I : Addr) (m : Str → Option Value) (news : List (Addr × Obj)) (n : Nat) (P : Nat → Value → Prop) (a₀ : Int) (k : Nat) (s' : Shared) : Prop :=
  ∃ h tk i ys m', s' = { s with heap := h, toks := tk } ∧ i ≤ n ∧ k = n + 1 - i ∧ ys.length = i ∧ (∀ j y, ys[j]? = some y → P j y) ∧ IsRangeIter h I (a₀ + (i : Nat) * 1) ((n : Int) - (i : Nat)) 1 ∧ h.Ns C m' ∧ Fr h₀ L h m ∧ News h₀ L h ((D, LCg.lst ys) :: news)
section
variable {prog : Program} {w : World} {A : Around} {E : Value → Shared → Prop} {s : Shared} {env : Env} {h₀ : Heap} {L : Addr} {m : Str → Option Value} {news : List (Addr × Obj)}
theorem comp_loopR {elt iter : PySem.Expr} {x : Str} {px : Pos} {scope : Scope} {pos : Pos} {P : Nat → Value → Prop} {n : Nat} {a₀ : Int} {ce : Env} {C D I : Addr} {H : Heap} {tk : Nat} {mc : Str → Option Value}
    (hC : ce.locals = C) (hx : ce.kindOf x = some .local) (hkc : (ce.scope.kind == .class || (ce.scope.kind == .module && ce.locals != ce.globals)) = false) (hh : A.handled = none) (hsz : n ≤ sizeLine)
    (hI0 : h₀.get? I = none) (hIL : I ≠ L) (hC0 : h₀.get? C = none) (hCL : C ≠ L) (hD0 : h₀.get? D = none) (hDL : D ≠ L) (hCD : C ≠ D) (hCI : C ≠ I) (hDI : D ≠ I) (offs : ∀ p ∈ news, p.1 ≠ I ∧ p.1 ≠ C ∧ p.1 ≠ D)
    (hns : H.Ns C mc) (F : Fr h₀ L H m) (N : News h₀ L H ((D, LCg.lst []) :: news)) (hst : IsRangeIter H I (a₀ + (0 : Nat) * 1) ((n : Int) - (0 : Nat)) 1)
    (turn : ∀ (i : Nat) (t : Tok) (oI : Obj) (oC : Obj) (m₂ : Str → Option Value) ys h tk, i < n → LCg.NsObj oC m₂ → m₂ x = some (.int (a₀ + (i : Int)) t) → Fr h₀ L h m → News h₀ L h ((I, oI) :: (C, oC) :: (D, LCg.lst ys) :: news) →
      wpR (model prog w) A (eval elt ce) (fun y s₄ => P i y ∧ ∃ h' tk', s₄ = { s with heap := h', toks := tk' } ∧ Fr h₀ L h' m ∧ News h₀ L h' ((I, oI) :: (C, oC) :: (D, LCg.lst ys) :: news)) NoE { s with heap := h, toks := tk }) :
    codeR (model prog w) A (.compLoop (.ListComp elt [⟨.Name x px, iter, [], 0⟩] scope pos) 0 (.ref I) (.ref D) ce) (CEnd s h₀ L C D m news n P) { s with heap := H, toks := tk } := by
  subst hC
  have W := LCg.range_walks (prog := prog) (w := w) (A := A) (I := I) hh a₀ n
  refine compLoopR (CTurn s h₀ L ce.locals D I m news n P a₀)
    ?_ (n + 1) ⟨H, _, 0, [], _, rfl, Nat.zero_le _, rfl, rfl, fun j y e => by simp at e, ?_, hns, F, N⟩
  · intro k s' q
    refine byGoal fun P9 d9 => ?_
    obtain ⟨h, tk, i, ys, m', rfl, hi, rfl, hyl, hP, hit, hns, FZ, NZ⟩ := q
    refine d9 ?_
    clear d9 P9
    by_cases hlt : i < n
    · refine W.item i _ _ _ hlt hit fun v h₂ tk₂ hPv hst₂ hk₂ => ?_
      obtain ⟨t, rfl⟩ := hPv
      refine wpAny_assign_Name (wpAny_storeName_local hx (hns.at' fun o e => hk₂ _ o (by simpa using hCI) e) (fun h₃ hn₃ hs₃ => ?_) hkc)
      have hit₃ : IsRangeIter h₃ I (a₀ + ((i + 1 : Nat) : Int) * 1) ((n : Int) - ((i + 1 : Nat) : Int)) 1 := W.frame _ _ _ hst₂ fun b hb o e => hs₃.extBut b o (by rw [List.mem_singleton.mp hb]; exact Ne.symm hCI) e
      obtain ⟨oI, heI⟩ : ∃ oI, h₃.get? I = some oI := ⟨_, hit₃⟩
      obtain ⟨oC, heC, hoC⟩ := LCg.ns_obj hn₃
      have F₃ : Fr h₀ L h₃ m := (LCg.fr_but FZ hk₂ (Ne.symm hIL) hI0).change hs₃ hCL hC0
      have N₂ : News h₀ L h₂ ((D, LCg.lst ys) :: news) := LCg.news_but NZ hk₂ (List.forall_mem_cons.mpr ⟨hDI, fun p hp => (offs p hp).1⟩)
      have offD' : ∀ p ∈ (D, LCg.lst ys) :: news, p.1 ≠ ce.locals := List.forall_mem_cons.mpr ⟨Ne.symm hCD, fun p hp => (offs p hp).2.1⟩
      have N₃ : News h₀ L h₃ ((I, oI) :: (ce.locals, oC) :: (D, LCg.lst ys) :: news) := news_cons heI hIL hI0 (news_cons heC hCL hC0 fun p hp => ⟨hs₃.extBut _ _ (offD' p hp) (N₂ p hp).1, (N₂ p hp).2⟩)
      refine wpR_mono (turn i t oI oC _ ys h₃ _ hlt hoC (by simp) F₃ N₃) (fun y s₄ h₄ => ?_) fun _ _ e => e
      obtain ⟨hPy, h₄, tk₄, rfl, F₄, N₄⟩ := h₄
      have zI := (N₄ (I, oI) List.mem_cons_self).1
      have zC := (N₄ (ce.locals, oC) (List.mem_cons_of_mem _ List.mem_cons_self)).1
      have zD := (N₄ (D, LCg.lst ys) (List.mem_cons_of_mem _ (List.mem_cons_of_mem _ List.mem_cons_self))).1
      have N₄' : News h₀ L h₄ news := fun p hp => N₄ p (List.mem_cons_of_mem _ (List.mem_cons_of_mem _ (List.mem_cons_of_mem _ hp)))
      have hst₄ : IsRangeIter h₄ I (a₀ + ((i + 1 : Nat) : Int) * 1) ((n : Int) - ((i + 1 : Nat) : Int)) 1 := LCg.range_st (h₀ := h₀) (L := L) (i + 1) _ _ _ news hit₃ heI zI F₄.keep N₄' trivial
      refine append_at (hsz := by show ys.toArray.size ≤ sizeLine; rw [List.size_toArray, hyl]; exact Nat.le_trans hi hsz) zD fun h₅ hs₅ hD₅ => ?_
      refine ⟨n + 1 - (i + 1), by omega, h₅, tk₄, i + 1, ys ++ [y], _, rfl, hlt, rfl, by rw [List.length_append, List.length_singleton, hyl], fun j y' e => ?_, W.frame _ _ _ hst₄ fun b hb o e => hs₅.extBut b o (by rw [List.mem_singleton.mp hb]; exact Ne.symm hDI) e,
        (hoC.ns zC).sameBut hs₅ hCD, F₄.change hs₅ hDL hD0, news_cons (hD₅.trans (congrArg some (LCg.lst_snoc ys y))) hDL hD0 fun p hp => ⟨hs₅.extBut _ _ (offs p hp).2.2 (N₄' p hp).1, (N₄' p hp).2⟩⟩
      · rw [List.getElem?_append] at e
        split at e
        · exact hP j y' e
        · rename_i hj
          have : j = i := by
            have := (List.getElem?_eq_some_iff.mp e).1
            simp at this; omega
          subst this
          rw [hyl, Nat.sub_self] at e
          simp at e
          subst e
          exact hPy
    · obtain rfl : i = n := Nat.le_antisymm hi (Nat.not_lt.mp hlt)
      refine W.done _ _ _ hit fun h₂ tk₂ hk₂ => ?_
      exact ⟨h₂, tk₂, m', ys, rfl, hyl, hP, hns.at' fun o e => hk₂ _ o (by simpa using hCI) e, LCg.fr_but FZ hk₂ (Ne.symm hIL) hI0, LCg.news_but NZ hk₂ (List.forall_mem_cons.mpr ⟨hDI, fun p hp => (offs p hp).1⟩)⟩
  · exact hst
theorem comp_assignR {elt iter : PySem.Expr} {x y₀ : Str} {px py spos : Pos} {scope : Scope} {cl : List (Str × Addr)} {pos : Pos} {Q : Flow → Shared → Prop} {P : Nat → Value → Prop} {n : Nat} {a₀ : Int}
    (hLe : env.locals = L) (hsw : swapsWith (.ListComp elt [⟨.Name x px, iter, [], 0⟩] scope pos) (some (.Name y₀ py)) spos.line env = pure true) (hy : env.kindOf y₀ = some .local) (hp : (env.scope.kind == .class || (env.scope.kind == .module && env.locals != env.globals)) = false)
    (hclos : closureFor scope env = pure cl) (hcell : ∀ y ∈ scope.names, y.2 ≠ .cell) (hkind : scope.kind = .function)
    (hnames : ∀ y ∈ scope.names, y.2 = .local → scope.names.lookup y.1 = some .local) (hx : scope.names.lookup x = some .local)
    (hh : A.handled = none) (hsz : n ≤ sizeLine)
    (hiter : wpAny (model prog w) A (eval iter env) (fun xv s₁ => ∃ r b t u v h tk, xv = .ref r ∧ s₁ = { s with heap := h, toks := tk } ∧ IsRange h r a₀ b 1 t u v ∧ Builtin.Range.small a₀ b 1 = true ∧ Builtin.Range.rangeSize a₀ b 1 = (n : Int) ∧ Fr h₀ L h m ∧ News h₀ L h news) NoE s)
    (turn : ∀ (i : Nat) (t : Tok) (I : Addr) (oI : Obj) (C : Addr) (oC : Obj) (m₂ : Str → Option Value) (D : Addr) ys h tk, i < n → LCg.NsObj oC m₂ → m₂ x = some (.int (a₀ + (i : Int)) t) → (∀ p ∈ news, p.1 ≠ I ∧ p.1 ≠ C ∧ p.1 ≠ D) → Fr h₀ L h m → News h₀ L h ((I, oI) :: (C, oC) :: (D, LCg.lst ys) :: news) →
      wpR (model prog w) A (eval elt (compEnvC scope cl C env)) (fun y s₄ => P i y ∧ ∃ h' tk', s₄ = { s with heap := h', toks := tk' } ∧ Fr h₀ L h' m ∧ News h₀ L h' ((I, oI) :: (C, oC) :: (D, LCg.lst ys) :: news)) NoE { s with heap := h, toks := tk })
    (done : ∀ D ys h tk, ys.length = n → (∀ j y, ys[j]? = some y → P j y) → (∀ p ∈ news, p.1 ≠ D) → Fr h₀ L h (fun z => if z = y₀ then some (.ref D) else m z) → News h₀ L h ((D, LCg.lst ys) :: news) → Q .next { s with heap := h, toks := tk })
    (hs : ∀ x, foldedSetIterable iter env x = pure x := by intro _; rfl) :
    wpR (model prog w) A (exec (.Assign [.Name y₀ py] (.ListComp elt [⟨.Name x px, iter, [], 0⟩] scope pos) spos) env) Q E s := by
  rw [exec_Assign_Name_used _ _ _ _ hsw]
  refine wpR_bindA (wpAny_standAt (wpR_bind ?_))
  show wpR _ A (do let _ ← comprehension (.ListComp elt [⟨.Name x px, iter, [], 0⟩] scope pos) scope env _ (newList []) false (eval iter env) (some (assign (.Name y₀ py) env))) _ _ s
  refine wpR_bind ?_
  unfold comprehension
  rw [hclos]
  show wpR _ _ (eval iter env >>= _) _ _ s
  refine wpR_bindA (wpAny_mono hiter (fun xv s₁ h₁ => ?_) fun _ _ x => x.elim)
  refine byGoal fun P done => ?_
  obtain ⟨r, b, t, u, v, h1, tk1, rfl, rfl, hr, hsm, hrn, F1, N1⟩ := h₁
  refine done ?_
  clear done P
  refine wpR_bindA (wpAny_standAt ?_)
  refine wpR_bindA (wpAny_of_eq (hs _) ?_)
  refine wpR_bindA (wpAny_holding (wpAny_pyIter_range hr hsm ?_))
  dsimp only [Option.isSome_some, ↓reduceIte]
  refine wpR_bindA (wpAny_standAt ?_)
  have hI0 : h₀.get? h1.objs.size = none := next_is_new F1
  have hIL : h1.objs.size ≠ L := Nat.ne_of_gt F1.ns.lt
  have offI : ∀ p ∈ news, p.1 ≠ h1.objs.size := fun p hp => Nat.ne_of_lt (Heap.lt_size (N1 p hp).1)
  generalize hH1 : h1.push _ = H1
  have up1 : ∀ b o, h1.get? b = some o → H1.get? b = some o := fun b o e => hH1 ▸ Heap.get?_push_of_some _ e
  have sz1 : H1.objs.size = h1.objs.size + 1 := by rw [← hH1, Heap.size_push]
  have hst : IsRangeIter H1 h1.objs.size (a₀ + (0 : Nat) * 1) ((n : Int) - (0 : Nat)) 1 := by
    show H1.get? _ = some _
    rw [← hH1, ← hrn]
    simpa using Heap.get?_push_size _ rfl
  have F2 : Fr h₀ L H1 m := F1.keeps up1
  have N2 : News h₀ L H1 news := N1.grown up1
  refine wpR_bindA (wpAny_newObj_type ?_)
  refine wpR_bindA (wpAny_pure ?_)
  dsimp only
  have hD0 : h₀.get? H1.objs.size = none := next_is_new F2
  generalize hH2 : H1.push _ = H2
  have up2 : ∀ b o, H1.get? b = some o → H2.get? b = some o := fun b o e => hH2 ▸ Heap.get?_push_of_some _ e
  have sz2 : H2.objs.size = H1.objs.size + 1 := by rw [← hH2, Heap.size_push]
  have F3 : Fr h₀ L H2 m := F2.keeps up2
  have hC0 : h₀.get? H2.objs.size = none := next_is_new F3
  refine wpR_bindA (wpAny_newFunctionEnv hcell (by intro y hy; simp at hy) (fun H3 hns3 hsb3 => ?_) hkind)
  dsimp only at hns3 hsb3 ⊢
  have lI : h1.objs.size < H1.objs.size := by rw [sz1]; exact Nat.lt_succ_self _
  have lD : H1.objs.size < H2.objs.size := by rw [sz2]; exact Nat.lt_succ_self _
  have lL : L < h1.objs.size := F1.ns.lt
  have hDL : H1.objs.size ≠ L := Nat.ne_of_gt (Nat.lt_trans lL lI)
  have hCL : H2.objs.size ≠ L := Nat.ne_of_gt (Nat.lt_trans (Nat.lt_trans lL lI) lD)
  have offs : ∀ p ∈ news, p.1 ≠ h1.objs.size ∧ p.1 ≠ H2.objs.size ∧ p.1 ≠ H1.objs.size := fun p hp => by
    have z : p.1 < h1.objs.size := Heap.lt_size (N1 p hp).1
    exact ⟨Nat.ne_of_lt z, Nat.ne_of_lt (Nat.lt_trans (Nat.lt_trans z lI) lD), Nat.ne_of_lt (Nat.lt_trans z lI)⟩
  have hCD : H2.objs.size ≠ H1.objs.size := Nat.ne_of_gt lD
  have hCI : H2.objs.size ≠ h1.objs.size := Nat.ne_of_gt (Nat.lt_trans lI lD)
  have hDI : H1.objs.size ≠ h1.objs.size := Nat.ne_of_gt lI
  have oldC : ∀ b o, H2.get? b = some o → H3.get? b = some o := fun b o e => hsb3.extBut b o (Nat.ne_of_lt (Heap.lt_size e)) (Heap.get?_push_of_some _ e)
  have F4 : Fr h₀ L H3 m := F3.keeps oldC
  have hD3 : H3.get? H1.objs.size = some (LCg.lst []) := oldC _ _ (hH2 ▸ Heap.get?_push_size _ rfl)
  have N4 : News h₀ L H3 ((H1.objs.size, LCg.lst []) :: news) := fun p hp => by
    rcases List.mem_cons.mp hp with rfl | hp
    · exact ⟨hD3, hDL, hD0⟩
    · exact ⟨oldC _ _ (up2 _ _ (N2 p hp).1), (N2 p hp).2⟩
  refine wpR_holding (wpR_bind (wpR_attempt (wpR_holding (wpR_run (codeR_mono (R := CEnd s h₀ L H2.objs.size H1.objs.size m news n P) ?_ fun r s' q => ?_)))))
  rotate_left
  · cases r with
    | error x => exact False.elim q
    | ok f =>
      refine byGoal fun P9 d9 => ?_
      obtain ⟨h, tk, m', ys, rfl, hyl, hP, hn, FZ, NZ⟩ := q
      refine d9 ?_
      clear d9 P9
      have hv : ∀ x ∈ (scope.names.filter fun x => (x.2 == .local || x.2 == .cell) && x.1 != (".0" : Str)).reverse, x.2 = .local →
          Env.kindOf (compEnvC scope cl H2.objs.size env) x.1 = some .local := fun x hx hl => lookup_relabel_local (hnames x (List.mem_filter.mp (List.mem_reverse.mp hx)).1 hl)
      have hv' : ∀ x ∈ (scope.names.filter fun x => (x.2 == .local || x.2 == .cell) && x.1 != (".0" : Str)).reverse.drop 1 ++ (scope.names.filter fun x => (x.2 == .local || x.2 == .cell) && x.1 != (".0" : Str)).reverse.take 1, x.2 = .local →
          Env.kindOf (compEnvC scope cl H2.objs.size env) x.1 = some .local := fun x hx hl => by
        rcases List.mem_append.mp hx with h1 | h1
        · exact hv x (List.mem_of_mem_drop h1) hl
        · exact hv x (List.mem_of_mem_take h1) hl
      refine wpR_of (wpAny_bind (wpAny_rule (wpAny_bind (wpAny_holding (wpAny_assign_Name (wpAny_storeName_local hy (hLe.symm ▸ FZ.ns) (fun h₂ hn₂ hs₂ => ?_) hp))))))
      rw [hLe] at hn₂ hs₂
      have FA := FZ.set hn₂ hs₂
      have NA : News h₀ L h₂ ((H1.objs.size, LCg.lst ys) :: news) := NZ.set hs₂
      refine wpAny_bind (wpAny_comp_letGo (cenv := compEnvC scope cl H2.objs.size env) hkind _ _ m' hv' (hn.sameBut hs₂ hCL) fun h' m'' _ hs' => wpAny_pure ?_)
      refine wpR_pure (wpR_pure ?_)
      refine done _ ys h' _ hyl hP (fun p hp => (offs p hp).2.2) (FA.change hs' hCL hC0) fun p hp => ⟨hs'.extBut _ _ ?_ (NA p hp).1, (NA p hp).2⟩
      rcases List.mem_cons.mp hp with rfl | hp
      · exact Ne.symm hCD
      · exact (offs p hp).2.1
  have lp := comp_loopR (iter := iter) (px := px) (pos := pos) (scope := scope) (prog := prog) (w := w) (s := s) (tk := tk1 + ([] : List (Str × Value)).length) (ce := compEnvC scope cl H2.objs.size env) rfl (lookup_relabel_local hx) (by simp [compEnvC, relabel, hkind]) hh hsz hI0 hIL hC0 hCL hD0 hDL hCD hCI hDI offs hns3 F4 N4
    ((LCg.range_walks (prog := prog) (w := w) (A := A) (I := h1.objs.size) hh a₀ n).frame _ _ _ hst fun b hb o e => oldC _ _ (up2 _ _ e)) fun i t oI oC m₂ ys h tk hi hN hm F N => turn i t _ oI _ oC m₂ _ ys h tk hi hN hm offs F N
  exact compStartR lp ((LCg.range_walks (prog := prog) (w := w) (A := A) (I := h1.objs.size) hh a₀ n).self 0 _ _ _ ((LCg.range_walks (prog := prog) (w := w) (A := A) (I := h1.objs.size) hh a₀ n).frame _ _ _ hst fun b hb o e => oldC _ _ (up2 _ _ e)) lp)
end
end

/-! part C3 -/
section
set_option maxHeartbeats 8000000
section
variable {prog : Program} {w : World} {A : Around} {E : Value → Shared → Prop} {s : Shared} {h₀ : Heap} {L l : Addr} {m : Str → Option Value} {news : List (Addr × Obj)} {vs : List Value} {n : Nat} {v : Value} {k : Int} {u : Tok} {Q : Value → Shared → Prop}
end
section
variable {w : World} {p : Program} {loose : List Str} {mean : ExcName → Option Value} {mg mb : Str → Option Value}
 {dp un : Nat} {gd : Option (List Code)} {cn : Str} {cs : Scope} {a : Addr} {ccd : Value} {cl : List (Str × Addr)} {outer : List Env} {A₀ : Around} {base h₀ : Heap} {L : Addr} {m : Str → Option Value} {news : List (Addr × Obj)} {s : Shared}
 {Q E : Value → Shared → Prop}
theorem take_spec {b c : Addr} {xs : List Value} {ns : List Int} {k z many : Int} {tk tz tm : Tok} {nb nc : Nat} {rest : List (Addr × Obj)} (B : Below A₀ base outer h₀) (F : Fr h₀ L s.heap m) (X : (Mine.hd.heap_39 w.params).In h₀) (N : News h₀ L s.heap ((b, listOf (List.toArray [.ref c, .int k tk, .int z tz]) nb) :: rest)) (T : Top p loose mean mg mb h₀) (hk : cs.kind = .function) (hd : dp + 1 < recursionLimit) (hu : un + 8 < cLine)
  (hoff : ∀ q ∈ rest, q.1 ≠ b) (hc : (c, listOf (List.toArray xs) nc) ∈ rest) (hI : IntsAre xs ns) (hk0 : 0 ≤ k) (hk1 : k < 1000) (hlen : xs.length ≤ 100) (hm : 0 < many)
  (ret : ∀ r t t1 t2 n' h' tk', 0 ≤ r → r < many → Fr h₀ L h' m → News h₀ L h' ((b, listOf (List.toArray [.ref c, .int (k + 1) t1, .int z t2]) n') :: rest) → Q (.int r t) { s with heap := h', toks := tk' }) :
  wpAny (model (PySem.Challenge.rw_no0056_01.row.prog) w) (ktrTop dp un gd cn cs L a ccd cl outer) (call (.ref 96) [.ref b, .int many tm]) Q E s := by
  refine wpAny_call ?_
  revert X
  w_top off
  k_fill
  intro X
  k_dflt ktr_enter
  k_steps
  repeat' (first | ((k_here; (with_reducible show wpAny _ _ (call (Value.builtin "len") [Value.ref _]) _ _ _); k_dflt (refine' len_led (by k_asm) (by k_mem) (by first | assumption | exact rfl) (by omega) ?_; k_whole)); (try k_steps)))
  all_goals exact ret _ _ _ _ _ _ _ (Int.fmod_nonneg_of_pos _ hm) (Int.fmod_lt_of_pos _ hm) (by assumption) (by assumption)
end
end

/-! part C4 -/
section
set_option maxHeartbeats 8000000

def Halt (P : Prop) : Prop := P
theorem halt {P : Prop} (h : Halt P) : P := h
theorem halted {P : Prop} (h : P) : Halt P := h
/-- an entry taken out of a ledger -/
inductive Rem (d : Addr) (o : Obj) : List (Addr × Obj) → List (Addr × Obj) → Prop
  | head {r} : (∀ p ∈ r, p.1 ≠ d) → Rem d o ((d, o) :: r) r
  | tail {p r r'} : p.1 ≠ d → Rem d o r r' → Rem d o (p :: r) (p :: r')
  | app {t r r'} : (∀ p ∈ t, p.1 ≠ d) → Rem d o r r' → Rem d o (t ++ r) (t ++ r')
theorem Rem.off {d : Addr} {o : Obj} : ∀ {l r : List (Addr × Obj)}, Rem d o l r → ∀ p ∈ r, p.1 ≠ d := by
  intro l r h
  induction h with
  | head h => exact h
  | tail h _ ih => exact List.forall_mem_cons.mpr ⟨h, ih⟩
  | app h _ ih => intro p hp; rcases List.mem_append.mp hp with hp | hp; exact h p hp; exact ih p hp
theorem Rem.sub {d : Addr} {o : Obj} : ∀ {l r : List (Addr × Obj)}, Rem d o l r → ∀ p ∈ (d, o) :: r, p ∈ l := by
  intro l r h
  induction h with
  | head h => exact fun p hp => hp
  | tail h _ ih =>
    intro p hp
    rcases List.mem_cons.mp hp with rfl | hp
    · exact .tail _ (ih _ List.mem_cons_self)
    · rcases List.mem_cons.mp hp with rfl | hp
      · exact List.mem_cons_self
      · exact .tail _ (ih _ (.tail _ hp))
  | app h _ ih =>
    intro p hp
    rcases List.mem_cons.mp hp with rfl | hp
    · exact List.mem_append.mpr (.inr (ih _ List.mem_cons_self))
    · rcases List.mem_append.mp hp with hp | hp
      · exact List.mem_append.mpr (.inl hp)
      · exact List.mem_append.mpr (.inr (ih _ (.tail _ hp)))
local macro_rules | `(tactic| walk_at "rem") => `(tactic| first | (refine' Rem.head (by k_all)) | (refine' Rem.tail ?a ?b; (case a => k_ne); (case b => walk_at "rem")) | (refine' Rem.app ?a ?b; (case a => assumption); (case b => walk_at "rem")))

/-- ranges, the highest first, all below lo by two -/
def Dsc : Int → List (Int × Int) → Prop
  | _, [] => True
  | lo, (x, y) :: R => 0 ≤ x ∧ x ≤ y ∧ y + 2 ≤ lo ∧ Dsc x R

theorem menuA (j : Nat) : 0 ≤ ([0, 1, 5, 63, 64, 20000] : List Int).getD j 0 ∧ ([0, 1, 5, 63, 64, 20000] : List Int).getD j 0 ≤ 20000 := by
  rcases j with _ | _ | _ | _ | _ | _ | j
  all_goals simp
theorem menuB (j : Nat) : 0 ≤ ([0, 1, 62, 63, 64, 16400] : List Int).getD j 0 ∧ ([0, 1, 62, 63, 64, 16400] : List Int).getD j 0 ≤ 16400 := by
  rcases j with _ | _ | _ | _ | _ | _ | j
  all_goals simp
theorem datAll_rev {im : List (Addr × Obj)} : ∀ {vs : List Value} {ds : List Dat}, DatAll im vs ds → DatAll im vs.reverse ds.reverse
  | _, _, .nil => .nil
  | _, _, .cons a b => by
    rw [List.reverse_cons, List.reverse_cons]
    exact DatAll.append (datAll_rev b) (.one a)
theorem rv_e (vs : List Value) : (List.toArray vs).toList.reverse = vs.reverse := rfl
theorem small_1 {a b : Int} (h : 0 ≤ a) (h1 : a < 1000) (hb : 0 ≤ b) (hb1 : b < 1000) : Builtin.Range.small a b 1 = true := small_one (by omega) (by omega) (by omega) (by omega)
theorem size_1 {b : Int} (hb : 0 < b) : Builtin.Range.rangeSize 0 b 1 = ((b.toNat : Nat) : Int) := by
  simp [Builtin.Range.rangeSize, hb]
  omega
theorem pd_rev (R : List (Int × Int)) : (pd R.reverse).reverse = pd R := by simp [pd]

def DrawJ (b c f : Addr) (k z : Int) (rest : List (Addr × Obj)) (i : Nat) (m : Str → Option Value) (nx : List (Addr × Obj)) : Prop :=
  ∃ R low tlow k' t1 t2 nb kf fvs tl, nx = (b, listOf (List.toArray [.ref c, .int k' t1, .int z t2]) nb) :: (f, listOf (List.toArray fvs) kf) :: (tl ++ rest) ∧ DatAll tl fvs (pd (List.reverse R)) ∧ R.length = i ∧ Dsc low R ∧ 0 ≤ low ∧ low ≤ 60 + 36402 * (i : Int) ∧ k ≤ k' ∧ k' ≤ k + 2 + 2 * (i : Int) ∧
    (∀ q ∈ tl ++ rest, q.1 ≠ b) ∧ (∀ q ∈ tl ++ rest, q.1 ≠ f) ∧ m (Str.ofString "low") = some (.int low tlow) ∧ m (Str.ofString "found") = some (.ref f) ∧ m (Str.ofString "box") = some (.ref b)
theorem draw_end {b c f I T : Addr} {k z k' low low' high : Int} {rest tl all : List (Addr × Obj)} {i : Nat} {R : List (Int × Int)} {fvs : List Value} {tt t1 t2 u1 u2 : Tok} {nb kf kt : Nat} {h₀ h' : Heap} {L : Addr} {m' : Str → Option Value} {s₁ : Shared} {tk : Nat} {o of ob : Obj}
    (F : Fr h₀ L h' m') (N : News h₀ L h' all) (hI : (I, o) ∈ all) (hb : (b, listOf (List.toArray [.ref c, .int k' t1, .int z t2]) nb) ∈ all) (hf : (f, listOf (List.toArray (fvs ++ [.ref T])) kf) ∈ all) (hT : (T, tup2 low u1 high u2 kt) ∈ all) (hr : ∀ q ∈ tl ++ rest, q ∈ all)
    (lTI : @Ne Nat T I) (lTb : @Ne Nat T b) (lTf : @Ne Nat T f) (offI : ∀ q ∈ (b, ob) :: (f, of) :: (tl ++ rest), q.1 ≠ I) (offb : ∀ q ∈ tl ++ rest, q.1 ≠ b) (offf : ∀ q ∈ tl ++ rest, q.1 ≠ f)
    (hfv : DatAll tl fvs (pd R.reverse)) (hi : R.length = i) (hD : Dsc low R) (h0 : 0 ≤ low) (h1 : low ≤ high) (h2 : high + 2 ≤ low') (h3 : low' ≤ 60 + 36402 * ((i + 1 : Nat) : Int)) (hk : k ≤ k') (hk' : k' ≤ k + 2 + 2 * ((i + 1 : Nat) : Int))
    (m1 : m' (Str.ofString "low") = some (.int low' tt)) (m2 : m' (Str.ofString "found") = some (.ref f)) (m3 : m' (Str.ofString "box") = some (.ref b)) :
    UnrEndW h₀ L s₁ [(I, o)] (DrawJ b c f k z rest (i + 1)) { s₁ with heap := h', toks := tk } := by
  have offb' : ∀ q ∈ (T, tup2 low u1 high u2 kt) :: (tl ++ rest), q.1 ≠ b := List.forall_mem_cons.mpr ⟨lTb, offb⟩
  have offf' : ∀ q ∈ (T, tup2 low u1 high u2 kt) :: (tl ++ rest), q.1 ≠ f := List.forall_mem_cons.mpr ⟨lTf, offf⟩
  refine ⟨h', tk, m', (b, listOf (List.toArray [.ref c, .int k' t1, .int z t2]) nb) :: (f, listOf (List.toArray (fvs ++ [.ref T])) kf) :: (((T, tup2 low u1 high u2 kt) :: tl) ++ rest), rfl, F, fun p hp => ?_, fun p hp q hq => ?_,
    (low, high) :: R, low', tt, k', t1, t2, nb, kf, fvs ++ [.ref T], (T, tup2 low u1 high u2 kt) :: tl, rfl, ?_, ?_, ⟨h0, h1, h2, hD⟩, by omega, h3, hk, hk', offb', offf', m1, m2, m3⟩
  · refine N p ?_
    rcases List.mem_cons.mp hp with rfl | hp
    · exact hI
    rcases List.mem_cons.mp hp with rfl | hp
    · exact hb
    rcases List.mem_cons.mp hp with rfl | hp
    · exact hf
    rcases List.mem_cons.mp hp with rfl | hp
    · exact hT
    exact hr _ hp
  · rw [List.mem_singleton.mp hq]
    rcases List.mem_cons.mp hp with rfl | hp
    · exact offI (b, ob) (.head _)
    rcases List.mem_cons.mp hp with rfl | hp
    · exact offI (f, of) (.tail _ (.head _))
    rcases List.mem_cons.mp hp with rfl | hp
    · exact lTI
    exact offI p (.tail _ (.tail _ hp))
  · rw [List.reverse_cons]
    exact pl_snoc (hfv.mono fun p hp => .tail _ hp) List.mem_cons_self
  · simp [hi]
section
variable {w : World} {p : Program} {loose : List Str} {mean : ExcName → Option Value} {mg mb : Str → Option Value}
 {dp un : Nat} {gd : Option (List Code)} {cn : Str} {cs : Scope} {a : Addr} {ccd : Value} {cl : List (Str × Addr)} {outer : List Env} {A₀ : Around} {base h₀ : Heap} {L : Addr} {m : Str → Option Value} {news : List (Addr × Obj)} {s : Shared}
 {Q E : Value → Shared → Prop}
theorem take_spec' {b c : Addr} {xs : List Value} {ns : List Int} {k z many : Int} {tk tz tm : Tok} {nb nc : Nat} {rest : List (Addr × Obj)} (B : Below A₀ base outer h₀) (F : Fr h₀ L s.heap m) (X : (Mine.hd.heap_39 w.params).In h₀) (N : News h₀ L s.heap news)
  (U : Rem b (listOf (List.toArray [.ref c, .int k tk, .int z tz]) nb) news rest) (T : Top p loose mean mg mb h₀) (hk : cs.kind = .function) (hd : dp + 1 < recursionLimit) (hu : un + 8 < cLine)
  (hc : (c, listOf (List.toArray xs) nc) ∈ rest) (hI : IntsAre xs ns) (hk0 : 0 ≤ k) (hk1 : k < 1000) (hlen : xs.length ≤ 100) (hm : 0 < many)
  (ret : ∀ r t t1 t2 n' h' tk', 0 ≤ r → r < many → Fr h₀ L h' m → News h₀ L h' ((b, listOf (List.toArray [.ref c, .int (k + 1) t1, .int z t2]) n') :: rest) → Q (.int r t) { s with heap := h', toks := tk' }) :
  wpAny (model (PySem.Challenge.rw_no0056_01.row.prog) w) (ktrTop dp un gd cn cs L a ccd cl outer) (call (.ref 96) [.ref b, .int many tm]) Q E s :=
  take_spec B F X (news_sub _ N U.sub) T hk hd hu U.off hc hI hk0 hk1 hlen hm ret


local macro_rules | `(tactic| walk_at "exec For Name Call cons nil") => `(tactic| (k_here; (rename Fr _ _ _ _ => lF'); (with_unfolding_all refine' For_turns lF' ?_; k_whole)))
local macro_rules | `(tactic| walk_at "subscriptTail Name Slice ref ref") => `(tactic| (k_here; (with_reducible show wpAny _ _ (subscriptTail _ (PySem.Expr.Slice none none (some _) _) (Value.ref _) (Value.ref _)) _ _ _); k_dflt (refine' krv_lit (by k_asm) (by k_asm) (by exact News.isList (by k_asm) (by k_mem)) (by exact IsPart.int _ _) (by exact rv_e _) ?_ (by with_unfolding_all rfl) (by kmk_pure) (by first | assumption | size_fits)); intro D' h' F' N' l1))
theorem drawn_spec {b c : Addr} {xs : List Value} {ns : List Int} {k z : Int} {tk tz : Tok} {nb nc : Nat} {rest : List (Addr × Obj)} (B : Below A₀ base outer h₀) (F : Fr h₀ L s.heap m) (X : (Mine.hd.heap_39 w.params).In h₀) (N : News h₀ L s.heap ((b, listOf (List.toArray [.ref c, .int k tk, .int z tz]) nb) :: rest)) (T : Top p loose mean mg mb h₀) (hk : cs.kind = .function) (hd : dp + 2 < recursionLimit) (hu : un + 16 < cLine)
  (hoff : ∀ q ∈ rest, q.1 ≠ b) (hc : (c, listOf (List.toArray xs) nc) ∈ rest) (hI : IntsAre xs ns) (hk0 : 0 ≤ k) (hk1 : k < 900) (hlen : xs.length ≤ 100)
  (ret : ∀ (R : List (Int × Int)) (M : Int) (f : Addr) (fvs : List Value) (nf : Nat) (tl : List (Addr × Obj)) k' t1 t2 n' h' tk', Dsc M R → M ≤ 300000 → 1 ≤ R.length → R.length ≤ 6 → k ≤ k' → k' ≤ k + 20 → DatAll tl fvs (pd R) → Fr h₀ L h' m →
     News h₀ L h' ((f, listOf (List.toArray fvs) nf) :: (b, listOf (List.toArray [.ref c, .int k' t1, .int z t2]) n') :: (tl ++ rest)) → (∀ q ∈ tl ++ rest, q.1 ≠ b) → f ≠ b → Q (.ref f) { s with heap := h', toks := tk' }) :
  wpAny (model (PySem.Challenge.rw_no0056_01.row.prog) w) (ktrTop dp un gd cn cs L a ccd cl outer) (call (.ref 103) [.ref b]) Q E s := by
  refine wpAny_call ?_
  revert X
  w_top off
  k_fill
  intro X
  k_dflt ktr_enter
  k_steps
  repeat' (first | ((k_here; (with_reducible show wpAny _ _ (call (Value.ref 96) _ _) _ _ _); k_dflt (refine' take_spec' (by k_asm) (by k_asm) (by k_asm) (by k_asm) (by walk_at "rem") (by k_asm) (by first | exact rfl | assumption) (by ktr_room) (by ktr_units) (by k_mem) (by assumption) (by omega) (by omega) (by assumption) (by decide) ?_; k_whole); intro _ _ _ _ _ _ _ _ _ _ _); (try k_steps)))
  rename_i lowv tlow tA1 tA2 nA hA1 tkA low0 low1 f hA2 l1f D hA3 l1D hA4 hA5 hA6 lF N1 cnt tcnt tB1 tB2 nB hB1 tkB c0 c1 F2 N2 hr tkr tr1 tr2 tr3 hrange FR NR kp
  have hbf : @Ne Nat f b := Nat.ne_of_gt l1f.1
  have hfr : ∀ q ∈ rest, q.1 ≠ f := fun q hq => Nat.ne_of_lt (tb_ltOf l1f.2 q hq)
  refine iter_Jr (n := (1 + cnt).toNat) (DrawJ b c f k z rest) rfl hrange ?_ ?_ FR (news_sub ((b, listOf (List.toArray [.ref c, .int (k + 1 + 1) tB1, .int z tB2]) nB) :: (f, listOf (List.toArray []) 0) :: ([] ++ rest)) NR (by kqd_sub)) ?_ ?_ ?_
  · exact small_1 (by omega) (by omega) (by omega) (by omega)
  · exact size_1 (by omega)
  · exact ⟨[], lowv, tlow, _, _, _, _, _, [], [], rfl, .nil, rfl, trivial, low0, by omega, by omega, by omega, hoff, hfr, rfl, rfl, rfl⟩
  · intro i t m₁ nx h tk I o hin hJ9 hI F₁ N₁
    refine byGoal fun P9 d9 => ?_
    obtain ⟨R, low, tlow1, k', t1, t2, nb', kf, fvs, tl, rfl, hfv, hRi, hDs, hl0, hl1, hk1', hk2', hob, hof, mb1, mb2, mb3⟩ := hJ9
    have F₂ := fr_put3 F₁ mb1 mb2 mb3
    have eIb := neN (hI _ List.mem_cons_self)
    have eIf := neN (hI _ (List.mem_cons_of_mem _ List.mem_cons_self))
    dsimp only at eIb eIf
    have hlen2 := pl_len hfv
    have hsz : (List.toArray fvs).size ≤ sizeLine := sz_of (by rw [hlen2, List.length_reverse]; omega)
    refine d9 ?_
    clear d9 P9
    clear F₁ FR lF F2 NR N1 N2
    k_steps
    repeat' (first | ((k_here; (with_reducible show wpAny _ _ (call (Value.ref 96) _ _) _ _ _); k_dflt (refine' take_spec' (by k_asm) (by k_asm) (by k_asm) (by k_asm) (by walk_at "rem") (by k_asm) (by first | exact rfl | assumption) (by ktr_room) (by ktr_units) (by k_mem) (by assumption) (by omega) (by omega) (by assumption) (by decide) ?_; k_whole); intro _ _ _ _ _ _ _ _ _ _ _); (try k_steps)))
    rename_i menu1 hm1 lm1 ra tra ta1 ta2 na ha tka ra0 ra1 tt1 hh4 tk1 D hh3 lD hh2 tk2 menu2 hh1 lm2 rb trb tb1 tb2 nb2 hb2 tkb rb0 rb1 tt2 hZ FZ NZ
    have ma := menuA ra.toNat
    have mb := menuB rb.toNat
    simp only [List.push_toArray] at NZ
    exact draw_end FZ NZ (by k_mem) (by k_mem) (by k_mem) (by k_mem) (by kqd_sub) (Nat.ne_of_gt lD.2.2.1) (Nat.ne_of_gt lD.1) (Nat.ne_of_gt lD.2.2.2.1) hI hob hof hfv hRi hDs hl0 (by omega) (by omega) (by omega) (by omega) (by omega) rfl rfl rfl
  · intro m₁ nx h tk hJ9 F₁ N₁
    refine byGoal fun P9 d9 => ?_
    obtain ⟨R, low, tlow1, k', t1, t2, nb', kf, fvs, tl, rfl, hfv, hRi, hDs, hl0, hl1, hk1', hk2', hob, hof, mb1, mb2, mb3⟩ := hJ9
    have F₂ := fr_put3 F₁ mb1 mb2 mb3
    have hlen2 := pl_len hfv
    have hsz : (List.toArray fvs).size ≤ sizeLine := sz_of (by rw [hlen2, List.length_reverse]; omega)
    refine d9 ?_
    clear d9 P9
    clear F₁ FR lF F2 NR N1 N2
    k_steps
    repeat' (first | ((k_here; (with_reducible show wpAny _ _ (call (Value.ref 96) _ _) _ _ _); k_dflt (refine' take_spec' (by k_asm) (by k_asm) (by k_asm) (by k_asm) (by walk_at "rem") (by k_asm) (by first | exact rfl | assumption) (by ktr_room) (by ktr_units) (by k_mem) (by assumption) (by omega) (by omega) (by assumption) (by decide) ?_; k_whole); intro _ _ _ _ _ _ _ _ _ _ _); (try k_steps)))
    rename_i D hDh FD ND lD kF kN Tc kX
    exact ret R low D fvs.reverse 0 tl k' t1 t2 nb' _ _ hDs (by omega) (by omega) (by omega) hk1' (by omega) (pd_rev R ▸ datAll_rev hfv) kF (news_sub _ kN (by kqd_sub)) hob (Nat.ne_of_gt (lD (b, _) List.mem_cons_self))
end
end

/-! part C5 -/
section
set_option maxHeartbeats 8000000

def BrkD (h₀ : Heap) (L : Addr) (s₁ : Shared) (D : (Str → Option Value) → List (Addr × Obj) → Prop) (f : Flow) (s' : Shared) : Prop :=
  f = .next ∧ ∃ h tk m nx, s' = { s₁ with heap := h, toks := tk } ∧ Fr h₀ L h m ∧ News h₀ L h nx ∧ D m nx
section
variable {prog : Program} {w : World} {A : Around} {E : Value → Shared → Prop} {s : Shared} {env : Env} {h₀ : Heap} {target : PySem.Expr} {body : List Stmt} {Q : Flow → Shared → Prop}
/-- a loop over a list that may break: D holds after the break and after the last turn -/
theorem iter_JB {l : Addr} {vs : List Value} {nn : Nat} {m₀ : Str → Option Value} {news : List (Addr × Obj)} (J : Nat → (Str → Option Value) → List (Addr × Obj) → Prop) (D : (Str → Option Value) → List (Addr × Obj) → Prop)
    (hh : A.handled = none) (hl : (l, listOf (List.toArray vs) nn) ∈ news) (F : Fr h₀ env.locals s.heap m₀) (N : News h₀ env.locals s.heap news)
    (hJl : ∀ i m nx, J i m nx → (l, listOf (List.toArray vs) nn) ∈ nx) (hj : J 0 m₀ news)
    (turn : ∀ i v m₁ nx h tk I o, vs[i]? = some v → J i m₁ nx → (∀ p ∈ nx, p.1 ≠ I) → Fr h₀ env.locals h m₁ → News h₀ env.locals h ((I, o) :: nx) →
      wpAny (model prog w) A (assign target env v) (fun _ s₃ => wpAny (model prog w) A (execs body env) (UnrPostW h₀ env.locals { s with heap := h, toks := tk } [(I, o)] (J (i + 1)) (BrkD h₀ env.locals s D)) E s₃) E { s with heap := h, toks := tk })
    (last : ∀ m nx, J vs.length m nx → D m nx)
    (done : ∀ m₁ nx h tk, D m₁ nx → Fr h₀ env.locals h m₁ → News h₀ env.locals h nx → Q .next { s with heap := h, toks := tk }) :
    wpAny (model prog w) A (pyIter (.ref l)) (fun it s₂ => TurnsAt prog w A h₀ env target body Q E it s₂) E s := by
  refine iter_J J hh hl F N hJl hj (fun i v m₁ nx h tk I o hv hJ hoff F₁ N₁ => ?_) fun m₁ nx h tk hJ F₁ N₁ => done m₁ nx h tk (last _ _ hJ) F₁ N₁
  refine wpAny_mono (turn i v m₁ nx h tk I o hv hJ hoff F₁ N₁) (fun _ s₃ h₃ => wpAny_mono h₃ (fun f s₄ q => ?_) fun _ _ e => e) fun _ _ e => e
  cases f with
  | next => exact q
  | cont => exact q
  | ret v => exact absurd q.1 (fun e => by cases e)
  | brk =>
    obtain ⟨_, h', tk', m', nx', rfl, F', N', hD⟩ := q
    exact done m' nx' h' tk' hD F' N'
end

def fitM (room : Int) : Int → Int → List (Int × Int) → Int
  | _, many, [] => many
  | size, many, (g, l) :: P => if room < size + (vs g + vs l) + vs many then many else fitM room (size + (vs g + vs l)) (many + 1) P
def fitN (d lo hi room : Int) (R : List (Int × Int)) : Nat := if room < vs hi + vs d + vs (hi - lo) + 1 then 0 else (fitM room (vs hi + vs d + vs (hi - lo)) 1 (gp lo R)).toNat
theorem fitM_cons (room size many g l : Int) (P : List (Int × Int)) : fitM room size many ((g, l) :: P) = if room < size + (vs g + vs l) + vs many then many else fitM room (size + (vs g + vs l)) (many + 1) P := rfl
theorem fitM_ge (room : Int) : ∀ (P : List (Int × Int)) (size many : Int), many ≤ fitM room size many P
  | [], _, many => by simp [fitM]
  | (g, l) :: P, size, many => by
    unfold fitM
    split
    · exact Int.le_refl _
    · exact Int.le_trans (by omega) (fitM_ge room P _ (many + 1))
theorem drop_get {α : Type} {R : List α} {i : Nat} {x : α} (h : R[i]? = some x) : R.drop i = x :: R.drop (i + 1) := by
  obtain ⟨h1, rfl⟩ := List.getElem?_eq_some_iff.mp h
  exact List.drop_eq_getElem_cons h1
theorem kp_take (vs : List Value) {k : Int} (h : 0 ≤ k) : kms_pick (List.toArray vs).toList none (some k) = vs.take k.toNat := by
  simp only [kms_pick, kms_lo, kms_hi, List.toList_toArray, List.drop_zero, Nat.sub_zero]
  rw [if_neg (by omega), List.take_eq_take_iff]
  omega

section
variable {w : World} {p : Program} {loose : List Str} {mean : ExcName → Option Value} {mg mb : Str → Option Value}
 {dp un : Nat} {gd : Option (List Code)} {cn : Str} {cs : Scope} {a : Addr} {ccd : Value} {cl : List (Str × Addr)} {outer : List Env} {A₀ : Around} {base h₀ : Heap} {L : Addr} {m : Str → Option Value} {news : List (Addr × Obj)} {s : Shared}
 {Q E : Value → Shared → Prop}
local macro_rules | `(tactic| walk_at "exec For Tuple Name cons nil") => `(tactic| (k_here; (rename Fr _ _ _ _ => lF'); (with_unfolding_all refine' For_turns lF' ?_; k_whole)))
theorem fit_spec {l : Addr} {vs0 : List Value} {nn : Nat} {d lo hi room : Int} {td tr : Tok} {R : List (Int × Int)} (B : Below A₀ base outer h₀) (F : Fr h₀ L s.heap m) (X : (Mine.hd.heap_39 w.params).In h₀) (N : News h₀ L s.heap news) (T : Top p loose mean mg mb h₀) (hk : cs.kind = .function) (hd : dp + 2 < recursionLimit) (hu : un + 16 < cLine)
  (hl : (l, listOf (List.toArray vs0) nn) ∈ news) (hD : DatAll news vs0 (pd ((lo, hi) :: R))) (hR : R.length < 1000)
  (hd0 : 0 ≤ d) (hd1 : d < 4611686018427387904) (hh0 : 0 ≤ hi) (hh1 : hi < 4611686018427387904) (hf0 : 0 ≤ hi - lo) (hf1 : hi - lo < 4611686018427387904)
  (hg : ∀ q ∈ gp lo R, (0 ≤ q.1 ∧ q.1 < 4611686018427387904) ∧ 0 ≤ q.2 ∧ q.2 < 4611686018427387904)
  (ret : ∀ f nf h' tk', Fr h₀ L h' m → News h₀ L h' ((f, listOf (List.toArray (vs0.take (fitN d lo hi room R))) nf) :: news) → Q (.ref f) { s with heap := h', toks := tk' }) :
  wpAny (model (PySem.Challenge.rw_no0056_01.row.prog) w) (ktrTop dp un gd cn cs L a ccd cl outer) (call (.ref 84) [.int d td, .ref l, .int room tr]) Q E s := by
  refine wpAny_call ?_
  revert X
  w_top off
  k_fill
  intro X
  have hz0 : (List.toArray vs0).size ≤ sizeLine := sz_of (by have := pl_len hD; rw [this, List.length_cons]; omega)
  k_dflt ktr_enter
  k_steps
  repeat' (first | ((k_here; (with_reducible show wpAny _ _ (subscriptTail _ (PySem.Expr.Slice none (some _) none _) (Value.ref _) (Value.ref _)) _ _ _); k_dflt (refine' kms_slice_lit (by k_asm) (by k_asm) (by exact News.isList (by k_asm) (by k_mem)) (by kmk_part) (by kmk_part) (by exact kp_take _ (by omega)) ?_ (by with_unfolding_all rfl) (by kmk_pure) (by assumption)); intro _ _ _ _ _); (try k_steps)) | ((k_here; (with_reducible show wpAny _ _ (call (Value.ref 49) _ _) _ _ _); k_dflt (refine' vsize_spec (by k_asm) (by k_asm) (by k_asm) (by k_asm) (by k_asm) (by first | exact rfl | assumption) (by ktr_room) (by ktr_units) (by first | (with_reducible assumption) | omega) (by first | (with_reducible assumption) | omega) ?_; k_whole); intro _ _ _ _ _); (try k_steps)) | ((k_here; (with_reducible show wpAny _ _ (call (Value.ref 63) _ _) _ _ _); k_dflt (refine' gaps_spec (by k_asm) (by k_asm) (by k_asm) (by k_asm) (by k_asm) (by first | exact rfl | assumption) (by ktr_room) (by ktr_units) (by k_mem) (by assumption) (by assumption) ?_; k_whole); intro _ _ _ _ _ _ _ _ _ _ _ _); (try k_steps)))
  · have e0 : fitN d lo hi room R = 0 := by unfold fitN; exact if_pos (by assumption)
    simp only [e0, List.take_zero] at ret
    exact ret _ 0 _ _ (by assumption) (news_sub _ (by assumption) (by kqd_sub))
  · rename_i T1 f1 fvs1 kk tA tB tl1 hA tkA D1 hh1 hh2 hh3 hh4 tkB ts1 hs1 tks1 ts2 hs2 tks2 ts3 hs3 tks3 hC tkC D2 hE l2 hF hG hH lF NF tkD hroom
    have e0 : fitN d lo hi room R = (fitM room (vs hi + vs d + vs (hi - lo)) 1 (gp lo R)).toNat := by unfold fitN; exact if_neg hroom
    have ge := fitM_ge room (gp lo R) (vs hi + vs d + vs (hi - lo)) 1
    have gl := gp_len lo R
    have fl := pl_len D1
    refine iter_JB (fun i m nx => nx = (D2, { cls := Value.type "tuple", data := Data.seq #[Value.int 1 tkC, Value.int (vs hi + vs d + vs (hi - lo)) tks3] }) :: (T1, { cls := Value.type "tuple", data := Data.seq #[Value.int hi tA, Value.int (hi - lo) tB, Value.ref f1] }) :: (f1, W.listOf fvs1.toArray kk) :: (tl1 ++ news) ∧ i ≤ R.length ∧
        ∃ size t1 t2, m (Str.ofString "size") = some (.int size t1) ∧ m (Str.ofString "many") = some (.int (1 + (i : Int)) t2) ∧ m (Str.ofString "ranges") = some (.ref l) ∧ m (Str.ofString "room") = some (.int room tr) ∧
          fitM room size (1 + (i : Int)) ((gp lo R).drop i) = fitM room (vs hi + vs d + vs (hi - lo)) 1 (gp lo R))
      (fun m nx => nx = (D2, { cls := Value.type "tuple", data := Data.seq #[Value.int 1 tkC, Value.int (vs hi + vs d + vs (hi - lo)) tks3] }) :: (T1, { cls := Value.type "tuple", data := Data.seq #[Value.int hi tA, Value.int (hi - lo) tB, Value.ref f1] }) :: (f1, W.listOf fvs1.toArray kk) :: (tl1 ++ news) ∧
        ∃ t2, m (Str.ofString "many") = some (.int (fitM room (vs hi + vs d + vs (hi - lo)) 1 (gp lo R)) t2) ∧ m (Str.ofString "ranges") = some (.ref l))
      rfl (List.mem_cons_of_mem _ (List.mem_cons_of_mem _ List.mem_cons_self)) (by assumption) (by assumption) ?_ ?_ ?_ ?_ ?_
    · rintro i m nx ⟨rfl, _⟩
      exact List.mem_cons_of_mem _ (List.mem_cons_of_mem _ List.mem_cons_self)
    · exact ⟨rfl, Nat.zero_le _, _, _, _, rfl, rfl, rfl, rfl, rfl⟩
    · intro i v m₁ nx h tk I o hv hJ9 hI F₁ N₁
      refine byGoal fun P9 d9 => ?_
      obtain ⟨rfl, hile, size, tz1, tz2, mb1, mb2, mb3, mb4, hfit⟩ := hJ9
      obtain ⟨t1, k1, tx1, ty1, x1, y1, rfl, hm1, hR1⟩ := pl_get D1 hv
      obtain ⟨⟨q1, q2⟩, q3, q4⟩ := hg (x1, y1) (List.mem_of_getElem? hR1)
      dsimp only at q1 q2 q3 q4
      have hi' := (List.getElem?_eq_some_iff.mp hR1).1
      have F₂ := fr_put4 F₁ mb1 mb2 mb3 mb4
      rw [drop_get hR1, fitM_cons] at hfit
      refine d9 ?_
      clear d9 P9
      clear F₁ lF NF
      k_steps
      repeat' (first | ((k_here; (with_reducible show wpAny _ _ (subscriptTail _ (PySem.Expr.Slice none (some _) none _) (Value.ref _) (Value.ref _)) _ _ _); k_dflt (refine' kms_slice_lit (by k_asm) (by k_asm) (by exact News.isList (by k_asm) (by k_mem)) (by kmk_part) (by kmk_part) (by exact kp_take _ (by omega)) ?_ (by with_unfolding_all rfl) (by kmk_pure) (by assumption)); intro _ _ _ _ _); (try k_steps)) | ((k_here; (with_reducible show wpAny _ _ (call (Value.ref 49) _ _) _ _ _); k_dflt (refine' vsize_spec (by k_asm) (by k_asm) (by k_asm) (by k_asm) (by k_asm) (by first | exact rfl | assumption) (by ktr_room) (by ktr_units) (by first | (with_reducible assumption) | omega) (by first | (with_reducible assumption) | omega) ?_; k_whole); intro _ _ _ _ _); (try k_steps)) | ((k_here; (with_reducible show wpAny _ _ (call (Value.ref 63) _ _) _ _ _); k_dflt (refine' gaps_spec (by k_asm) (by k_asm) (by k_asm) (by k_asm) (by k_asm) (by first | exact rfl | assumption) (by ktr_room) (by ktr_units) (by k_mem) (by assumption) (by assumption) ?_; k_whole); intro _ _ _ _ _ _ _ _ _ _ _ _); (try k_steps)))
      · rename_i FZ NZ hcond
        rw [if_pos hcond] at hfit
        refine ⟨rfl, _, _, _, _, rfl, FZ, News.tail' NZ, rfl, tz2, ?_, rfl⟩
        rw [← hfit]
        rfl
      · rename_i hcond hZ FZ NZ
        rw [if_neg hcond] at hfit
        refine ⟨_, _, _, _, rfl, FZ, NZ, fun p hp q hq => by rw [List.mem_singleton.mp hq]; exact hI p hp, rfl, by omega, ?_⟩
        have e1 : (1 + ((i + 1 : Nat) : Int)) = 1 + (i : Int) + 1 := by omega
        rw [e1]
        exact ⟨_, _, _, rfl, rfl, rfl, rfl, hfit⟩
    · rintro m nx ⟨rfl, hile, size, tz1, tz2, mb1, mb2, mb3, mb4, hfit⟩
      rw [fl, List.drop_length] at hfit
      refine ⟨rfl, tz2, ?_, mb3⟩
      rw [mb2, ← hfit, fl]
      rfl
    · intro m₁ nx h tk hJ9 F₁ N₁
      refine byGoal fun P9 d9 => ?_
      obtain ⟨rfl, tz2, mb2, mb3⟩ := hJ9
      have F₂ := fr_put2 F₁ mb2 mb3
      refine d9 ?_
      clear d9 P9
      clear F₁ lF NF
      k_steps
      repeat' (first | ((k_here; (with_reducible show wpAny _ _ (subscriptTail _ (PySem.Expr.Slice none (some _) none _) (Value.ref _) (Value.ref _)) _ _ _); k_dflt (refine' kms_slice_lit (by k_asm) (by k_asm) (by exact News.isList (by k_asm) (by k_mem)) (by kmk_part) (by kmk_part) (by exact kp_take _ (by omega)) ?_ (by with_unfolding_all rfl) (by kmk_pure) (by assumption)); intro _ _ _ _ _); (try k_steps)) | ((k_here; (with_reducible show wpAny _ _ (call (Value.ref 49) _ _) _ _ _); k_dflt (refine' vsize_spec (by k_asm) (by k_asm) (by k_asm) (by k_asm) (by k_asm) (by first | exact rfl | assumption) (by ktr_room) (by ktr_units) (by first | (with_reducible assumption) | omega) (by first | (with_reducible assumption) | omega) ?_; k_whole); intro _ _ _ _ _); (try k_steps)) | ((k_here; (with_reducible show wpAny _ _ (call (Value.ref 63) _ _) _ _ _); k_dflt (refine' gaps_spec (by k_asm) (by k_asm) (by k_asm) (by k_asm) (by k_asm) (by first | exact rfl | assumption) (by ktr_room) (by ktr_units) (by k_mem) (by assumption) (by assumption) ?_; k_whole); intro _ _ _ _ _ _ _ _ _ _ _ _); (try k_steps)))
      rw [e0] at ret
      exact ret _ _ _ _ (by assumption) (news_sub _ (by assumption) (by kqd_sub))
end
end

/-! part C6 -/
section
set_option maxHeartbeats 8000000
theorem pl_last {im : List (Addr × Obj)} : ∀ {vs : List Value} {G : List (Int × Int)} {x y : Int}, DatAll im vs (pd (G ++ [(x, y)])) → ∃ vs' t k tx ty, vs = vs' ++ [Value.ref t] ∧ (t, tup2 x tx y ty k) ∈ im ∧ vs'.length = G.length
  | vs, [], x, y, h => by
    obtain ⟨t, k, tx, ty, vs', rfl, hm, hD, hn⟩ := pl_cons h
    cases hD
    exact ⟨[], t, k, tx, ty, rfl, hm, rfl⟩
  | vs, (u, v) :: G, x, y, h => by
    obtain ⟨t, k, tx, ty, vs', rfl, hm, hD, hn⟩ := pl_cons h
    obtain ⟨vs'', t2, k2, tx2, ty2, rfl, hm2, hl⟩ := pl_last hD
    exact ⟨.ref t :: vs'', t2, k2, tx2, ty2, rfl, hm2, by simp [hl]⟩
theorem gp_get : ∀ {R : List (Int × Int)} {b : Int} {i : Nat} {g z : Int}, (gp b R)[i]? = some (g, z) → ∃ u v, R[i]? = some (u, v) ∧ g = lastb b (R.take i) - v - 2 ∧ z = v - u
  | [], _, _, _, _, h => by simp [gp] at h
  | (u, v) :: R, b, 0, g, z, h => by
    simp only [gp, List.getElem?_cons_zero, Option.some.injEq, Prod.mk.injEq] at h
    exact ⟨u, v, rfl, h.1.symm, h.2.symm⟩
  | (u, v) :: R, b, i + 1, g, z, h => by
    simp only [gp, List.getElem?_cons_succ] at h
    exact gp_get (R := R) (b := u) h
theorem lastb_eq : ∀ (R : List (Int × Int)) (lo hi : Int), ∃ G y, (lo, hi) :: R = G ++ [(lastb lo R, y)]
  | [], lo, hi => ⟨[], hi, rfl⟩
  | (x, y) :: R, lo, hi => by
    obtain ⟨G, z, e⟩ := lastb_eq R x y
    exact ⟨(lo, hi) :: G, z, congrArg ((lo, hi) :: ·) e⟩
section
variable {prog : Program} {w : World} {A : Around} {E : Value → Shared → Prop} {s : Shared} {h₀ : Heap} {L l : Addr} {m : Str → Option Value} {news : List (Addr × Obj)} {vs : List Value} {n : Nat} {v : Value} {k : Int} {u : Tok} {Q : Value → Shared → Prop}
theorem item_neg1 {value slice : PySem.Expr} (N : News h₀ L s.heap news) (hl : (l, listOf (List.toArray (vs ++ [v])) n) ∈ news) (hz : vs.length < 1000) (h : Q v s)
    (hs : subscripted slice false (.ref l) (.int (-1) u) = operate [.ref l, .int (-1) u] (getItem (.ref l) (.int (-1) u)) := by with_unfolding_all rfl) :
    wpAny (model prog w) A (subscriptTail value slice (.ref l) (.int (-1) u)) Q E s :=
  have hL : s.heap.IsList l (vs ++ [v]).toArray := News.isList N hl
  tail_any hL.typeIs slot_list_getitem.lookup (wpAny_getItem_list_neg hL (by decide) (by simp; omega) (by decide) (by simp [List.getElem?_append]; rw [show ((-1 : Int) + ((vs.length : Int) + 1)).toNat = vs.length from by omega]; simp) h) hs
end
end

/-! part C7 -/
section
set_option maxHeartbeats 1600000

inductive Code : List Int → List Int → Prop
  | nil : Code [] []
  | cons {b0 n : Int} {bs ks ns : List Int} : 0 ≤ b0 → b0 < 256 → ((bs.length : Int) + 1 = [1, 2, 4, 8].getD (b0.fdiv 64).toNat 0) → bs.foldl (fun t o => t * 256 + o) (b0.fmod 64) = n → Code ks ns → Code (b0 :: (bs ++ ks)) (n :: ns)
section
variable {w : World} {p : Program} {loose : List Str} {mean : ExcName → Option Value} {mg mb : Str → Option Value}
 {dp un : Nat} {gd : Option (List PySem.Code)} {cn : Str} {cs : Scope} {a : Addr} {ccd : Value} {cl : List (Str × Addr)} {outer : List Env} {A₀ : Around} {base h₀ : Heap} {L : Addr} {m : Str → Option Value} {news : List (Addr × Obj)} {s : Shared}
 {Q E : Value → Shared → Prop}
local macro_rules | `(tactic| walk_at "exec While Compare") => `(tactic| (k_here; (refine halt ?_)))
local macro_rules | `(tactic| walk_at "exec For Name Subscript cons nil") => `(tactic| (k_here; (rename Fr _ _ _ _ => lF'); (with_unfolding_all refine' For_invVF lF' (by exact rfl) (by exact rfl) ?_; k_whole)))
local macro_rules | `(tactic| walk_at "pyIter bytes") => `(tactic| (k_here; (refine halt ?_)))
local macro_rules | `(tactic| walk_at "binaryOp Add ref ref") => `(tactic| (k_here; (with_reducible show wpAny _ _ (binaryOp _ (Value.ref _) (Value.ref _)) _ _ _); k_dflt (refine' kmk_add_ints (by k_asm) (by k_asm) (by exact News.isList (by k_asm) (by k_mem)) (by exact News.isList (by k_asm) (by k_mem)) (by assumption) (by exact .cons _ _ .nil) ?_ (by assumption)); intro D' ws' h' F' N' l1 hI'))
theorem num_spec {b : Array UInt8} {t : Tok} {ks ns : List Int} (B : Below A₀ base outer h₀) (F : Fr h₀ L s.heap m) (X : (Mine.hd.heap_39 w.params).In h₀) (N : News h₀ L s.heap news) (T : Top p loose mean mg mb h₀) (hk : cs.kind = .function) (hd : dp + 1 < recursionLimit) (hu : un + 8 < cLine)
  (hb : KBw.bInts b = ks) (hz : ks.length ≤ 10000) (hzn : ns.length ≤ 10000) (hC : Code ks ns)
  (ret : ∀ f fvs nf h' tk', Fr h₀ L h' m → News h₀ L h' ((f, listOf (List.toArray fvs) nf) :: news) → IntsAre fvs ns → Q (.ref f) { s with heap := h', toks := tk' }) :
  wpAny (model (PySem.Challenge.rw_no0056_01.row.prog) w) (ktrTop dp un gd cn cs L a ccd cl outer) (call (.ref 110) [.bytes b t]) Q E s := by
  refine wpAny_call ?_
  revert X
  w_top off
  k_fill
  intro X
  k_dflt ktr_enter
  k_steps
  rename_i l hA l1 D hB lD hC1 hC2 hC3 FF NF
  refine halted ?_
  refine While_inv (n₀ := ns.length) (fun n m nx => ∃ l fvs nf tat dn ns' pre rest, nx = (l, listOf (List.toArray fvs) nf) :: news ∧ IntsAre fvs dn ∧ ns = dn ++ ns' ∧ n = ns'.length ∧ ks = pre ++ rest ∧ Code rest ns' ∧
      m (Str.ofString "found") = some (.ref l) ∧ m (Str.ofString "at") = some (.int ((pre.length : Nat) : Int) tat) ∧ m (Str.ofString "data") = some (.bytes b t))
    FF (news_sub ((l, listOf (List.toArray []) 0) :: news) NF (by kqd_sub)) ⟨l, [], 0, _, [], ns, [], ks, rfl, .nil, rfl, rfl, rfl, hC, rfl, rfl, rfl⟩ ?_
  intro n m₁ nx h₁ tk₁ F₁ N₁ hJ9
  refine byGoal fun P9 d9 => ?_
  obtain ⟨l', fvs, nf, tat, dn, ns', pre, rest, rfl, hI, hns, rfl, hks, hCr, mb1, mb2, mb3⟩ := hJ9
  have F₂ := fr_put3 F₁ mb1 mb2 mb3
  have hkl := congrArg List.length hks
  rw [List.length_append] at hkl
  clear F₁ FF NF
  cases hCr with
  | nil =>
    have hkl' : ks.length = pre.length := by simpa using hkl
    refine d9 ?_
    clear d9 P9
    k_steps
    rw [List.append_nil] at hns
    subst hns
    exact ret _ _ _ _ _ (by assumption) (by assumption) hI
  | cons h0 h1 hbs hfold hC' =>
    rename_i b0 n' bs ks' ns''
    have hkl' : ks.length = pre.length + 1 + bs.length + ks'.length := by simp at hkl; omega
    have hnl := congrArg List.length hns
    have hz9 : dn.length + 1 ≤ sizeLine := by rw [sizeLine_eq]; simp at hnl; omega
    refine d9 ?_
    clear d9 P9
    k_steps
    rename_i kbK
    refine halted ?_
    have hb0 : ks.getD ((pre.length : Nat) : Int).toNat 0 = b0 := by rw [hks]; simp
    have hs9 : ([1, 2, 4, 8] : List Int).getD ((ks.getD ((pre.length : Nat) : Int).toNat 0).fdiv 64).toNat 0 = (bs.length : Int) + 1 := by rw [hb0]; omega
    have hval : List.take (clipAt ks.length (((pre.length : Nat) : Int) + ([1, 2, 4, 8] : List Int).getD ((ks.getD ((pre.length : Nat) : Int).toNat 0).fdiv 64).toNat 0) - clipAt ks.length (((pre.length : Nat) : Int) + 1)) (List.drop (clipAt ks.length (((pre.length : Nat) : Int) + 1)) ks) = bs := by
      rw [hs9, show (((pre.length : Nat) : Int) + 1) = ((pre.length + 1 : Nat) : Int) from by omega, show (((pre.length : Nat) : Int) + ((bs.length : Int) + 1)) = ((pre.length + bs.length + 1 : Nat) : Int) from by omega, clipAt_nat, clipAt_nat,
        Nat.min_eq_left (by omega), Nat.min_eq_left (by omega), show pre.length + bs.length + 1 - (pre.length + 1) = bs.length from by omega, hks, show pre ++ b0 :: (bs ++ ks') = (pre ++ [b0]) ++ (bs ++ ks') from by simp,
        List.drop_left' (by simp), List.take_left' rfl]
    rw [hval] at kbK
    refine KBw.iterBytes_acc1 (y := Str.ofString "told") (fun t o => t * 256 + o) kbK rfl (by assumption) (by assumption) rfl ?_ ?_
    · intro k9 t9 a9 ta9 h9 tk9 own9 hm9 hlo9 hhi9 hoff9 F9 N9
      k_fold
      k_steps
      rename_i FZ NZ
      exact InvEndN.intro FZ NZ ⟨rfl, ⟨_, rfl⟩, by kba_same⟩ rfl (by kqd_sub) (by kqd_sub)
    · intro u9 t9 h9 tk9 F9 N9
      k_steps
      rename_i f2 ws hW lw hIw D2 hD2 lD2 hE1 FE1 NE1 hE2 hE3 FZ NZ
      rw [hb0, hfold] at hIw
      have eat : ((pre.length : Nat) : Int) + ([1, 2, 4, 8] : List Int).getD ((ks.getD ((pre.length : Nat) : Int).toNat 0).fdiv 64).toNat 0 = (((pre ++ b0 :: bs).length : Nat) : Int) := by
        rw [hs9, List.length_append, List.length_cons]; omega
      exact WhileStep.intro (n' := ns''.length) FZ (news_sub ((f2, listOf (List.toArray ws) 0) :: news) NZ (by kqd_sub)) (by simp)
        ⟨f2, ws, 0, _, dn ++ [n'], ns'', pre ++ b0 :: bs, ks', rfl, hIw, by rw [hns]; simp, rfl, by rw [hks]; simp, hC', rfl, congrArg (fun x => some (Value.int x _)) eat, rfl⟩
end
end

/-! part C8 -/
section
set_option maxHeartbeats 1600000

def flat : List (Int × Int) → List Int
  | [] => []
  | (g, z) :: P => g :: z :: flat P
theorem flat_len : ∀ P : List (Int × Int), (flat P).length = 2 * P.length
  | [] => rfl
  | (g, z) :: P => by simp [flat, flat_len P]; omega
theorem flat_get : ∀ {P : List (Int × Int)} {i : Nat} {g z : Int}, P[i]? = some (g, z) → (flat P).getD (2 * i) 0 = g ∧ (flat P).getD (2 * i + 1) 0 = z
  | [], _, _, _, h => by simp at h
  | (u, v) :: P, 0, g, z, h => by simp at h; simp [flat, h]
  | (u, v) :: P, i + 1, g, z, h => by
    have := flat_get (P := P) (i := i) (by simpa using h)
    rw [show 2 * (i + 1) = 2 * i + 1 + 1 from by omega]
    simpa [flat] using this
theorem get4 (a b c d : Int) (F : List Int) (n : Nat) : (a :: b :: c :: d :: F).getD (n + 4) 0 = F.getD n 0 := by simp
theorem gp_at : ∀ {R : List (Int × Int)} {b : Int} {i : Nat} {u v : Int}, R[i]? = some (u, v) → (gp b R)[i]? = some (lastb b (R.take i) - v - 2, v - u)
  | [], _, _, _, _, h => by simp at h
  | (x, y) :: R, b, 0, u, v, h => by simp at h; simp [gp, lastb, h]
  | (x, y) :: R, b, i + 1, u, v, h => by
    simp only [List.getElem?_cons_succ] at h
    exact gp_at (R := R) (b := x) h
theorem ints_getD : ∀ {xs : List Value} {ns : List Int}, IntsAre xs ns → ∀ i, i < xs.length → ∃ t, xs[i]? = some (.int (ns.getD i 0) t)
  | _, _, .nil, i, hi => by simp at hi
  | _, _, .cons n t r, 0, hi => ⟨t, rfl⟩
  | _, _, .cons n t r, i + 1, hi => by
    obtain ⟨u, e⟩ := ints_getD r i (by simpa using hi)
    exact ⟨u, by simpa using e⟩
section
variable {prog : Program} {w : World} {A : Around} {E : Value → Shared → Prop} {s : Shared} {h₀ : Heap} {L l : Addr} {m : Str → Option Value} {news : List (Addr × Obj)} {vs : List Value} {ns : List Int} {n : Nat} {v : Value} {k : Int} {u : Tok} {Q : Value → Shared → Prop}
theorem item_intD {value slice : PySem.Expr} (N : News h₀ L s.heap news) (hl : (l, listOf (List.toArray vs) n) ∈ news) (hI : IntsAre vs ns) (h0 : 0 ≤ k) (h1 : k < vs.length) (h2 : vs.length < 1000) (h : ∀ t, Q (.int (ns.getD k.toNat 0) t) s)
    (hs : subscripted slice false (.ref l) (.int k u) = operate [.ref l, .int k u] (getItem (.ref l) (.int k u)) := by with_unfolding_all rfl) :
    wpAny (model prog w) A (subscriptTail value slice (.ref l) (.int k u)) Q E s := by
  obtain ⟨t, e⟩ := ints_getD hI k.toNat (by omega)
  exact item_led N hl h0 (by omega) e (h t) hs
end
section
variable {w : World} {p : Program} {loose : List Str} {mean : ExcName → Option Value} {mg mb : Str → Option Value}
 {dp un : Nat} {gd : Option (List PySem.Code)} {cn : Str} {cs : Scope} {a : Addr} {ccd : Value} {cl : List (Str × Addr)} {outer : List Env} {A₀ : Around} {base h₀ : Heap} {L : Addr} {m : Str → Option Value} {news : List (Addr × Obj)} {s : Shared}
 {Q E : Value → Shared → Prop}
local macro_rules | `(tactic| walk_at "exec For Name Call cons nil") => `(tactic| (k_here; (rename Fr _ _ _ _ => lF'); (with_unfolding_all refine' For_turns lF' ?_; k_whole)))
local macro_rules | `(tactic| walk_at "call builtin:list.append") => `(tactic| (k_here; (with_reducible show wpAny _ _ (call (Value.builtin _) [Value.ref _, _]) _ _ _); k_dflt (refine' append_K (by k_asm) (by k_asm) (by k_upd) ?_ (by first | assumption | size_fits); k_whole); intro h' F' N'))
theorem told_spec {l : Addr} {vs0 : List Value} {nn : Nat} {lo hi d fi : Int} {R : List (Int × Int)} (B : Below A₀ base outer h₀) (F : Fr h₀ L s.heap m) (X : (Mine.hd.heap_39 w.params).In h₀) (N : News h₀ L s.heap news) (T : Top p loose mean mg mb h₀) (hk : cs.kind = .function) (hd : dp + 1 < recursionLimit) (hu : un + 8 < cLine)
  (hl : (l, listOf (List.toArray vs0) nn) ∈ news) (hI : IntsAre vs0 (hi :: d :: (R.length : Int) :: fi :: flat (gp lo R))) (hR : R.length < 200) (hfi : fi = hi - lo)
  (ret : ∀ f fvs nf tl h' tk', Fr h₀ L h' m → News h₀ L h' ((f, listOf (List.toArray fvs) nf) :: (tl ++ news)) → DatAll tl fvs (pd ((lo, hi) :: R)) → Q (.ref f) { s with heap := h', toks := tk' }) :
  wpAny (model (PySem.Challenge.rw_no0056_01.row.prog) w) (ktrTop dp un gd cn cs L a ccd cl outer) (call (.ref 117) [.ref l]) Q E s := by
  subst hfi
  have hvl := hI.length
  simp only [List.length_cons, flat_len, gp_len] at hvl
  refine wpAny_call ?_
  revert X
  w_top off
  k_fill
  intro X
  k_dflt ktr_enter
  k_steps
  repeat' (first | ((k_here; (with_reducible show wpAny _ _ (subscriptTail _ _ (Value.ref _) (Value.int _ _)) _ _ _); k_dflt (refine' item_intD (by k_asm) (by k_mem) (by assumption) (by omega) (by omega) (by omega) ?_ (by with_unfolding_all rfl)); intro _); (try k_steps)) | ((k_here; (with_reducible show wpAny _ _ (subscriptTail _ _ (Value.ref _) (Value.int _ _)) _ _ _); k_dflt (refine' item_neg1 (by k_asm) (by k_mem) (by assumption) ?_ (by with_unfolding_all rfl))); (try k_steps)))
  rename_i D hD9 lD f hf9 lf hG1 FG NG hG2 tkG tr1 tr2 tr3 hrange FR NR kp
  have hfD : @Ne Nat D f := Nat.ne_of_lt lf.1
  have hfn : ∀ q ∈ news, q.1 ≠ f := fun q hq => Nat.ne_of_lt (tb_ltOf lf.2.2 q hq)
  have hrange' : IsRange hG2 _ 0 (R.length : Int) 1 tr1 tr2 tr3 := hrange
  have e0 : hi - (hi - lo) = lo := by omega
  refine iter_Jr (n := R.length) (GrowJ f news (fun i => (lo, hi) :: R.take i) fun i m => i ≤ R.length ∧ m (Str.ofString "found") = some (.ref f) ∧ m (Str.ofString "numbers") = some (.ref l)) rfl hrange' (small_1 (by omega) (by omega) (by omega) (by omega)) ?_ FR
    (news_sub ((f, listOf (List.toArray [.ref D]) 0) :: ([(D, tup2 (hi - (hi - lo)) _ hi _ 0)] ++ news)) NR (by kqd_sub)) ?_ ?_ ?_
  · by_cases hz : 0 < R.length
    · exact size_1 (by omega)
    · rw [show R.length = 0 from by omega]; rfl
  · refine ⟨0, [.ref D], [(D, tup2 (hi - (hi - lo)) _ hi _ 0)], rfl, ?_, List.forall_mem_cons.mpr ⟨hfD, hfn⟩, Nat.zero_le _, rfl, rfl⟩
    have e2 : pd [(lo, hi)] = pd [(hi - (hi - lo), hi)] := by rw [e0]
    show DatAll _ _ (pd [(lo, hi)])
    rw [e2]
    exact pl_snoc (vs := []) (R := []) .nil List.mem_cons_self
  · intro i t m₁ nx h tk I o hin hJ9 hI' F₁ N₁
    refine byGoal fun P9 d9 => ?_
    obtain ⟨k, fvs, tl, rfl, hfv, hoff, hile, mb1, mb2⟩ := hJ9
    have F₂ := fr_put2 F₁ mb1 mb2
    have eI := neN (hI' _ List.mem_cons_self)
    dsimp only at eI
    have hlen := pl_len hfv
    obtain ⟨G, yy, hG⟩ := lastb_eq (R.take i) lo hi
    dsimp only at hfv hlen
    have hfv0 := hfv
    rw [hG] at hfv hlen
    obtain ⟨fvs', tq, kq, txq, tyq, rfl, hmq, hlq⟩ := pl_last hfv
    have hG2 := congrArg List.length hG
    rw [List.length_cons, List.length_append, List.length_take] at hG2
    have hz1 : fvs'.length < 1000 := by rw [hlq]; simp at hG2; omega
    have hsz : (List.toArray (fvs' ++ [Value.ref tq])).size ≤ sizeLine := sz_of (by simp; omega)
    refine d9 ?_
    clear d9 P9
    clear F₁ FR NR FG NG
    k_steps
    repeat' (first | ((k_here; (with_reducible show wpAny _ _ (subscriptTail _ _ (Value.ref _) (Value.int _ _)) _ _ _); k_dflt (refine' item_intD (by k_asm) (by k_mem) (by assumption) (by omega) (by omega) (by omega) ?_ (by with_unfolding_all rfl)); intro _); (try k_steps)) | ((k_here; (with_reducible show wpAny _ _ (subscriptTail _ _ (Value.ref _) (Value.int _ _)) _ _ _); k_dflt (refine' item_neg1 (by k_asm) (by k_mem) (by assumption) ?_ (by with_unfolding_all rfl))); (try k_steps)))
    rename_i T1 hA1 FA NA lT hB1 FZ NZ
    obtain ⟨⟨u1, u2⟩, hR2⟩ : ∃ q, R[i]? = some q := ⟨_, List.getElem?_eq_getElem hin⟩
    obtain ⟨f1, f2⟩ := flat_get (gp_at (b := lo) hR2)
    have e4 : (4 + 2 * (0 + (i : Int))).toNat = 2 * i + 4 := by omega
    have e5 : (5 + 2 * (0 + (i : Int))).toNat = 2 * i + 1 + 4 := by omega
    have a1 : lastb lo (List.take i R) - (hi :: d :: (R.length : Int) :: (hi - lo) :: flat (gp lo R)).getD (4 + 2 * (0 + (i : Int))).toNat 0 - 2 = u2 := by
      rw [e4, get4, f1]; omega
    have a2 : u2 - (hi :: d :: (R.length : Int) :: (hi - lo) :: flat (gp lo R)).getD (5 + 2 * (0 + (i : Int))).toNat 0 = u1 := by
      rw [e5, get4, f2]; omega
    refine grow_end FZ NZ (Nat.ne_of_gt lT.1) (Nat.ne_of_gt lT.2.1) hI' hoff hfv0 ?_ ⟨hin, rfl, rfl⟩
    show (lo, hi) :: R.take (i + 1) = ((lo, hi) :: R.take i) ++ [(_ , _)]
    rw [take_snoc hR2, a1, a2]
    rfl
  · intro m₁ nx h tk hJ9 F₁ N₁
    refine byGoal fun P9 d9 => ?_
    obtain ⟨k, fvs, tl, rfl, hfv, hoff, hile, mb1, mb2⟩ := hJ9
    have F₂ := fr_put2 F₁ mb1 mb2
    refine d9 ?_
    clear d9 P9
    clear F₁ FR NR FG NG
    k_steps
    repeat' (first | ((k_here; (with_reducible show wpAny _ _ (subscriptTail _ _ (Value.ref _) (Value.int _ _)) _ _ _); k_dflt (refine' item_intD (by k_asm) (by k_mem) (by assumption) (by omega) (by omega) (by omega) ?_ (by with_unfolding_all rfl)); intro _); (try k_steps)) | ((k_here; (with_reducible show wpAny _ _ (subscriptTail _ _ (Value.ref _) (Value.int _ _)) _ _ _); k_dflt (refine' item_neg1 (by k_asm) (by k_mem) (by assumption) ?_ (by with_unfolding_all rfl))); (try k_steps)))
    dsimp only at hfv
    rw [List.take_length] at hfv
    exact ret f fvs k tl _ _ (by assumption) (news_sub _ (by assumption) (by kqd_sub)) hfv
end
end

/-! part X1 -/
section
set_option maxHeartbeats 1600000
abbrev excB (t : Addr) : Obj := { cls := .ref 31, data := .fields #[.ref t, .none, .none, .none, .bool false, .none] }
section
variable {prog : Program} {w : World} {A : Around} {R : Result → Shared → Prop} {h : Heap} {g : Array GenState} {d : Drawn} {t : Nat} {os : OsState}
variable {nm q : Str} {C N I : Addr} {bs bm bmB : List Value} {hdct : Bool} {sn : List Str} {sub : List Value} {ab : Bool} {col : Option Bool} {dd : Option Addr} {k0 k1 k2 k3 k5 : Option Value} {B newId initId : String}
/-- a call of an exception class whose __init__ is a def of the text -/
theorem exc_make (F : ExcBaseFacts B newId initId bmB) (T : OwnTail h bmB bm) {mN : Str → Option Value} {rest : List Value}
    (hC : h.get? C = some (excClassObj nm q C N bs bm hdct sn sub ab col dd k0 k1 k2 k3 k5 newId)) (hn : h.Ns N mN) (hni : mN "__init__" = some (.ref I))
    (hb : ∀ self, Looks (model prog w) h (bindSpecial (.ref I) self) (.ref I, [self]))
    (hq : codeAny (model prog w) (A.under (.builtin "type.__call__" ⟨.ref C :: rest, []⟩)) (.call (.ref I) ⟨.ref (h.objs.size + 1) :: rest, []⟩) (InitBack (h.objs.size + 1) R)
      ⟨(h.push { cls := .type "tuple", data := .seq rest.toArray }).push { cls := .ref C, data := .fields #[.ref h.objs.size, .none, .none, .none, .bool false, .none] }, g, d, t, os⟩)
    (hrest : rest.length ≤ sizeLine := by size_fits) :
    codeAny (model prog w) A (.call (.ref C) ⟨rest, []⟩) R ⟨h, g, d, t, os⟩ := by
  have f1 := tc_lookup
  have f2 := tc_bind (.ref C)
  have hT : (⟨h, g, d, t, os⟩ : Shared).TypeIs (.ref C) "type" := ⟨_, hC, rfl⟩
  refine codeAny_of_tree ?_
  show wpAny _ _ (callAny (.ref C) _) _ _ _
  repeat (any_goals (first | assumption | with_reducible refine wpAny_loadPart_at hC ?_ | wp_step))
  refine ⟨rfl, ?_⟩
  refine codeAny_call_builtin_at (Code.quiet_builtin _ (by decide +kernel)) entry_typeCall (wpAny_check_type_call_sub hC ?_)
  repeat (first | with_reducible refine wpAny_loadPart_at hC ?_ | with_reducible refine wpAny_madeBy_exc hC ?_ | wp_step)
  refine codeAny_call_builtin_code (Code.quiet_builtin _ F.quiet) (wpAny_check_new_subT F T hC ?_)
  refine codeAny_exc_new_subT F T hC ?_ hrest
  show wpAny _ _ _ _ _ _
  have k : ∀ b o, h.get? b = some o → ((h.push { cls := .type "tuple", data := .seq rest.toArray }).push
      { cls := .ref C, data := .fields #[.ref h.objs.size, .none, .none, .none, .bool false, .none] }).get? b = some o := fun b o e => Heap.get?_push_of_some _ (Heap.get?_push_of_some _ e)
  have hC₁ := k _ _ hC
  have hn₁ := hn.keeps k
  have hget : ((h.push { cls := .type "tuple", data := .seq rest.toArray }).push
      { cls := .ref C, data := .fields #[.ref h.objs.size, .none, .none, .none, .bool false, .none] }).get? (h.objs.size + 1) = some
      { cls := .ref C, data := .fields #[.ref h.objs.size, .none, .none, .none, .bool false, .none] } := by heap_get
  have hcC : (Value.ref C :: bm).contains (.ref C) = true := by simp
  have T₁ := T.keeps k
  unfold isInstance
  repeat (first | with_reducible refine wpAny_loadPart_at hget ?_ | (with_reducible refine wpAny_isSubtype_exc hC₁ ?_; rw [hcC]) | wp_step)
  refine wpAny_isSubtype_exc hC₁ ?_
  rw [hcC]
  repeat wp_step
  show wpAny _ _ (typeLookup (.ref C) _) _ _ _
  refine wpAny_typeLookup_tail hC₁ hn₁ T₁ F.mroIs F.init.lookup ?_
  rw [hni]
  dsimp only
  refine wpAny_holding (wpAny_bind (((hb _).keeps k).at (wpAny_bind (wpAny_call (codeAny_mono hq fun r s' z => ?_)))))
  rcases r with e | (v | _ | _ | _) <;> first | exact z | exact z.elim | skip
  obtain ⟨rfl, z⟩ := z
  exact wpAny_pure (wpAny_pure z)
end
end

/-! part X3 -/
section
set_option maxHeartbeats 1600000
section
variable {prog : Program} {w : World} {A : Around} {E : Value → Shared → Prop} {h : Heap} {g : Array GenState} {d : Drawn} {t : Nat} {os : OsState}
variable {nm q : Str} {C N I : Addr} {bs bm bmB : List Value} {hdct : Bool} {sn : List Str} {sub : List Value} {ab : Bool} {col : Option Bool} {dd dd' : Option Addr} {k0 k1 k2 k3 k5 : Option Value} {B newId initId : String}
theorem exc_init0 (F : ExcBaseFacts B newId initId bmB) (T : OwnTail h bmB bm) {rest : List Value} {e : Addr} {a0 : Addr} {Q : Value → Shared → Prop}
    (hC : h.get? C = some (excClassObj nm q C N bs bm hdct sn sub ab col dd k0 k1 k2 k3 k5 newId))
    (hget : h.get? e = some { cls := .ref C, dict := dd', data := .fields #[.ref a0, .none, .none, .none, .bool false, .none] })
    (hq : Q .none ⟨(h.push { cls := .type "tuple", data := .seq rest.toArray }).update e (Obj.mapFields (·.setIfInBounds 0 (.ref h.objs.size))), g, d, t, os⟩)
    (hrest : rest.length ≤ sizeLine := by size_fits) : wpAny (model prog w) A (call (.builtin initId) (.ref e :: rest)) Q E ⟨h, g, d, t, os⟩ := by
  refine wpAny_call (codeAny_call_builtin F.init.plain F.initEntry (wpAny_check_init_subT F T hC hget rfl ?_))
  wp_walk
  exact hq
end
section
variable {prog : Program} {w : World} {A : Around} {E : Value → Shared → Prop} {s : Shared} {h₀ : Heap} {L : Addr} {m : Str → Option Value}
theorem exc_initL {K : Frag} {C N e a0 : Addr} {dd' : Option Addr} {nm q : Str} {bs : List Value} {hdct : Bool} {sn : List Str} {sub : List Value} {ab : Bool} {col : Option Bool} {dd : Option Addr} {k0 k1 k2 k3 k5 : Option Value} {v : Value} {rest : List (Addr × Obj)} {Q : Value → Shared → Prop}
    (X : K.In h₀) (hC : K.lookup C = some (excClassObj nm q C N bs [.type "Exception", .type "BaseException", .type "object"] hdct sn sub ab col dd k0 k1 k2 k3 k5 "Exception.__new__"))
    (F : Fr h₀ L s.heap m) (NN : News h₀ L s.heap ((e, { cls := .ref C, dict := dd', data := .fields #[.ref a0, .none, .none, .none, .bool false, .none] }) :: rest)) (off : ∀ p ∈ rest, p.1 ≠ e)
    (ret : ∀ t1 h', Fr h₀ L h' m → News h₀ L h' ((e, { cls := .ref C, dict := dd', data := .fields #[.ref t1, .none, .none, .none, .bool false, .none] }) :: (t1, { cls := .type "tuple", data := .seq (List.toArray [v]) }) :: rest) → (@LT.lt Nat _ e t1) → (∀ p ∈ rest, p.1 < t1) → Q .none { s with heap := h' }) :
    wpAny (model prog w) A (call (.builtin "Exception.__init__") [.ref e, v]) Q E s := by
  obtain ⟨h, g, d, t, os⟩ := s
  have z := NN _ List.mem_cons_self
  have X' := X.keeps F.keep
  refine exc_init0 PySem.F.excBase_Exception .base (X' _ _ hC) z.1 ?_ (Nat.le_of_ble_eq_true rfl)
  have zl : e < h.objs.size := Heap.lt_size z.1
  have F1 : Fr h₀ L (h.push { cls := .type "tuple", data := .seq (List.toArray [v]) }) m := F.push _
  have hb := Heap.SameBut.update (h := h.push { cls := .type "tuple", data := .seq (List.toArray [v]) }) (a := e) (f := Obj.mapFields (·.setIfInBounds 0 (.ref h.objs.size)))
  refine ret h.objs.size _ (F1.change hb z.2.1 z.2.2) (fun p hp => ?_) zl fun p hp => Heap.lt_size (NN p (.tail _ hp)).1
  rcases List.mem_cons.mp hp with rfl | hp
  · exact ⟨Heap.get?_update_self _ (Heap.get?_push_of_some _ z.1) rfl, z.2⟩
  · rcases List.mem_cons.mp hp with rfl | hp
    · exact ⟨hb.extBut _ _ (Nat.ne_of_gt zl) (Heap.get?_push_size _ rfl), Nat.ne_of_gt F.ns.lt, next_is_new F⟩
    · exact ⟨hb.extBut _ _ (off p hp) (Heap.get?_push_of_some _ (NN p (.tail _ hp)).1), (NN p (.tail _ hp)).2⟩
end
end

/-! part X4 -/
section
set_option maxHeartbeats 1600000
section
variable {prog : Program} {w : World} {A : Around} {E : Value → Shared → Prop} {h : Heap} {g : Array GenState} {d : Drawn} {t : Nat} {os : OsState}
variable {nm q : Str} {C N x : Addr} {bs bm : List Value} {sn : List Str} {sub : List Value} {ab : Bool} {col : Option Bool} {dd : Option Addr} {k0 k1 k2 k3 k5 : Option Value} {B newId sa owner : String}
  {mN : Str → Option Value} {name : Str} {v : Value} {o : Obj}
/-- the first store on an object that has no dict yet: where the dict comes to lie -/
theorem first_entry {tk : Tok} {Q : Fin → Shared → Prop} (SF : StoreFacts B bm sa owner)
    (hC : h.get? C = some (excClassObj nm q C N bs bm true sn sub ab col dd k0 k1 k2 k3 k5 newId)) (hn : h.Ns N mN) (hna : mN name = none)
    (hB : typeLookup (.type B) name = pure none) (hx : h.get? x = some o) (hc : o.cls = .ref C) (hnc : ∀ c, o.data ≠ .cls c) (hdn : o.dict = none)
    (hq : ∀ h' tk', h'.get? x = some { o with dict := some h.objs.size } → h'.Ns1 h.objs.size (fun y => if y = name then some v else none) → (∀ b ob, b ≠ x → h.get? b = some ob → h'.get? b = some ob) → Q (.done (.ret .none)) ⟨h', g, d, tk', os⟩) :
    wpAny (model prog w) A (Builtin.«object.__setattr__» ⟨[.ref x, .str name tk, v], []⟩) Q E ⟨h, g, d, t, os⟩ := by
  have hpass := SF.passes (.ref x)
  unfold Builtin.«object.__setattr__»
  repeat (first | rw [refuse_eq] | (rw [refuseLoop_ref, hpass]) | (with_reducible refine wpAny_loadPart_at hx ?_; rw [hc]) | with_reducible refine wpAny_mroOf_exc hC ?_ | (with_reducible refine wpAny_typeLookup_exc hC hn SF.mro hB ?_; rw [hna]) | wp_step)
  rw [hdn, if_neg (by simp [typeHasDict])]
  split
  · rename_i hcd
    cases hcd
  split
  · rename_i c hcd
    exact absurd hcd (hnc c)
  · have hx₁ : (h.push { cls := .type "dict", data := .dict #[] }).get? x = some o := Heap.get?_push_of_some _ hx
    have hxs : x ≠ h.objs.size := Nat.ne_of_lt (Heap.lt_size hx)
    refine wpAny_bind (wpAny_alloc' (wpAny_bind (wpAny_update' hx₁ (wpAny_pure ?_))))
    have hgd : ((h.push { cls := .type "dict", data := .dict #[] }).update x fun o => { cls := o.cls, dict := some h.objs.size, data := o.data, slots := o.slots }).get? h.objs.size
        = some { cls := .type "dict", data := .dict #[] } := (Heap.get?_update_ne _ _ _ _ hxs.symm).trans (Heap.get?_push_at rfl rfl)
    have hnd : ((h.push { cls := .type "dict", data := .dict #[] }).update x fun o => { cls := o.cls, dict := some h.objs.size, data := o.data, slots := o.slots }).Ns h.objs.size (fun _ => none) :=
      ⟨_, #[], _, hgd, rfl, fun e he => absurd he (by simp), fun _ => rfl⟩
    show wpAny _ _ (Builtin.ObjectAttr.storeInDict h.objs.size (.str name tk) name v) _ _ _
    unfold Builtin.ObjectAttr.storeInDict Builtin.ObjectAttr.newKeyGuard
    refine wpAny_bind (wpAny_pure (wpAny_bind (wpAny_nsSet1 (Heap.Ns1.of_empty hnd) fun h' hn' hs => ?_)))
    obtain ⟨oD, esD, epD, hoD, hdD, hcD⟩ := hn'.count (Within.cons name v Within.nil)
    refine wpAny_bind (wpAny_lookBehind hoD (by rw [hdD]; exact pastItsLine_dict (Nat.le_trans hcD (by rw [List.length_cons, List.length_nil, sizeLine_eq]; omega))) ?_)
    wp_walk
    refine hq h' _ ?_ hn' fun b ob hbx hb => (hs.2 b (Nat.ne_of_lt (Heap.lt_size hb))).trans ((Heap.get?_update_ne _ _ _ _ hbx).trans (Heap.get?_push_of_some _ hb))
    refine (hs.2 x hxs).trans (Heap.get?_update_self _ hx₁ ?_)
    have hfr := (Heap.get?_some_iff.mp hx).2
    obtain ⟨oc, od, odt, osl⟩ := o
    cases odt <;> first | rfl | exact hfr
/-- self.name = v on an object that has no dict yet -/
theorem first_attr {Q : Unit → Shared → Prop} (SF : StoreFacts B bm sa owner)
    (hC : h.get? C = some (excClassObj nm q C N bs bm true sn sub ab col dd k0 k1 k2 k3 k5 newId)) (hn : h.Ns N mN) (hns : mN "__setattr__" = none) (hna : mN name = none)
    (hB : typeLookup (.type B) name = pure none) (hx : h.get? x = some o) (hc : o.cls = .ref C) (hnc : ∀ c, o.data ≠ .cls c) (hdn : o.dict = none)
    (hq : ∀ h' tk', h'.get? x = some { o with dict := some h.objs.size } → h'.Ns1 h.objs.size (fun y => if y = name then some v else none) → (∀ b ob, b ≠ x → h.get? b = some ob → h'.get? b = some ob) → Q () ⟨h', g, d, tk', os⟩) :
    wpAny (model prog w) A (setAttr (.ref x) name v) Q E ⟨h, g, d, t, os⟩ := by
  have f3 := SF.slot.bind (.ref x)
  unfold setAttr callSpecial? specialOf
  repeat (any_goals (first | assumption | (with_reducible refine wpAny_loadPart_at hx ?_; rw [hc]) | (with_reducible refine wpAny_typeLookup_exc hC hn SF.mro SF.slot.lookup ?_; rw [hns]) | wp_step))
  refine codeAny_call_builtin SF.slot.plain SF.entry (wpAny_check_sa SF hC hx hc (first_entry SF hC hn hna hB hx hc hnc hdn fun h' tk' e1 e2 e3 => ?_))
  repeat (any_goals (first | assumption | wp_step))
  exact hq h' tk' e1 e2 e3
end
end

/-! part X5 -/
section
set_option maxHeartbeats 1600000
def DictObj (od : Obj) (mA : Str → Option Value) : Prop := ∀ (h : Heap) (a : Addr), h.get? a = some od → h.Ns1 a mA
theorem DictObj.of {h : Heap} {a : Addr} {mA : Str → Option Value} (x : h.Ns1 a mA) : ∃ od, h.get? a = some od ∧ DictObj od mA := by
  obtain ⟨o, es, ep, e1, r⟩ := x
  exact ⟨o, e1, fun h' a' e' => ⟨o, es, ep, e', r⟩⟩
section
variable {prog : Program} {w : World} {A : Around} {E : Value → Shared → Prop} {s : Shared} {h₀ : Heap} {L : Addr} {m : Str → Option Value} {K : Frag}
variable {nm q : Str} {C N : Addr} {bs : List Value} {sn : List Str} {sub : List Value} {ab : Bool} {col : Option Bool} {dd : Option Addr} {k0 k1 k2 k3 k5 : Option Value} {e dx a0 : Addr} {od : Obj} {sl : Array (Option Value)} {vs : Array Value} {v : Value} {name : Str} {mA : Str → Option Value} {rest : List (Addr × Obj)} {Q : Unit → Shared → Prop} {ns : List Str}

theorem exc_set1 (X : K.In h₀) (hC : K.lookup C = some (excClassObj nm q C N bs [.type "Exception", .type "BaseException", .type "object"] true sn sub ab col dd k0 k1 k2 k3 k5 "Exception.__new__"))
    (eok : nsOkIn K N = true) (h1 : nsIn K N "__setattr__" = some none) (h2 : nsIn K N name = some none) (hB : typeLookup (.type "Exception") name = pure none)
    (F : Fr h₀ L s.heap m) (NN : News h₀ L s.heap ((e, { cls := .ref C, dict := none, data := .fields vs, slots := sl }) :: rest)) (off : ∀ p ∈ rest, p.1 ≠ e)
    (ret : ∀ dx od h' tk', Fr h₀ L h' m → News h₀ L h' ((e, { cls := .ref C, dict := some dx, data := .fields vs, slots := sl }) :: (dx, od) :: rest) → DictObj od (fun y => if y = name then some v else none) → (@LT.lt Nat _ e dx) → (∀ p ∈ rest, p.1 < dx) → Q () { s with heap := h', toks := tk' }) :
    wpAny (model prog w) A (setAttr (.ref e) name v) Q E s := by
  obtain ⟨h, g, d, t, os⟩ := s
  have z := NN _ List.mem_cons_self
  have X' := X.keeps F.keep
  have hns : h.Ns N (h.nsMap N) := .of_isNs (isNs_of_in X' eok)
  refine first_attr PySem.F.store_Exception (X' _ _ hC) hns (ns_none_of X' hns h1) (ns_none_of X' hns h2) hB z.1 rfl (fun _ q => by cases q) rfl fun h' tk' e1 e2 e3 => ?_
  obtain ⟨od, ho, hD⟩ := DictObj.of e2
  have zl : e < h.objs.size := Heap.lt_size z.1
  refine ret h.objs.size od h' tk' ⟨F.ns.at' fun o q => e3 _ o z.2.1.symm q, fun b o q => e3 b o (fun y => by rw [y, z.2.2] at q; cases q) (F.keep b o q), F.above⟩ (fun p hp => ?_) hD zl fun p hp => Heap.lt_size (NN p (.tail _ hp)).1
  rcases List.mem_cons.mp hp with rfl | hp
  · exact ⟨e1, z.2⟩
  · rcases List.mem_cons.mp hp with rfl | hp
    · exact ⟨ho, Nat.ne_of_gt F.ns.lt, next_is_new F⟩
    · exact ⟨e3 _ _ (off p hp) (NN p (.tail _ hp)).1, (NN p (.tail _ hp)).2⟩

theorem exc_set2 (X : K.In h₀) (hC : K.lookup C = some (excClassObj nm q C N bs [.type "Exception", .type "BaseException", .type "object"] true sn sub ab col dd k0 k1 k2 k3 k5 "Exception.__new__"))
    (eok : nsOkIn K N = true) (h1 : nsIn K N "__setattr__" = some none) (h2 : nsIn K N name = some none) (hB : typeLookup (.type "Exception") name = pure none) (heC : e ≠ C)
    (F : Fr h₀ L s.heap m) (NN : News h₀ L s.heap ((e, { cls := .ref C, dict := some dx, data := .fields vs, slots := sl }) :: (dx, od) :: rest)) (hD : DictObj od mA) (hdx : dx ≠ e) (off : ∀ p ∈ rest, p.1 ≠ e) (offd : ∀ p ∈ rest, p.1 ≠ dx)
    (hw : Within mA ns) (hsz : ns.length ≤ sizeLine)
    (ret : ∀ od' h' tk', Fr h₀ L h' m → News h₀ L h' ((e, { cls := .ref C, dict := some dx, data := .fields vs, slots := sl }) :: (dx, od') :: rest) → DictObj od' (fun y => if y = name then some v else mA y) → Q () { s with heap := h', toks := tk' }) :
    wpAny (model prog w) A (setAttr (.ref e) name v) Q E s := by
  obtain ⟨h, g, d, t, os⟩ := s
  have z := NN _ List.mem_cons_self
  have zd := NN _ (List.mem_cons_of_mem _ List.mem_cons_self)
  have X' := X.keeps F.keep
  have hns : h.Ns N (h.nsMap N) := .of_isNs (isNs_of_in X' eok)
  refine store_attr (ns := ns) PySem.F.store_Exception (X' _ _ hC) hns (ns_none_of X' hns h1) (ns_none_of X' hns h2) hB heC ⟨_, z.1, rfl, (fun _ q => by cases q), .inr ⟨dx, rfl, hdx, hD _ _ zd.1⟩⟩ (fun h' tk' I e3 e4 => ?_) hw hsz
  obtain ⟨o₁, f1, f2, f3, f4, f5⟩ := e4 _ z.1
  have f6 := f5 dx rfl
  have eo : o₁ = { cls := .ref C, dict := some dx, data := .fields vs, slots := sl } := by
    obtain ⟨c, dd, da, ss⟩ := o₁
    dsimp only at f2 f3 f4 f6
    subst f2 f3 f4 f6
    rfl
  subst eo
  obtain ⟨o₂, g1, _, _, g4⟩ := I
  rw [f1] at g1
  cases g1
  have keep : ∀ b o, b ≠ e → b ≠ dx → h.get? b = some o → h'.get? b = some o := fun b o n1 n2 q => e3 b o n1 (fun o₀ dy q1 q2 => by rw [z.1] at q1; cases q1; cases q2; exact n2) q
  rcases g4 with ⟨q, _⟩ | ⟨dy, q, _, hN⟩
  · cases q
  · cases q
    obtain ⟨od', ho, hD'⟩ := DictObj.of hN
    refine ret od' h' tk' ⟨F.ns.at' fun o q => keep _ o z.2.1.symm zd.2.1.symm q, fun b o q => keep b o (fun y => by rw [y, z.2.2] at q; cases q) (fun y => by rw [y, zd.2.2] at q; cases q) (F.keep b o q), F.above⟩ (fun p hp => ?_) hD'
    rcases List.mem_cons.mp hp with rfl | hp
    · exact ⟨f1, z.2⟩
    · rcases List.mem_cons.mp hp with rfl | hp
      · exact ⟨ho, zd.2⟩
      · exact ⟨keep _ _ (off p hp) (offd p hp) (NN p (.tail _ (.tail _ hp))).1, (NN p (.tail _ (.tail _ hp))).2⟩
end
end

/-! part X2 -/
section
set_option maxHeartbeats 1600000
theorem ns_val {K : Frag} {h : Heap} {a : Addr} {mg : Str → Option Value} {n : Str} {v : Value} (X : K.In h) (G : h.Ns a mg) (e : nsIn K a n = some (some v)) : mg n = some v := by
  obtain ⟨o, es, ep, ho, hd, _, hf⟩ := G
  rw [← hf]
  unfold nsIn at e
  split at e
  · rename_i q
    have e1 := X _ _ q
    rw [ho] at e1
    cases e1
    cases hd
    split at e
    · rename_i he
      cases e
      unfold nsFind findBy
      rw [← Array.find?_toList, he]
      rfl
    · split at e <;> cases e
  · cases e
section
variable {w : World} {p : Program} {loose : List Str} {mean : ExcName → Option Value} {mg mb : Str → Option Value}
 {dp un : Nat} {gd : Option (List PySem.Code)} {cn : Str} {cs : Scope} {a : Addr} {ccd : Value} {cl : List (Str × Addr)} {outer : List Env} {A₀ : Around} {base h₀ : Heap} {L : Addr} {m : Str → Option Value} {news : List (Addr × Obj)} {s : Shared}
 {Q E : Value → Shared → Prop}
theorem meta_Exception : typeOf (.type "Exception") = pure (.type "type") := by kernel_rfl
theorem noExc_code : typeLookup (.type "Exception") (Str.ofString "code") = pure none := by rw [typeLookup_type, builtinLookup_eq_fast]; kernel_rfl
theorem noExc_ft : typeLookup (.type "Exception") (Str.ofString "frame_type") = pure none := by rw [typeLookup_type, builtinLookup_eq_fast]; kernel_rfl
theorem noExc_text : typeLookup (.type "Exception") (Str.ofString "text") = pure none := by rw [typeLookup_type, builtinLookup_eq_fast]; kernel_rfl
local macro_rules | `(tactic| walk_at "offs") => `(tactic| first | assumption | exact ltAll_ne (by assumption) | exact List.forall_mem_nil _ | (refine' List.forall_mem_cons.mpr ⟨(by first | assumption | exact Nat.ne_of_gt (by assumption) | exact Nat.ne_of_lt (by assumption)), (by walk_at "offs")⟩))
theorem quic_new {tt : Tok} {txt : Str} (htxt : txt.length ≤ 100) (B : Below A₀ base outer h₀) (F : Fr h₀ L s.heap m) (X : (Mine.hd.heap_39 w.params).In h₀) (N : News h₀ L s.heap news) (T : Top p loose mean mg mb h₀) (hk : cs.kind = .function) (hd : dp + 3 < recursionLimit) (hu : un + 24 < cLine)
  (ret : ∀ e dx od t1 t0 o1 o0 h' tk', Fr h₀ L h' m → News h₀ L h' ((e, { cls := .ref 31, dict := some dx, data := .fields #[.ref t1, .none, .none, .none, .bool false, .none] }) :: (dx, od) :: (t1, o1) :: (t0, o0) :: news) → DictObj od (fun y => if y = Str.ofString "text" then some (.str txt tt) else if y = Str.ofString "frame_type" then some (.int 2 262) else if y = Str.ofString "code" then some (.int 7 191) else none) →
    (@LT.lt Nat _ e dx) → (∀ q ∈ news, q.1 < e) → Q (.ref e) { s with heap := h', toks := tk' }) :
  wpAny (model (PySem.Challenge.rw_no0056_01.row.prog) w) (ktrTop dp un gd cn cs L a ccd cl outer) (call (.ref 31) [.int 7 191, .int 2 262, .str txt tt]) Q E s := by
  revert X
  w_top off
  k_fill
  intro X
  have eok : nsOkIn (Mine.hd.heap_39 w.params) 30 = true := by with_unfolding_all rfl
  have ein : nsIn (Mine.hd.heap_39 w.params) 30 "__init__" = some (some (.ref 28)) := by k_is
  have e28 : typeIn (Mine.hd.heap_39 w.params) (.ref 28) = some (.type "function") := by k_is
  refine wpAny_call ?_
  obtain ⟨hh, g, d, tk, os⟩ := s
  have X₁ := X.keeps F.keep
  have hns : hh.Ns 30 (hh.nsMap 30) := .of_isNs (isNs_of_in X₁ eok)
  refine' exc_make (w := w) (I := 28) (N := 30) (C := 31) PySem.F.excBase_Exception .base (X₁ 31 _ ?e31) hns (ns_val X₁ hns ein) (fun self => bind_fn X₁ self e28) ?body ?rest
  case e31 => k_is
  case rest => exact Nat.le_of_ble_eq_true rfl
  dsimp only at F N
  have F1 := (F.push { cls := .type "tuple", data := .seq (List.toArray [.int 7 191, .int 2 262, .str txt tt]) }).push { cls := .ref 31, data := .fields #[.ref hh.objs.size, .none, .none, .none, .bool false, .none] }
  have N1 := (N.push F { cls := .type "tuple", data := .seq (List.toArray [.int 7 191, .int 2 262, .str txt tt]) }).push (F.push _) { cls := .ref 31, data := .fields #[.ref hh.objs.size, .none, .none, .none, .bool false, .none] }
  rw [Heap.size_push] at N1
  have ltn : ∀ q ∈ news, q.1 < hh.objs.size := fun q hq => Heap.lt_size (N q hq).1
  have lte : @LT.lt Nat _ hh.objs.size (hh.objs.size + 1) := Nat.lt_succ_self _
  have ltE : ∀ q ∈ news, q.1 < hh.objs.size + 1 := fun q hq => Nat.lt_succ_of_lt (ltn q hq)
  clear F N X₁ hns
  revert F1 N1
  generalize (hh.push _).push _ = H
  revert ltn lte ltE
  generalize hh.objs.size + 1 = e
  generalize hh.objs.size = t0
  intro ltn lte ltE F1 N1
  have ne1 : ∀ q ∈ news, q.1 ≠ e := fun q hq => Nat.ne_of_lt (ltE q hq)
  have ne2 : @Ne Nat t0 e := Nat.ne_of_lt lte
  have ne31 : e ≠ 31 := fun q => by
    have z := (N1 _ List.mem_cons_self).2.2
    have x31 := X 31 _ (by with_unfolding_all exact rfl)
    rw [q, x31] at z
    cases z
  k_dflt ktr_enter
  k_steps
  repeat' (first | ((k_here; k_dflt (refine' exc_set1 (K := Mine.hd.heap_39 w.params) ?X ?hC ?eok ?h1 ?h2 ?hB ?F ?N ?off ?_; (case F => k_asm); (case N => k_asm); (case X => k_asm); (case hC => k_is); (case eok => with_unfolding_all rfl); (case h1 => k_is); (case h2 => k_is); (case hB => exact noExc_code); (case off => walk_at "offs")); intro _ _ _ _ _ _ _ _ _); (try k_steps)) | ((k_here; k_dflt (refine' exc_set2 (K := Mine.hd.heap_39 w.params) ?X ?hC ?eok ?h1 ?h2 ?hB ?heC ?F ?N ?hD ?hdx ?off ?offd ?hw ?hsz ?_; (case F => k_asm); (case N => k_asm); (case X => k_asm); (case hC => k_is); (case eok => with_unfolding_all rfl); (case h1 => k_is); (case h2 => k_is); (case hB => first | exact noExc_ft | exact noExc_text); (case heC => assumption); (case hD => assumption); (case hdx => exact Nat.ne_of_gt (by assumption)); (case off => walk_at "offs"); (case offd => walk_at "offs"); (case hw => first | exact _root_.PySem.Within.cons _ _ _root_.PySem.Within.nil | exact _root_.PySem.Within.cons _ _ (_root_.PySem.Within.cons _ _ _root_.PySem.Within.nil)); (case hsz => exact Nat.le_of_ble_eq_true rfl)); intro _ _ _ _ _ _); (try k_steps)) | ((k_here; k_dflt (refine' exc_initL (K := Mine.hd.heap_39 w.params) ?X ?hC ?F ?N ?off ?_; (case F => k_asm); (case N => k_asm); (case X => k_asm); (case hC => k_is); (case off => exact List.forall_mem_cons.mpr ⟨by assumption, by assumption⟩)); intro _ _ _ _ _ _); (try k_steps)) | ((k_here; (with_reducible show wpAny _ _ (binaryOp Operator.Add (Value.str _ _) (Value.str _ _)) _ _ _); (refine PySem.StrBlock.add ?_ ?_); rotate_left; (show 3 + Str.length _ ≤ sizeLine); (rw [sizeLine_eq]; omega); intro _ _); (try k_steps)) | ((k_here; refine' method_type (by k_asm) (by k_asm) (by exact meta_Exception) (by decide +kernel) (by k_dflt k_is) (by k_handed) ?_); (try k_steps)))
  exact ret _ _ _ _ _ _ _ _ _ (by assumption) (by assumption) (by assumption) (by assumption) ltE
end
end

/-! part Y1 -/
section
set_option maxHeartbeats 1600000
/-- a tree that makes no call and keeps each object's dict -/
def KD {α : Type} : Sem α → Prop
  | .pure _ => True
  | .raise _ => True
  | .unsupported _ => True
  | .finish _ => True
  | .rule _ k => KD (k ())
  | .at _ k => KD (k ())
  | .load _ _ k => ∀ o, KD (k o)
  | .update _ _ f k => (∀ o, (f o).dict = o.dict) ∧ KD (k ())
  | .loadIfAlive _ k => ∀ o, KD (k o)
  | .point _ k => KD (k ())
  | .register _ _ => True
  | .alloc _ k => ∀ a, KD (k a)
  | .fresh k => ∀ a, KD (k a)
  | .ask k => ∀ a, KD (k a)
  | .choose _ _ k => ∀ a, KD (k a)
  | .os _ _ k => ∀ a, KD (k a)
  | .call .. => False
  | .handled _ k => ∀ a, KD (k a)
  | .genState _ k => ∀ a, KD (k a)
  | .newGen _ k => ∀ a, KD (k a)
  | .resume .. => False
  | .yield .. => True
  | .stack k => ∀ a, KD (k a)
  | .fork .. => True
  | .thread k => ∀ a, KD (k a)
  | .await .. => True
theorem KD.bind {α β : Type} {f : α → Sem β} (hf : ∀ a, KD (f a)) : ∀ {m : Sem α}, KD m → KD (m.bind f)
  | .pure a, _ => hf a
  | .raise _, _ => trivial
  | .unsupported _, _ => trivial
  | .finish _, _ => trivial
  | .rule _ k, h => KD.bind (m := k ()) hf h
  | .at _ k, h => KD.bind (m := k ()) hf h
  | .load _ _ k, h => fun o => KD.bind (m := k o) hf (h o)
  | .update _ _ _ k, h => ⟨h.1, KD.bind (m := k ()) hf h.2⟩
  | .loadIfAlive _ k, h => fun o => KD.bind (m := k o) hf (h o)
  | .point _ k, h => KD.bind (m := k ()) hf h
  | .register _ _, _ => trivial
  | .alloc _ k, h => fun o => KD.bind (m := k o) hf (h o)
  | .fresh k, h => fun o => KD.bind (m := k o) hf (h o)
  | .ask k, h => fun o => KD.bind (m := k o) hf (h o)
  | .choose _ _ k, h => fun o => KD.bind (m := k o) hf (h o)
  | .os _ _ k, h => fun o => KD.bind (m := k o) hf (h o)
  | .call .., h => h.elim
  | .handled _ k, h => fun o => KD.bind (m := k o) hf (h o)
  | .genState _ k, h => fun o => KD.bind (m := k o) hf (h o)
  | .newGen _ k, h => fun o => KD.bind (m := k o) hf (h o)
  | .resume .., h => h.elim
  | .yield .., _ => trivial
  | .stack k, h => fun o => KD.bind (m := k o) hf (h o)
  | .fork .., _ => trivial
  | .thread k, h => fun o => KD.bind (m := k o) hf (h o)
  | .await .., _ => trivial
theorem KD.bnd {α β : Type} {f : α → Sem β} {m : Sem α} (h : KD m) (hf : ∀ a, KD (f a)) : KD (m >>= f) := KD.bind hf h
theorem KD.pur {α : Type} {a : α} : KD (pure a : Sem α) := trivial
/-- the object at e carries the dict d -/
def DictAt (h : Heap) (e : Addr) (d : Option Addr) : Prop := ∃ o, h.objs[e]? = some o ∧ o.dict = d
theorem DictAt.of {h : Heap} {e : Addr} {o : Obj} (x : h.get? e = some o) : DictAt h e o.dict := by
  unfold Heap.get? at x
  split at x
  · cases x
  · exact ⟨o, x, rfl⟩
theorem DictAt.get {h : Heap} {e : Addr} {d : Option Addr} {o : Obj} (x : DictAt h e d) (g : h.get? e = some o) : o.dict = d := by
  obtain ⟨o', h1, h2⟩ := x
  obtain ⟨o2, h3, h4⟩ := DictAt.of g
  rw [h1] at h3
  cases h3
  exact h4.symm.trans h2
theorem DictAt.push {h : Heap} {e : Addr} {d : Option Addr} {o : Obj} (x : DictAt h e d) : DictAt (h.push o) e d := by
  obtain ⟨o', h1, h2⟩ := x
  refine ⟨o', ?_, h2⟩
  have hl := (Array.getElem?_eq_some_iff.mp h1).1
  show (h.objs.push o)[e]? = some o'
  rw [Array.getElem?_push_lt hl]
  exact (Array.getElem?_eq_some_iff.mp h1).2 ▸ rfl
theorem DictAt.update {h : Heap} {e a : Addr} {d : Option Addr} {f : Obj → Obj} (hf : ∀ o, (f o).dict = o.dict) (x : DictAt h e d) : DictAt (h.update a f) e d := by
  obtain ⟨o', h1, h2⟩ := x
  by_cases q : a = e
  · subst q
    refine ⟨f o', ?_, (hf o').trans h2⟩
    show (h.objs.modify a f)[a]? = some (f o')
    rw [Array.getElem?_modify]
    simp [h1]
  · refine ⟨o', ?_, h2⟩
    show (h.objs.modify a f)[e]? = some o'
    rw [Array.getElem?_modify, if_neg q]
    exact h1
theorem wp_keepD {α : Type} {M : Model} {Γ : Ctx} {e : Addr} {d : Option Addr} {Q : α → Pos → Shared → Prop} {E : Value → Pos → Shared → Prop} :
    ∀ {t : Sem α} {p : Pos} {s : Shared}, KD t → DictAt s.heap e d → Sem.wp M Γ t Q E p s → Sem.wp M Γ t (fun a p' s' => Q a p' s' ∧ DictAt s'.heap e d) (fun v p' s' => E v p' s' ∧ DictAt s'.heap e d) p s := by
  intro t
  induction t with
  | pure x => exact fun _ hd h => ⟨h, hd⟩
  | raise v => exact fun _ hd h => ⟨h, hd⟩
  | unsupported | finish | yield | fork | await | register => exact fun _ _ h => h
  | rule _ k ih | «at» _ k ih | point _ k ih => exact fun hk hd h => ih _ hk hd h
  | loadIfAlive _ k ih | fresh k ih | ask k ih | handled _ k ih | stack k ih | thread k ih => exact fun hk hd h => ih _ (hk _) hd h
  | newGen _ k ih => exact fun hk hd h => ih _ (hk _) hd h
  | os _ _ k ih => exact fun hk hd h => ih _ (hk _) hd h
  | alloc _ k ih => exact fun hk hd h => ih _ (hk _) hd.push h
  | load a _ k ih => exact fun hk hd ⟨o, ho, h⟩ => ⟨o, ho, ih _ (hk _) hd h⟩
  | genState a k ih => exact fun hk hd ⟨o, ho, h⟩ => ⟨o, ho, ih _ (hk _) hd h⟩
  | update a _ f k ih => exact fun hk hd ⟨ha, h⟩ => ⟨ha, ih _ hk.2 (hd.update hk.1) h⟩
  | choose _ _ k ih => exact fun hk hd ⟨ha, h⟩ => ⟨ha, ih _ (hk _) hd h⟩
  | call c h g l k ih => exact fun hk => hk.elim
  | resume g r l k ih => exact fun hk => hk.elim
theorem wpAny_keepD {α : Type} {M : Model} {A : Around} {e : Addr} {d : Option Addr} {Q : α → Shared → Prop} {E : Value → Shared → Prop} {t : Sem α} {s : Shared}
    (hk : KD t) (hd : DictAt s.heap e d) (h : wpAny M A t Q E s) : wpAny M A t (fun a s' => Q a s' ∧ DictAt s'.heap e d) (fun v s' => E v s' ∧ DictAt s'.heap e d) s :=
  fun Γ p hΓ => wp_keepD hk hd (h Γ p hΓ)

theorem KD.load {a : Addr} : KD (load a) := fun _ => trivial
theorem KD.upd {a : Addr} {f : Obj → Obj} (hf : ∀ o, (f o).dict = o.dict) : KD (update a f) := ⟨hf, trivial⟩
theorem KD.uns {α : Type} {w : String} : KD (unsupported w : Sem α) := trivial
theorem KD.mapFields (f : Array Value → Array Value) (o : Obj) : (Obj.mapFields f o).dict = o.dict := by
  obtain ⟨c, d, dt, sl⟩ := o
  cases dt <;> rfl
theorem KD.fieldsOf {v : Value} : KD (fieldsOf v) := by
  unfold PySem.fieldsOf
  split
  · refine KD.bnd KD.load fun o => ?_
    split
    · exact KD.pur
    · exact KD.uns
  · exact KD.uns
theorem KD.field {v : Value} {i : Nat} : KD (field v i) := by
  unfold PySem.field
  refine KD.bnd KD.fieldsOf fun a => ?_
  split
  · exact KD.pur
  · exact KD.uns
theorem KD.setField {v x : Value} {i : Nat} : KD (setField v i x) := by
  unfold PySem.setField
  split
  · unfold updateField
    refine KD.bnd KD.load fun o => ?_
    split
    · split
      · exact KD.upd (KD.mapFields _)
      · exact KD.uns
    · exact KD.uns
  · exact KD.uns
theorem KD.setFlight {e : Value} {f : Option Addr} : KD (setFlight e f) := by
  unfold PySem.setFlight
  refine KD.bnd KD.field fun tb => ?_
  split
  · exact KD.setField
  · exact KD.pur
theorem KD.stack : KD stack := fun _ => trivial
theorem KD.frameEnvs : KD frameEnvs := by
  unfold PySem.frameEnvs
  exact KD.bnd KD.stack fun _ => KD.pur
theorem KD.readyFrames : ∀ {l : List Env}, KD (readyFrames l)
  | [] => trivial
  | env :: outer => by
    unfold PySem.readyFrames
    split
    · refine KD.bnd KD.load fun o => ?_
      split
      · exact KD.pur
      · refine KD.bnd (by
          unfold behindIsImport
          split
          · exact KD.pur
          · split
            · exact KD.pur
            · exact KD.bnd KD.field fun _ => KD.pur) fun im => KD.bnd (by
          unfold keptBack
          split
          · split
            · exact KD.pur
            · exact KD.bnd (by unfold underTheClaimsCaller; exact KD.bnd KD.stack fun _ => KD.pur) fun b => by split <;> exact KD.pur
          · exact KD.pur) fun bk => KD.bnd (KD.upd fun o => rfl) fun _ => KD.readyFrames
    · exact KD.uns
theorem KD.frameOf {env : Env} : KD (frameOf env) := by
  unfold PySem.frameOf
  refine KD.bnd KD.frameEnvs fun l => KD.bnd ?_ fun f => ?_
  · cases h : List.dropWhile (fun x => x.frame != env.frame) l with
    | nil => exact KD.pur
    | cons x xs => exact KD.bnd KD.readyFrames fun _ => KD.pur
  · split
    · exact KD.pur
    · exact KD.uns
theorem KD.entryPlaceOf {f : Addr} {b : Bool} : KD (entryPlaceOf f b) := by
  unfold PySem.entryPlaceOf
  refine KD.bnd KD.stack fun l => ?_
  split <;> exact KD.pur
theorem KD.asIs {vs : List Value} : KD (newObjAsIs (.type "traceback") (.fields vs.toArray)) := by
  unfold newObjAsIs
  exact KD.bnd (fun _ => trivial) fun _ => KD.pur
theorem KD.newF {vs : List Value} : KD (newFields "traceback" vs) := by
  unfold newFields newObj
  dsimp only
  split
  · exact KD.bnd KD.uns fun _ => KD.asIs
  · exact KD.asIs
theorem KD.newEntry {a b c d e : Value} {pl : List Value} : KD (EntryCells.newEntry a b c d e pl) := KD.newF
theorem KD.noteFrame {e : Value} {env : Env} : KD (noteFrame e env) := by
  unfold PySem.noteFrame
  split
  · refine KD.bnd KD.field fun hd => ?_
    have k : ∀ (ff : Addr) (x : Bool), KD (do PySem.setField e 1 (← EntryCells.newEntry hd (← PySem.frameOf env) .none (rawInt ff) .none (← PySem.entryPlaceOf ff x))) := fun ff x => KD.bnd KD.frameOf fun _ => KD.bnd KD.entryPlaceOf fun _ => KD.bnd KD.newEntry fun _ => KD.setField
    split
    · refine KD.bnd KD.field fun _ => ?_
      split
      · exact KD.pur
      · exact KD.bnd KD.setField fun _ => k _ _
    · exact k _ _
  · exact KD.uns
theorem KD.leaving {e : Value} {env : Env} : KD (leaving env e) := KD.bnd KD.noteFrame fun _ => KD.setFlight
end

/-! part Y2 -/
section
set_option maxHeartbeats 1600000
section
variable {M : Model} {A : Around} {E : Value → Shared → Prop} {s : Shared} {env : Env}
variable {nm q : Str} {C N : Addr} {bs bm : List Value} {hdct : Bool} {sn : List Str} {sub : List Value} {ab : Bool} {col : Option Bool} {dd : Option Addr} {k0 k1 k2 k3 k5 : Option Value} {newId : String}
/-- an exception of the class C stands, ready to be raised -/
def MadeOwn (h₀ : Heap) (C : Addr) (ek : Value → Shared → Prop) (v : Value) (s₁ : Shared) : Prop :=
  ∃ a oe vs, v = .ref a ∧ (∀ b o, h₀.get? b = some o → s₁.heap.get? b = some o) ∧ s₁.heap.get? a = some oe ∧ oe.cls = .ref C ∧ oe.data = .fields vs ∧ vs[1]? = some .none ∧ ek (.ref a) s₁
theorem raise_own {h₀ : Heap} {x : PySem.Expr} {pos : Pos} {Q : Flow → Shared → Prop} (hC : h₀.get? C = some (excClassObj nm q C N bs bm hdct sn sub ab col dd k0 k1 k2 k3 k5 newId)) (hbase : bm.contains (.type "BaseException") = true) (hh : A.handled = none)
    (h : wpAny M A (eval x env) (MadeOwn h₀ C E) E s) : wpAny M A (exec (.Raise (some x) none pos) env) Q E s := by
  have hcB : (Value.ref C :: bm).contains (.type "BaseException") = true := by rw [List.contains_cons, hbase, Bool.or_true]
  show wpAny M A (do standAt pos; raiseStmt env (some (do let v ← eval x env; standAt pos; pure v)) none) Q E s
  refine wpAny_bind (wpAny_standAt ?_)
  unfold raiseStmt
  dsimp only
  refine wpAny_bind (wpAny_bind (wpAny_mono h (fun v s₁ h₁ => wpAny_bind (wpAny_standAt (wpAny_pure ?_))) fun _ _ y => y))
  refine byGoal fun P9 d9 => ?_
  obtain ⟨a, oe, vs, rfl, hk, ha, hcls, hd, h1, hE⟩ := h₁
  refine d9 ?_
  clear d9 P9
  refine byGoal fun P9 d9 => ?_
  obtain ⟨hp, g, d, tk, os⟩ := s₁
  refine d9 ?_
  clear d9 P9
  have hC₁ := hk _ _ hC
  have hnt : ∀ {Q' : Bool → Shared → Prop}, Q' false ⟨hp, g, d, tk, os⟩ → wpAny M A (isType (.ref a)) Q' E ⟨hp, g, d, tk, os⟩ := by
    intro Q' hq
    simp only [isType, loadHead]
    refine wpAny_bind (wpAny_loadPart ha ?_)
    rw [hd]; exact wpAny_pure hq
  refine wpAny_bind (wpAny_pure ?_)
  dsimp only
  refine wpAny_bind (wpAny_holding ?_)
  unfold excFromValue isExcClass
  refine wpAny_bind (wpAny_bind (hnt ?_))
  simp only [Bool.false_eq_true, if_false]
  refine wpAny_pure ?_
  simp only [Bool.false_eq_true, if_false]
  unfold isInstance
  repeat (first | (with_reducible refine wpAny_loadPart_at ha ?_; rw [hcls]) | with_reducible refine wpAny_loadPart_at hC₁ ?_ | (with_reducible refine wpAny_isSubtype_exc hC₁ ?_; rw [hcB]) | with_reducible refine hnt ?_ | wp_step)
  rw [hd]
  refine wpAny_pure ?_
  rw [h1]
  refine wpAny_pure ?_
  rw [if_neg (by decide)]
  refine wpAny_pure ?_
  unfold raiseNew
  refine wpAny_bind (wpAny_handled ?_)
  rw [hh]
  first
    | exact wpAny_throw hE
    | exact wpAny_bind (wpAny_pure (wpAny_throw hE))
end
/-- an exception in flight whose object carries the dict dx -/
def RaisedD (base G : Heap) (l : List Env) (e dx : Addr) (cls : Value) (news : List (Addr × Obj)) (h : Heap) : Prop :=
  (∃ B a0, base.StaysIn B ∧ (∀ b o, G.get? b = some o → b ∉ l.filterMap (·.frame) → B.get? b = some o) ∧ (∀ q ∈ news, B.get? q.1 = some q.2 ∧ G.get? q.1 = none ∧ base.get? q.1 = none) ∧ Heap.FlyingW B l e cls a0 h) ∧ DictAt h e (some dx)
section
variable {M : Model} {A : Around} {E : Value → Shared → Prop} {s' : Shared} {base g g₂ h : Heap} {outer : List Env} {L a e dx : Addr} {m : Str → Option Value} {name : Str} {scope : Scope} {cd : Value} {Q : Unit → Shared → Prop} {news : List (Addr × Obj)}
/-- the def in which it was raised lets it go -/
theorem leave_made {oe : Obj} {vs : Array Value} {a0 : Value} (K : Below A base outer g) (F : Fr g L s'.heap m) (N : News g L s'.heap ((e, oe) :: news)) (off : ∀ p ∈ news, p.1 ≠ e) (hd : oe.data = .fields vs) (h1 : vs[1]? = some .none) (h0 : vs[0]? = some a0) (hdx : oe.dict = some dx)
    (hQ : ∀ h', RaisedD base g outer e dx oe.cls news h' → g.UpToSlots h' → Q () { s' with heap := h' }) (hk : scope.kind = .function := by rfl) :
    wpAny M (A.deeper (envOf name scope L a cd)) (leaving (envOf name scope L a cd) (.ref e)) Q E s' := by
  have K' := K.push (name := name) (a := a) (cd := cd) F hk
  have ze := N _ List.mem_cons_self
  have hin : ∀ env ∈ (envOf name scope L a cd :: outer), ∀ b, env.frame = some b → b ∈ e :: (envOf name scope L a cd :: outer).filterMap (·.frame) := fun env he b hb => List.mem_cons_of_mem _ (List.mem_filterMap.mpr ⟨env, he, hb⟩)
  have st : base.StaysIn (hideAll s'.heap (e :: (envOf name scope L a cd :: outer).filterMap (·.frame))) := fun b o q => hideAll_get _ (K'.stays b o q) fun hm => by
    rcases List.mem_cons.mp hm with z | hm
    · have q2 := fresh_of_stays K.stays ze.2.2
      rw [← z, q] at q2
      cases q2
    · rw [(K'.frames.mem hm).1] at q; cases q
  have sg : ∀ b o, g.get? b = some o → b ∉ outer.filterMap (·.frame) → (hideAll s'.heap (e :: (envOf name scope L a cd :: outer).filterMap (·.frame))).get? b = some o := fun b o q nm => hideAll_get _ (F.keep b o q) fun hm => by
    rcases List.mem_cons.mp hm with z | hm
    · have q2 := ze.2.2
      dsimp only at q2
      rw [← z, q] at q2
      cases q2
    · rcases kts_mem hm with z | z
      · rw [z, kts_self F] at q
        cases q
      · exact nm z
  have hl : ∀ q ∈ news, (hideAll s'.heap (e :: (envOf name scope L a cd :: outer).filterMap (·.frame))).get? q.1 = some q.2 ∧ g.get? q.1 = none ∧ base.get? q.1 = none := fun q hq => by
    have zq := N q (List.mem_cons_of_mem _ hq)
    refine ⟨hideAll_get _ zq.1 fun hm => ?_, zq.2.2, fresh_of_stays K.stays zq.2.2⟩
    rcases List.mem_cons.mp hm with z | hm
    · exact off q hq z
    · rcases kts_mem hm with z | z
      · exact zq.2.1 z
      · obtain ⟨_, o, ho, _⟩ := K.frames.mem z
        rw [zq.2.2] at ho; cases ho
  have hen : (hideAll s'.heap (e :: (envOf name scope L a cd :: outer).filterMap (·.frame))).get? e = none := hideAll_none _ List.mem_cons_self
  refine wpAny_mono (wpAny_keepD (Q := fun _ s₁ => ∃ h', Heap.LeftW (hideAll s'.heap (e :: (envOf name scope L a cd :: outer).filterMap (·.frame))) (envOf name scope L a cd :: outer) e oe.cls a0 s'.heap h' ∧ s₁ = { s' with heap := h' }) (E := E) KD.leaving (hdx ▸ DictAt.of ze.1)
    (wpAny_leaving_firstW K'.stack (funFrames_hide K'.frames hin) rfl ze.1 (fun b o hb => of_hideAll _ hb) hen hd h1 h0 fun h' hL => ⟨h', hL, rfl⟩)) (fun _ s₁ hs => ?_) fun _ _ y => y.1
  obtain ⟨⟨h', ⟨k1, ⟨_, _, k2⟩, k3, k4⟩, rfl⟩, hD⟩ := hs
  exact hQ h' ⟨⟨_, a0, st, sg, hl, k1, hen, k2, k3⟩, hD⟩ ((Heap.UpToSlots.of_keeps F.keep).trans k4)
end
section
variable {prog : Program} {w : World} {A₀ : Around} {E : Value → Shared → Prop} {s' : Shared} {base g G : Heap} {outer : List Env} {L a e dx : Addr} {m : Str → Option Value} {name : Str} {scope : Scope} {cd : Value}
  {n : Str} {b₀ : Stmt} {suite : List Stmt} {pos np : Pos} {rest : List ExceptHandler} {Q : Flow → Shared → Prop} {news : List (Addr × Obj)} {KF : Frag} {C : Addr}
  {p : Program} {loose : List Str} {mean : ExcName → Option Value} {mg mb : Str → Option Value} {x : Str}
/-- it is caught by its own class's name, and keeps its dict -/
theorem caught_made (R : RaisedD base G (envOf name scope L a cd :: outer) e dx (.ref C) news s'.heap) (F : Fr g L G m) (K : Below A₀ base outer g) (hsm : G.UpToSlots s'.heap) (XB : KF.In base) (TB : Top p loose mean mg mb base)
    (ex : nsIn KF mainGlobals x = some (some (.ref C))) (q : ktsIn KF C "BaseException" = true)
    (k : ∀ h' g' tk oe vs, KtsTurn (outer.filterMap (·.frame)) g g' → Fr g' L h' (fun y => if y = n then some (.ref e) else m y) → News g' L h' ((e, oe) :: news) → oe.cls = .ref C → oe.data = .fields vs → oe.dict = some dx → Below A₀ base outer g' → KF.In g' → Top p loose mean mg mb g' →
      wpAny (model prog w) ((A₀.deeper (envOf name scope L a cd)).mark (some (.ref e))) (execs (b₀ :: suite) (envOf name scope L a cd))
        (fun f s₄ => wpAny (model prog w) (A₀.deeper (envOf name scope L a cd)) (do bindName (envOf name scope L a cd) n .none; unbindBehindTheSuite (envOf name scope L a cd) n pos) (fun _ s₅ => Q f s₅) E s₄)
        (AsSuiteRaised (model prog w) ((A₀.deeper (envOf name scope L a cd)).mark (some (.ref e))) (envOf name scope L a cd) n pos (notedBy (model prog w) ((A₀.deeper (envOf name scope L a cd)).mark (some (.ref e))) (envOf name scope L a cd) (cameBackBy (model prog w) (A₀.deeper (envOf name scope L a cd)) (envOf name scope L a cd) E)))
        { s' with heap := h', toks := tk })
    (hk : scope.kind = .function := by rfl) (hlo : (envOf name scope L a cd).kindOf n = some .local := by rfl) (hx : (envOf name scope L a cd).kindOf x = some .globalImplicit := by rfl) (hd : (x == ("__debug__" : Str)) = false := by decide) :
    wpAny (model prog w) (A₀.deeper (envOf name scope L a cd)) (noteFrame (.ref e) (envOf name scope L a cd))
      (fun _ s₂ => wpAny (model prog w) (A₀.deeper (envOf name scope L a cd)) (setFlight (.ref e) none) (fun _ s₃ =>
        wpAny (model prog w) (A₀.deeper (envOf name scope L a cd)) (handleBy (.ref e) (envOf name scope L a cd) (.ExceptHandler (some (.Name x np)) (some n) (b₀ :: suite) pos :: rest)) Q E s₃) E s₂) E s' := by
  refine byGoal fun P9 d9 => ?_
  obtain ⟨⟨B, a0, hB, hBG, hl, hfl⟩, hD⟩ := R
  refine d9 ?_
  clear d9 P9
  have hL : B.get? L = none := by
    obtain ⟨_, ⟨L', _, hf, hn', _⟩, _⟩ := hfl.2.2.1
    obtain rfl : L = L' := Option.some.inj hf
    exact hn'
  refine wpAny_mono (wpAny_keepD (Q := fun _ s₂ => ∃ h₄, Heap.HeldW B (envOf name scope L a cd :: outer) e (.ref C) a0 L h₄ ∧ s'.heap.UpToSlots h₄ ∧ s₂ = { s' with heap := h₄ }) (E := E) KD.noteFrame hD
    (wpAny_looks_onW (Around.frames_deeper K.stack) rfl hfl fun h₄ x1 x2 => ⟨h₄, x1, x2, rfl⟩)) (fun _ s₂ hs => ?_) fun _ _ y => y.1
  refine byGoal fun P9 d9 => ?_
  obtain ⟨⟨h₄, hheld₄, hsm₄, rfl⟩, hD₄⟩ := hs
  refine d9 ?_
  clear d9 P9
  refine wpAny_mono (wpAny_keepD (Q := fun _ s₂ => ∃ h₅, Heap.FlyingW B (envOf name scope L a cd :: outer) e (.ref C) a0 h₅ ∧ h₄.UpToSlots h₅ ∧ s₂ = { s' with heap := h₅ }) (E := E) KD.setFlight hD₄
    (wpAny_landsW hheld₄ fun h₅ x1 x2 => ⟨h₅, x1, x2, rfl⟩)) (fun _ s₂ hs => ?_) fun _ _ y => y.1
  refine byGoal fun P9 d9 => ?_
  obtain ⟨⟨h₅, hheld, hsm₅', rfl⟩, hD₅⟩ := hs
  refine d9 ?_
  clear d9 P9
  have hsm₅ := hsm₄.trans hsm₅'
  refine byGoal fun P9 d9 => ?_
  obtain ⟨g₅, T₅, F₅, K₅⟩ := kts_ground K F hBG hheld.1 (hsm.trans hsm₅)
  refine d9 ?_
  clear d9 P9
  have X₅ : KF.In g₅ := XB.keeps K₅.stays
  have P₅ : TopRead p loose mg mb g₅ := topRead_of (TB.keeps K₅.stays)
  refine byGoal fun P9 d9 => ?_
  obtain ⟨ob, hob, hobc⟩ := hheld.there
  obtain ⟨nm, q', N, bs, bm, hdct, sn, sub, ab, col, dd, k0, k1, k2, k3, k5, newId, hC, hbase, hbT⟩ := kts_cls X₅ q
  refine d9 ?_
  clear d9 P9
  have hC₅ := F₅.keep _ _ hC
  refine wpAny_handleBy_cons (codeAny_handlers_test (name_K F₅ X₅ P₅ ex ?_ hk hx hd)) (by intro q; cases q)
  refine wpAny_excMatches_sub_self hC₅ hob hobc hbase (codeAny_handlers_suite_as ?_)
  refine wpAny_mono (wpAny_keepD (Q := fun _ s₂ => ∃ h₆, Heap.FlyingW B (envOf name scope L a cd :: outer) e (.ref C) a0 h₆ ∧ h₅.UpToSlots h₆ ∧ s₂ = { s' with heap := h₆ }) KD.setFlight hD₅
    (lands_againW hheld fun h₆ x1 x2 => ⟨h₆, x1, x2, rfl⟩)) (fun _ s₂ hs => ?_) fun _ _ y => y.1
  refine byGoal fun P9 d9 => ?_
  obtain ⟨⟨h₆, hfl₆, hsm₆, rfl⟩, hD₆⟩ := hs
  obtain ⟨g₆, T₆, F₆, K₆⟩ := kts_ground K F hBG hfl₆.1 ((hsm.trans hsm₅).trans hsm₆)
  obtain ⟨oe, ws, hoe, hoec, hoed, hoe0⟩ := hfl₆.first
  refine d9 ?_
  clear d9 P9
  have ne₆ : g₆.get? e = none := T₆.none_ _ (kts_fresh F hBG hfl₆.2.1 fun o ho m => by
    obtain ⟨_, o', ho', hd⟩ := K.frames.mem m
    rw [ho] at ho'
    cases ho'
    obtain ⟨sl, hs⟩ := ((hsm.trans hsm₅).trans hsm₆) _ _ (F.keep _ _ ho) hd
    rw [hoe] at hs
    cases hs
    exact hd _ hoed)
  have Nl : News g₆ L h₆ news := fun q hq => ⟨hfl₆.1 _ _ (hl q hq).1, (fun z => by have := (hl q hq).1; rw [z, hL] at this; cases this), T₆.none_ _ (kts_none F.keep (hl q hq).2.1)⟩
  have N₆ := News.more F₆ Nl hoe (fun es n q => by rw [hoed] at q; cases q) ne₆
  exact stN F₆ N₆ (fun h₇ F₇ N₇ => k h₇ g₆ _ oe ws T₆ F₇ N₇ hoec hoed (hD₆.get hoe) K₆ (XB.keeps K₆.stays) (TB.keeps K₆.stays)) hk hlo
end
end

/-! part Y3 -/
section
set_option maxHeartbeats 1600000
section
variable {prog : Program} {w : World} {A : Around} {E : Value → Shared → Prop} {h : Heap} {g : Array GenState} {d : Drawn} {t : Nat} {os : OsState}
variable {nm q : Str} {C N a dx : Addr} {bs : List Value} {sn : List Str} {sub : List Value} {ab : Bool} {col : Option Bool} {dd : Option Addr} {k0 k1 k2 k3 k5 : Option Value} {newId : String}
  {mN mA : Str → Option Value} {name : Str} {v : Value} {o : Obj} {vs : Array Value}
theorem mroEx : mroOf (.type "Exception") = pure [.type "Exception", .type "BaseException", .type "object"] := by kernel_rfl
theorem ex_get_entry {tk : Tok} {Q : Fin → Shared → Prop}
    (hC : h.get? C = some (excClassObj nm q C N bs [.type "Exception", .type "BaseException", .type "object"] true sn sub ab col dd k0 k1 k2 k3 k5 newId)) (hn : h.Ns N mN) (hna : mN name = none)
    (hB : typeLookup (.type "Exception") name = pure none) (hx : h.get? a = some o) (hc : o.cls = .ref C) (hd : o.data = .fields vs) (hdx : o.dict = some dx) (hD : h.Ns1 dx mA) (hv : mA name = some v) (hq : Q (.done (.ret v)) ⟨h, g, d, t, os⟩) :
    wpAny (model prog w) A (Builtin.«object.__getattribute__» ⟨[.ref a, .str name tk], []⟩) Q E ⟨h, g, d, t, os⟩ := by
  unfold Builtin.«object.__getattribute__»
  repeat (first | (with_reducible refine wpAny_loadPart_at hx ?_; rw [hc]) | (with_reducible refine wpAny_typeLookup_exc hC hn mroEx hB ?_; rw [hna]) | wp_step)
  rw [hd]
  dsimp only
  unfold instanceDict
  repeat (first | (with_reducible refine wpAny_loadPart_at hx ?_; rw [hc]) | with_reducible refine wpAny_loadPart_at hC ?_ | wp_step)
  rw [hdx]
  repeat (first | (with_reducible refine wpAny_nsGet hD.ns ?_; rw [hv]) | wp_step)
  exact hq
theorem ex_get_attr {expr : Bool} {Q : Value → Shared → Prop}
    (hC : h.get? C = some (excClassObj nm q C N bs [.type "Exception", .type "BaseException", .type "object"] true sn sub ab col dd k0 k1 k2 k3 k5 newId)) (hn : h.Ns N mN) (hng : mN "__getattribute__" = none) (hnh : mN "__getattr__" = none) (hna : mN name = none)
    (hB : typeLookup (.type "Exception") name = pure none) (hx : h.get? a = some o) (hc : o.cls = .ref C) (hd : o.data = .fields vs) (hdx : o.dict = some dx) (hD : h.Ns1 dx mA) (hv : mA name = some v) (hh : handedOut v = pure v) (hq : Q v ⟨h, g, d, t + 1, os⟩) :
    wpAny (model prog w) A (getAttr (.ref a) name expr) Q E ⟨h, g, d, t, os⟩ := by
  have FB := PySem.F.attrBase_Exception
  have f3 := FB.ga.bind (.ref a)
  have hx0 : (expr && onTheHeap (Value.builtin "BaseException.__getattribute__")) = false := by cases expr <;> rfl
  have hx2 : (Value.builtin "BaseException.__getattribute__" == Value.builtin "object.__getattribute__") = false := by decide +kernel
  have hx1 : (onTheHeap (Value.ref C) && Value.builtin "BaseException.__getattribute__" == Value.builtin "object.__getattribute__") = false := by rw [hx2]; rfl
  unfold getAttr getAttrBy
  repeat (any_goals (first | assumption | (with_reducible refine wpAny_loadPart_at hx ?_; rw [hc]) | (with_reducible refine wpAny_typeLookup_exc hC hn mroEx FB.ga.lookup ?_; rw [hng]) | (with_reducible refine wpAny_typeLookup_exc hC hn mroEx FB.noGetattr ?_; rw [hnh]) | wp_step))
  refine codeAny_call_builtin FB.ga.plain F.entry_bexc_ga (wpAny_check_ga_own FB hC .base hx hc (ex_get_entry hC hn hna hB hx hc hd hdx hD hv ?_))
  repeat (any_goals (first | assumption | wp_step))
end
section
variable {prog : Program} {w : World} {A : Around} {E : Value → Shared → Prop} {s : Shared} {h₀ : Heap} {L : Addr} {m : Str → Option Value} {K : Frag}
variable {nm q : Str} {C N : Addr} {bs : List Value} {sn : List Str} {sub : List Value} {ab : Bool} {col : Option Bool} {dd : Option Addr} {k0 k1 k2 k3 k5 : Option Value} {e dx : Addr} {od oe : Obj} {vs : Array Value} {v : Value} {name : Str} {mA : Str → Option Value} {news : List (Addr × Obj)} {Q : Value → Shared → Prop}
theorem exc_get (X : K.In h₀) (hC : K.lookup C = some (excClassObj nm q C N bs [.type "Exception", .type "BaseException", .type "object"] true sn sub ab col dd k0 k1 k2 k3 k5 "Exception.__new__"))
    (eok : nsOkIn K N = true) (h1 : nsIn K N "__getattribute__" = some none) (h2 : nsIn K N "__getattr__" = some none) (h3 : nsIn K N name = some none) (hB : typeLookup (.type "Exception") name = pure none)
    (F : Fr h₀ L s.heap m) (NN : News h₀ L s.heap news) (he : (e, oe) ∈ news) (hdm : (dx, od) ∈ news) (hc : oe.cls = .ref C) (hd : oe.data = .fields vs) (hdx : oe.dict = some dx) (hD : DictObj od mA) (hv : mA name = some v) (hh : handedOut v = pure v) {expr : Bool}
    (ret : ∀ tk', Q v { s with toks := tk' }) :
    wpAny (model prog w) A (getAttr (.ref e) name expr) Q E s := by
  obtain ⟨h, g, d, t, os⟩ := s
  have X' := X.keeps F.keep
  have hns : h.Ns N (h.nsMap N) := .of_isNs (isNs_of_in X' eok)
  exact ex_get_attr (X' _ _ hC) hns (ns_none_of X' hns h1) (ns_none_of X' hns h2) (ns_none_of X' hns h3) hB (NN _ he).1 hc hd hdx (hD _ _ (NN _ hdm).1) hv hh (ret _)
end
end

/-! part Y4 -/
section
local macro_rules | `(tactic| walk_at "none 0") => `(tactic| fail "none")
set_option maxHeartbeats 1600000
section
variable {w : World} {p : Program} {loose : List Str} {mean : ExcName → Option Value} {mg mb : Str → Option Value}
 {dp un : Nat} {gd : Option (List PySem.Code)} {cn : Str} {cs : Scope} {a : Addr} {ccd : Value} {cl : List (Str × Addr)} {outer : List Env} {A₀ : Around} {base h₀ : Heap} {L : Addr} {m : Str → Option Value} {news : List (Addr × Obj)} {s : Shared}
 {Q E : Value → Shared → Prop}
def mErr (txt : Str) (tt : Tok) : Str → Option Value := fun y => if y = Str.ofString "text" then some (.str txt tt) else if y = Str.ofString "frame_type" then some (.int 2 262) else if y = Str.ofString "code" then some (.int 7 191) else none
local macro_rules | `(tactic| walk_at "exec Raise some none") => `(tactic| (k_here; (with_reducible rename Fr _ _ _ _ => lF'); k_dflt (refine' raise_own (h₀ := _) (C := 31) (by exact (‹(Mine.hd.heap_39 w.params).In _› 31 _ (by with_unfolding_all exact rfl))) (by exact rfl) (by exact rfl) ?_)))
theorem rof_raise1 {hi fi : Int} {th tf : Tok} {l : Addr} (B : Below A₀ base outer h₀) (F : Fr h₀ L s.heap m) (X : (Mine.hd.heap_39 w.params).In h₀) (N : News h₀ L s.heap news) (T : Top p loose mean mg mb h₀) (hk : cs.kind = .function) (hd : dp + 6 < recursionLimit) (hu : un + 48 < cLine)
  (hlt : hi < fi)
  (exc : ∀ e dx od G h' tk' txt tt, Fr h₀ L G m → RaisedD base G (envX cn cs L a ccd cl :: outer) e dx (.ref 31) ((dx, od) :: news) h' → G.UpToSlots h' → DictObj od (mErr txt tt) → E (.ref e) { s with heap := h', toks := tk' }) :
  wpAny (model (PySem.Challenge.rw_no0056_01.row.prog) w) (ktrTop dp un gd cn cs L a ccd cl outer) (call (.ref 70) [.int hi th, .int fi tf, .ref l]) Q E s := by
  refine wpAny_call ?_
  revert X
  w_top off
  k_fill
  intro X
  k_dflt ktr_enter
  k_steps
  repeat' (first | ((k_here; (with_reducible show wpAny _ _ (call (Value.ref 31) _ _) _ _ _); k_dflt (refine' quic_new (by decide) (by k_asm) (by k_asm) (by k_asm) (by k_asm) (by k_asm) (by first | exact rfl | assumption) (by ktr_room) (by ktr_units) ?_; k_whole); intro _ _ _ _ _ _ _ _ _ _ _ _ _ _); (try k_steps)))
  refine ⟨_, _, _, rfl, (by assumption : Fr _ _ _ _).keep, ((by assumption : News _ _ _ _) _ List.mem_cons_self).1, rfl, rfl, rfl, ?_⟩
  rename_i e9 dx9 od9 t91 t90 o91 o90 h9 tk9 F9 N9 D9 l91 l92
  refine leave_made (dx := dx9) (by assumption) F9 (news_sub (_ :: (dx9, od9) :: news) N9 (by kqd_sub)) (List.forall_mem_cons.mpr ⟨Nat.ne_of_gt l91, fun q hq => Nat.ne_of_lt (l92 q hq)⟩) rfl rfl rfl rfl (fun h' R U => ?_)
  exact exc _ _ _ _ _ _ _ _ (by assumption) R U D9
local macro_rules | `(tactic| walk_at "exec For Tuple Name cons nil") => `(tactic| (k_here; (rename Fr _ _ _ _ => lF'); (with_unfolding_all refine' For_turns lF' ?_; k_whole)))
local macro_rules | `(tactic| walk_at "exec Raise some none") => `(tactic| (exfalso; omega))
local macro_rules | `(tactic| walk_at "call builtin:list.append") => `(tactic| (k_here; (with_reducible show wpAny _ _ (call (Value.builtin _) [Value.ref _, _]) _ _ _); k_dflt (refine' append_K (by k_asm) (by k_asm) (by k_upd) ?_ (by first | assumption | size_fits); k_whole); intro h' F' N'))
theorem rof_gen {l : Addr} {vs0 : List Value} {nn : Nat} {lo hi fi : Int} {th tf : Tok} {R T0 : List (Int × Int)} (B : Below A₀ base outer h₀) (F : Fr h₀ L s.heap m) (X : (Mine.hd.heap_39 w.params).In h₀) (N : News h₀ L s.heap news) (T : Top p loose mean mg mb h₀) (hk : cs.kind = .function) (hd : dp + 6 < recursionLimit) (hu : un + 48 < cLine)
  (hl : (l, listOf (List.toArray vs0) nn) ∈ news) (hD : DatAll news vs0 (pd (gp lo R ++ T0))) (hT : ∀ (i : Nat) (x y : Int), T0[i]? = some (x, y) → x = lastb lo R ∧ y = 0) (hR : R.length < 900) (hfi : fi = hi - lo) (h0 : 0 ≤ lo) (hx : ∀ q ∈ R, 0 ≤ q.1)
  (ret : T0 = [] → ∀ f fvs nf tl h' tk', Fr h₀ L h' m → News h₀ L h' ((f, listOf (List.toArray fvs) nf) :: (tl ++ news)) → DatAll tl fvs (pd ((lo, hi) :: R)) → Q (.ref f) { s with heap := h', toks := tk' })
  (exc : T0 ≠ [] → ∀ e dx od G h' tk' txt tt, Fr h₀ L G m → RaisedD base G (envX cn cs L a ccd cl :: outer) e dx (.ref 31) ((dx, od) :: news) h' → G.UpToSlots h' → DictObj od (mErr txt tt) → E (.ref e) { s with heap := h', toks := tk' }) :
  wpAny (model (PySem.Challenge.rw_no0056_01.row.prog) w) (ktrTop dp un gd cn cs L a ccd cl outer) (call (.ref 70) [.int hi th, .int fi tf, .ref l]) Q E s := by
  subst hfi
  refine wpAny_call ?_
  revert X
  k_fill
  intro X
  k_dflt ktr_enter
  k_steps
  repeat' (first | ((k_here; (with_reducible show wpAny _ _ (subscriptTail _ _ (Value.ref _) (Value.int _ _)) _ _ _); k_dflt (refine' item_neg1 (by k_asm) (by k_mem) (by assumption) ?_ (by with_unfolding_all rfl))); (try k_steps)) | ((k_here; (with_reducible show wpAny _ _ (call (Value.ref 31) _ _) _ _ _); k_dflt (refine' quic_new (by decide) (by k_asm) (by k_asm) (by k_asm) (by k_asm) (by k_asm) (by first | exact rfl | assumption) (by ktr_room) (by ktr_units) ?_; k_whole); intro _ _ _ _ _ _ _ _ _ _ _ _ _ _); (try k_steps)))
  rename_i tk9 hn D hA lD f hB lf hC lF NF
  have hfD : @Ne Nat D f := Nat.ne_of_lt lf.1
  have hfn : ∀ q ∈ news, q.1 ≠ f := fun q hq => Nat.ne_of_lt (tb_ltOf lf.2 q hq)
  have hlenD := pl_len hD
  rw [List.length_append, gp_len] at hlenD
  refine iter_J (GrowJ f news (fun i => (lo, hi) :: R.take i) fun i m => i ≤ R.length ∧ m (Str.ofString "found") = some (.ref f)) rfl (List.mem_cons_of_mem _ (List.mem_cons_of_mem _ hl)) lF
    (news_sub ((f, listOf (List.toArray [.ref D]) 0) :: ([(D, tup2 (hi - (hi - lo)) _ hi _ 0)] ++ news)) NF (by kqd_sub)) ?_ ?_ ?_ ?_
  · rintro i m nx ⟨k, fvs, tl, rfl, _⟩
    k_mem
  · refine ⟨0, [.ref D], [(D, tup2 (hi - (hi - lo)) _ hi _ 0)], rfl, ?_, List.forall_mem_cons.mpr ⟨hfD, hfn⟩, Nat.zero_le _, rfl⟩
    have e : hi - (hi - lo) = lo := by omega
    have e2 : pd [(lo, hi)] = pd [(hi - (hi - lo), hi)] := by rw [e]
    show DatAll _ _ (pd [(lo, hi)])
    rw [e2]
    exact pl_snoc (vs := []) (R := []) .nil List.mem_cons_self
  · intro i v m₁ nx h tk I o hv hJ9 hI F₁ N₁
    refine byGoal fun P9 d9 => ?_
    obtain ⟨k, fvs, tl, rfl, hfv, hoff, hile, mb1⟩ := hJ9
    obtain ⟨t1, k1, tx1, ty1, x1, y1, rfl, hm1, hR1⟩ := pl_get hD hv
    have F₂ := fr_put F₁ mb1
    have eI := neN (hI _ List.mem_cons_self)
    dsimp only at eI
    have hlen := pl_len hfv
    obtain ⟨G, yy, hG⟩ := lastb_eq (R.take i) lo hi
    dsimp only at hfv hlen
    have hfv0 := hfv
    rw [hG] at hfv hlen
    obtain ⟨fvs', tq, kq, txq, tyq, rfl, hmq, hlq⟩ := pl_last hfv
    have hG2 := congrArg List.length hG
    rw [List.length_cons, List.length_append, List.length_take] at hG2
    have hz1 : fvs'.length < 1000 := by rw [hlq]; simp at hG2; omega
    have hsz : (List.toArray (fvs' ++ [Value.ref tq])).size ≤ sizeLine := sz_of (by simp; omega)
    rcases Nat.lt_or_ge i R.length with hi9 | hi9
    · rw [List.getElem?_append_left (by rw [gp_len]; exact hi9)] at hR1
      obtain ⟨u1, u2, hR2, e1, e2⟩ := gp_get hR1
      have hx1 := hx _ (List.mem_of_getElem? hR2)
      dsimp only at hx1
      refine d9 ?_
      clear d9 P9
      clear F₁ NF lF
      k_steps
      repeat' (first | ((k_here; (with_reducible show wpAny _ _ (subscriptTail _ _ (Value.ref _) (Value.int _ _)) _ _ _); k_dflt (refine' item_neg1 (by k_asm) (by k_mem) (by assumption) ?_ (by with_unfolding_all rfl))); (try k_steps)) | ((k_here; (with_reducible show wpAny _ _ (call (Value.ref 31) _ _) _ _ _); k_dflt (refine' quic_new (by decide) (by k_asm) (by k_asm) (by k_asm) (by k_asm) (by k_asm) (by first | exact rfl | assumption) (by ktr_room) (by ktr_units) ?_; k_whole); intro _ _ _ _ _ _ _ _ _ _ _ _ _ _); (try k_steps)))
      rename_i T1 hA1 FA NA lT hB1 FZ NZ
      have a1 : lastb lo (List.take i R) - x1 - 2 = u2 := by omega
      have a2 : u2 - y1 = u1 := by omega
      refine grow_end FZ NZ (Nat.ne_of_gt lT.1) (Nat.ne_of_gt lT.2.1) hI hoff hfv0 ?_ ⟨hi9, rfl⟩
      show (lo, hi) :: R.take (i + 1) = ((lo, hi) :: R.take i) ++ [(lastb lo (List.take i R) - x1 - 2 - y1, lastb lo (List.take i R) - x1 - 2)]
      rw [take_snoc hR2, a1, a2]
      rfl
    · have hie : i = R.length := by omega
      subst hie
      rw [List.getElem?_append_right (by rw [gp_len]; exact Nat.le_refl _)] at hR1
      obtain ⟨hx1, hy1⟩ := hT _ _ _ hR1
      have hT0 : T0 ≠ [] := by rintro rfl; simp at hR1
      rw [List.take_length] at *
      refine d9 ?_
      clear d9 P9
      clear F₁ NF lF
      k_steps
      repeat' (first | ((k_here; (with_reducible show wpAny _ _ (subscriptTail _ _ (Value.ref _) (Value.int _ _)) _ _ _); k_dflt (refine' item_neg1 (by k_asm) (by k_mem) (by assumption) ?_ (by with_unfolding_all rfl))); (try k_steps)) | ((k_here; (with_reducible show wpAny _ _ (call (Value.ref 31) _ _) _ _ _); k_dflt (refine' quic_new (by decide) (by k_asm) (by k_asm) (by k_asm) (by k_asm) (by k_asm) (by first | exact rfl | assumption) (by ktr_room) (by ktr_units) ?_; k_whole); intro _ _ _ _ _ _ _ _ _ _ _ _ _ _); (try k_steps)))
      refine ⟨_, _, _, rfl, (by assumption : Fr _ _ _ _).keep, ((by assumption : News _ _ _ _) _ List.mem_cons_self).1, rfl, rfl, rfl, ?_⟩
      rename_i e9 dx9 od9 t91 t90 o91 o90 h9 tk9 F9 N9 D9 l91 l92
      refine leave_made (dx := dx9) (by assumption) F9 (news_sub (_ :: (dx9, od9) :: news) N9 (by kqd_sub)) (List.forall_mem_cons.mpr ⟨Nat.ne_of_gt l91, fun q hq => Nat.ne_of_lt (l92 q (by k_mem))⟩) rfl rfl rfl rfl (fun h' R U => ?_)
      exact exc hT0 _ _ _ _ _ _ _ _ (by assumption) R U D9
  · intro m₁ nx h tk hJ9 F₁ N₁
    refine byGoal fun P9 d9 => ?_
    obtain ⟨k, fvs, tl, rfl, hfv, hoff, hile, mb1⟩ := hJ9
    have hT0 : T0 = [] := List.eq_nil_of_length_eq_zero (by omega)
    subst hT0
    have F₂ := fr_put F₁ mb1
    refine d9 ?_
    clear d9 P9
    clear F₁ NF lF
    k_steps
    dsimp only at hfv
    rw [hlenD, List.length_nil, Nat.add_zero, List.take_length] at hfv
    exact ret rfl f fvs k tl _ _ (by assumption) (news_sub _ (by assumption) (by kqd_sub)) hfv
theorem rof_ok {l : Addr} {vs0 : List Value} {nn : Nat} {lo hi fi : Int} {th tf : Tok} {R : List (Int × Int)} (B : Below A₀ base outer h₀) (F : Fr h₀ L s.heap m) (X : (Mine.hd.heap_39 w.params).In h₀) (N : News h₀ L s.heap news) (T : Top p loose mean mg mb h₀) (hk : cs.kind = .function) (hd : dp + 6 < recursionLimit) (hu : un + 48 < cLine)
  (hl : (l, listOf (List.toArray vs0) nn) ∈ news) (hD : DatAll news vs0 (pd (gp lo R))) (hR : R.length < 900) (hfi : fi = hi - lo) (h0 : 0 ≤ lo) (hx : ∀ q ∈ R, 0 ≤ q.1)
  (ret : ∀ f fvs nf tl h' tk', Fr h₀ L h' m → News h₀ L h' ((f, listOf (List.toArray fvs) nf) :: (tl ++ news)) → DatAll tl fvs (pd ((lo, hi) :: R)) → Q (.ref f) { s with heap := h', toks := tk' }) :
  wpAny (model (PySem.Challenge.rw_no0056_01.row.prog) w) (ktrTop dp un gd cn cs L a ccd cl outer) (call (.ref 70) [.int hi th, .int fi tf, .ref l]) Q E s :=
  rof_gen (T0 := []) B F X N T hk hd hu hl (by rw [List.append_nil]; exact hD) (fun i x y e => by simp at e) hR hfi h0 hx (fun _ => ret) fun e => absurd rfl e
theorem rof_raise2 {l : Addr} {vs0 : List Value} {nn : Nat} {lo hi fi z : Int} {th tf : Tok} {R : List (Int × Int)} (B : Below A₀ base outer h₀) (F : Fr h₀ L s.heap m) (X : (Mine.hd.heap_39 w.params).In h₀) (N : News h₀ L s.heap news) (T : Top p loose mean mg mb h₀) (hk : cs.kind = .function) (hd : dp + 6 < recursionLimit) (hu : un + 48 < cLine)
  (hl : (l, listOf (List.toArray vs0) nn) ∈ news) (hD : DatAll news vs0 (pd (gp lo R ++ [(z, 0)]))) (hz : z = lastb lo R) (hR : R.length < 900) (hfi : fi = hi - lo) (h0 : 0 ≤ lo) (hx : ∀ q ∈ R, 0 ≤ q.1)
  (exc : ∀ e dx od G h' tk' txt tt, Fr h₀ L G m → RaisedD base G (envX cn cs L a ccd cl :: outer) e dx (.ref 31) ((dx, od) :: news) h' → G.UpToSlots h' → DictObj od (mErr txt tt) → E (.ref e) { s with heap := h', toks := tk' }) :
  wpAny (model (PySem.Challenge.rw_no0056_01.row.prog) w) (ktrTop dp un gd cn cs L a ccd cl outer) (call (.ref 70) [.int hi th, .int fi tf, .ref l]) Q E s := by
  subst hz
  exact rof_gen (T0 := [(lastb lo R, 0)]) B F X N T hk hd hu hl hD (fun i x y e => by
    cases i with
    | zero => simp at e; exact ⟨e.1.symm, e.2.symm⟩
    | succ i => simp at e) hR hfi h0 hx (fun e => absurd e (by simp)) fun _ => exc
end
end

/-! part Y5 -/
section
set_option maxHeartbeats 1600000
section
variable {prog : Program} {w : World} {A₀ A : Around} {s : Shared} {base h₀ : Heap} {L : Addr} {m : Str → Option Value} {news : List (Addr × Obj)} {K : Frag} {p : Program} {loose : List Str} {mean : ExcName → Option Value} {mg mb : Str → Option Value}
    {R : Result → Shared → Prop} {name qual : Str} {params : Arguments} {body : List Stmt} {scope : Scope} {dV kV doc pm cdv ct oc : Value} {an od : Option Addr} {osl : Array (Option Value)} {f : Addr} {args : Args} {binds : List (Str × Value)} {env : Env}
/-- entry of a def that may catch, from the outermost def -/
theorem code_defT (B : Below A₀ base [] h₀) (F : Fr h₀ L s.heap m) (X₀ : K.In h₀) (N : News h₀ L s.heap news) (T : Top p loose mean mg mb h₀) (hA : A.frames = some [env]) (hf : env.frame = some L) (hke : env.scope.kind = .function)
    (ho : K.lookup f = some ⟨oc, od, .func (fnOf name qual params body scope dV kV doc pm an cdv ct), osl⟩) (hcd : codeIn K cdv qual = true) (hroom : A.depth < recursionLimit)
    (hbind : BindsTo s (fnOf name qual params body scope dV kV doc pm an cdv ct) args binds) (hloc : ∀ y ∈ binds, scope.names.lookup y.1 = some .local)
    (h : ∀ g L' h₁, Fr h₀ L g m → Fr g L' h₁ (fun y => binds.reverse.lookup y) → News g L' h₁ news → Below A base [env] g → K.In g → Top p loose mean mg mb g →
      wpAny (model prog w) (A.deeper (envOf qual scope L' f cdv)) (execs body (envOf qual scope L' f cdv))
        (fun fl s' => LeaveS0 [L] h₀ L m g R (match fl with | .ret v => v | _ => .none) s')
        (fun e s' => wpAny (model prog w) (A.deeper (envOf qual scope L' f cdv)) (leaving (envOf qual scope L' f cdv) e) (fun _ s'' => R (.error e) s'') (fun e' s'' => R (.error e') s'') s')
        { s with heap := h₁, toks := s.toks + binds.length })
    (hco : scope.isCoroutine = false) (hgen : scope.isGenerator = false) (hk : scope.kind = .function)
    (hcell : ∀ x ∈ scope.names, x.2 ≠ .cell) : codeAny (model prog w) A (.call (.ref f) args) R s := by
  have X := X₀.keeps F.keep
  refine codeAny_call_def (fd := fnOf name qual params body scope dV kV doc pm an cdv ct) (body := body) (binds := binds) hroom (X _ _ ho) rfl (T.nolimit.keeps F.keep) (codeRec_of X hcd) rfl hbind hcell hloc (fun h₁ hns hk₁ => ?_) hco hgen hk
  have nm : ∀ b o, h₀.get? b = some o → b ∉ news.map (·.1) := fun b o e q => by
    obtain ⟨q1, hp, rfl⟩ := List.mem_map.mp q
    rw [(N q1 hp).2.2] at e; cases e
  have st : h₀.StaysIn (hideAll s.heap (news.map (·.1))) := fun b o e => hideAll_get _ (F.keep b o e) (nm b o e)
  obtain ⟨oL, es, ep, hL, hLd, hLk, hLf⟩ := F.ns
  have nL : L ∉ news.map (·.1) := fun q => by
    obtain ⟨q1, hp, e⟩ := List.mem_map.mp q
    exact (N q1 hp).2.1 e
  have hLg := hideAll_get (news.map (·.1)) hL nL
  have hNs : ∀ (sl : Array (Option Value)) h', h'.get? L = some { oL with slots := sl } → Heap.Ns h' L m := fun sl h' e => ⟨_, es, ep, e, hLd, hLk, hLf⟩
  have B₁ := pushX B F hf hke
  have B₂ : Below A base [env] (hideAll s.heap (news.map (·.1))) := ⟨hA, fun b o e => st b o (B.stays b o e), funFrames_hideAll B₁.frames fun env' he b hb hq => by
    cases he with
    | head => exact nL ((Option.some.inj (hf.symm.trans hq) : L = b) ▸ hb)
    | tail _ he => exact nomatch he⟩
  refine wpAny_mono (h _ s.heap.objs.size h₁ ⟨hNs oL.slots _ hLg, st, F.above⟩ ⟨hns, fun b o e => hk₁ b o (of_hideAll _ e), Nat.le_of_eq (hideAll_size _ _)⟩
    (fun q1 hp => ⟨hk₁ _ _ (N q1 hp).1, Nat.ne_of_lt (Heap.lt_size (N q1 hp).1), hideAll_none _ (List.mem_map_of_mem hp)⟩) B₂ (X₀.keeps st) (T.keeps st)) (fun fl s' hl => ?_) fun _ _ y => y
  obtain ⟨g', L', m', news', T', F', N', k⟩ := hl
  have nL₀ : h₀.get? L = none := kts_self F
  obtain ⟨sl, hs⟩ := T'.up hLg
  refine k ⟨hNs sl _ (F'.keep _ _ hs), fun b o e => F'.keep b o (T'.other b o (st b o e) (fun q => by
    rw [List.mem_singleton.mp q, nL₀] at e
    cases e)), F.above⟩ fun q1 hp => ⟨(N' q1 hp).1, fun q => ?_, ?_⟩
  · have z := (N' q1 hp).2.2; rw [q, hs] at z; cases z
  · cases q : h₀.get? q1.1 with
    | none => rfl
    | some o =>
      obtain ⟨sl', hs'⟩ := T'.up (st _ _ q)
      have z := (N' q1 hp).2.2
      rw [hs'] at z
      cases z
end
end

/-! part Y6 -/
section
set_option maxHeartbeats 1600000
section
variable {w : World} {p : Program} {loose : List Str} {mean : ExcName → Option Value} {mg mb : Str → Option Value}
 {dp un : Nat} {gd : Option (List PySem.Code)} {cn : Str} {cs : Scope} {a : Addr} {ccd : Value} {cl : List (Str × Addr)} {outer : List Env} {A₀ : Around} {base h₀ : Heap} {L : Addr} {m : Str → Option Value} {news : List (Addr × Obj)} {s : Shared}
 {Q E : Value → Shared → Prop}
section
theorem refused_no {l : Addr} {vs0 : List Value} {nn : Nat} {lo hi fi : Int} {th tf : Tok} {R : List (Int × Int)} (B : Below A₀ base outer h₀) (F : Fr h₀ L s.heap m) (X : (Mine.hd.heap_39 w.params).In h₀) (N : News h₀ L s.heap news) (T : Top p loose mean mg mb h₀) (hk : cs.kind = .function) (hd : dp + 8 < recursionLimit) (hu : un + 64 < cLine)
  (hl : (l, listOf (List.toArray vs0) nn) ∈ news) (hD : DatAll news vs0 (pd (gp lo R))) (hR : R.length < 900) (hfi : fi = hi - lo) (h0 : 0 ≤ lo) (hx : ∀ q ∈ R, 0 ≤ q.1)
  (ret : ∀ h' tk', Fr h₀ L h' m → News h₀ L h' news → Q (.bool false) { s with heap := h', toks := tk' }) :
  wpAny (model (PySem.Challenge.rw_no0056_01.row.prog) w) (ktrTop dp un gd cn cs L a ccd cl outer) (call (.ref 124) [.int hi th, .int fi tf, .ref l]) Q E s := by
  refine wpAny_call ?_
  revert X
  w_top off
  k_fill
  intro X
  k_dflt ktr_enter
  k_steps
  repeat' (first | ((k_here; (with_reducible show wpAny _ _ (call (Value.ref 70) _ _) _ _ _); k_dflt (refine' rof_ok (by k_asm) (by k_asm) (by k_asm) (by k_asm) (by k_asm) (by first | exact rfl | assumption) (by ktr_room) (by ktr_units) (by k_mem) (by assumption) (by assumption) (by assumption) (by assumption) (by assumption) ?_; k_whole); intro _ _ _ _ _ _ _ _ _); (try k_steps)))
  exact ret _ _ (by assumption) (news_sub _ (by assumption) (by kqd_sub))
end
section
local macro_rules | `(tactic| walk_at "getAttr ref") => `(tactic| fail "by hand")
theorem refused_1 {l : Addr} {hi fi : Int} {th tf : Tok} (B : Below A₀ base [] h₀) (F : Fr h₀ L s.heap m) (X : (Mine.hd.heap_39 w.params).In h₀) (N : News h₀ L s.heap news) (T : Top p loose mean mg mb h₀) (XB : (Mine.hd.heap_39 w.params).In base) (TB : Top p loose mean mg mb base) (hk : cs.kind = .function) (hd : dp + 8 < recursionLimit) (hu : un + 64 < cLine)
  (hlt : hi < fi)
  (ret : ∀ h' tk', Fr h₀ L h' m → News h₀ L h' news → Q (.bool true) { s with heap := h', toks := tk' }) :
  wpAny (model (PySem.Challenge.rw_no0056_01.row.prog) w) (ktrTop dp un gd cn cs L a ccd cl []) (call (.ref 124) [.int hi th, .int fi tf, .ref l]) Q E s := by
  refine wpAny_call ?_
  revert X
  k_fill
  intro X
  k_dflt (refine' code_defT ?k1 ?k2 ?k3 ?k4 ?k5 ?kA ?kF ?kK ?k6 ?k7 ?k8 ?k9 ?kB ?_ ?c2 ?c3 ?c4 ?c5; (case kA => exact rfl); (case kF => exact rfl); (case kK => assumption); (case k1 => k_asm); (case k2 => k_asm); (case k3 => k_asm); (case k4 => k_asm); (case k5 => k_asm); (case k6 => k_is); (case k7 => k_is); (case k8 => ktr_room); (case k9 => exact BindsTo.of_eq rfl); (case c5 => decide); (case kB => exact locs rfl); (case c2 => exact rfl); (case c3 => exact rfl); (case c4 => exact rfl); k_whole; intro g' L' h' FG' F' N' B' X' T'; (try dsimp only); (try k_fold))
  k_steps
  repeat' (first | ((k_here; (with_reducible show wpAny _ _ (call (Value.ref 70) _ _) _ _ _); k_dflt (refine' rof_raise1 (by k_asm) (by k_asm) (by k_asm) (by k_asm) (by k_asm) (by first | exact rfl | assumption) (by ktr_room) (by ktr_units) (by assumption) ?_; k_whole); intro _ _ _ _ _ _ _ _ _ _ _ _); (try k_steps)))
  rename_i e9 dx9 od9 G9 h9 tk9 txt9 tt9 FG9 R9 U9 D9
  refine caught_made (KF := Mine.hd.heap_39 w.params) R9 FG9 (by assumption) U9 XB TB ?ex (by with_unfolding_all rfl) ?_
  case ex => k_is
  intro h8 g8 tk8 oe8 vs8 T8 F8 N8 c8 d8 x8 B8 X8 TT8
  k_steps
  repeat' (first | ((k_here; (with_reducible show wpAny _ _ (call (Value.ref 70) _ _) _ _ _); k_dflt (refine' rof_raise1 (by k_asm) (by k_asm) (by k_asm) (by k_asm) (by k_asm) (by first | exact rfl | assumption) (by ktr_room) (by ktr_units) (by assumption) ?_; k_whole); intro _ _ _ _ _ _ _ _ _ _ _ _); (try k_steps)))
  refine' exc_get (K := Mine.hd.heap_39 w.params) (C := 31) (N := 30) ?X ?hC ?eok ?h1 ?h2 ?h3 ?hB ?F ?N ?he ?hdm ?hc ?hd ?hdx ?hD ?hv ?hh ?_
  case F => k_asm
  case N => k_asm
  case X => k_asm
  case hC => k_is
  case eok => with_unfolding_all rfl
  case h1 => k_is
  case h2 => k_is
  case h3 => k_is
  case hB => exact noExc_code
  case he => exact List.mem_cons_self
  case hdm => exact List.mem_cons_of_mem _ List.mem_cons_self
  case hc => assumption
  case hd => assumption
  case hdx => assumption
  case hD => exact D9
  case hv => exact rfl
  case hh => exact rfl
  intro tk7
  k_steps
  repeat' (first | ((k_here; (with_reducible show wpAny _ _ (call (Value.ref 70) _ _) _ _ _); k_dflt (refine' rof_raise1 (by k_asm) (by k_asm) (by k_asm) (by k_asm) (by k_asm) (by first | exact rfl | assumption) (by ktr_room) (by ktr_units) (by assumption) ?_; k_whole); intro _ _ _ _ _ _ _ _ _ _ _ _); (try k_steps)))
  exact ret _ _ (by assumption) (news_sub _ (by assumption) (by kqd_sub))
end
section
local macro_rules | `(tactic| walk_at "getAttr ref") => `(tactic| fail "by hand")
local macro_rules | `(tactic| walk_at "getAttr ref") => `(tactic| fail "by hand too")
theorem refused_2 {l : Addr} {vs0 : List Value} {nn : Nat} {lo hi fi z : Int} {th tf : Tok} {R : List (Int × Int)} (B : Below A₀ base [] h₀) (F : Fr h₀ L s.heap m) (X : (Mine.hd.heap_39 w.params).In h₀) (N : News h₀ L s.heap news) (T : Top p loose mean mg mb h₀) (XB : (Mine.hd.heap_39 w.params).In base) (TB : Top p loose mean mg mb base) (hk : cs.kind = .function) (hd : dp + 8 < recursionLimit) (hu : un + 64 < cLine)
  (hl : (l, listOf (List.toArray vs0) nn) ∈ news) (hD : DatAll news vs0 (pd (gp lo R ++ [(z, 0)]))) (hz : z = lastb lo R) (hR : R.length < 900) (hfi : fi = hi - lo) (h0 : 0 ≤ lo) (hx : ∀ q ∈ R, 0 ≤ q.1)
  (ret : ∀ h' tk', Fr h₀ L h' m → News h₀ L h' news → Q (.bool true) { s with heap := h', toks := tk' }) :
  wpAny (model (PySem.Challenge.rw_no0056_01.row.prog) w) (ktrTop dp un gd cn cs L a ccd cl []) (call (.ref 124) [.int hi th, .int fi tf, .ref l]) Q E s := by
  refine wpAny_call ?_
  revert X
  k_fill
  intro X
  k_dflt (refine' code_defT ?k1 ?k2 ?k3 ?k4 ?k5 ?kA ?kF ?kK ?k6 ?k7 ?k8 ?k9 ?kB ?_ ?c2 ?c3 ?c4 ?c5; (case kA => exact rfl); (case kF => exact rfl); (case kK => assumption); (case k1 => k_asm); (case k2 => k_asm); (case k3 => k_asm); (case k4 => k_asm); (case k5 => k_asm); (case k6 => k_is); (case k7 => k_is); (case k8 => ktr_room); (case k9 => exact BindsTo.of_eq rfl); (case c5 => decide); (case kB => exact locs rfl); (case c2 => exact rfl); (case c3 => exact rfl); (case c4 => exact rfl); k_whole; intro g' L' h' FG' F' N' B' X' T'; (try dsimp only); (try k_fold))
  k_steps
  repeat' (first | ((k_here; (with_reducible show wpAny _ _ (call (Value.ref 70) _ _) _ _ _); k_dflt (refine' rof_raise2 (by k_asm) (by k_asm) (by k_asm) (by k_asm) (by k_asm) (by first | exact rfl | assumption) (by ktr_room) (by ktr_units) (by k_mem) (by assumption) (by assumption) (by assumption) (by assumption) (by assumption) (by assumption) ?_; k_whole); intro _ _ _ _ _ _ _ _ _ _ _ _); (try k_steps)))
  rename_i e9 dx9 od9 G9 h9 tk9 txt9 tt9 FG9 R9 U9 D9
  refine caught_made (KF := Mine.hd.heap_39 w.params) R9 FG9 (by assumption) U9 XB TB ?ex (by with_unfolding_all rfl) ?_
  case ex => k_is
  intro h8 g8 tk8 oe8 vs8 T8 F8 N8 c8 d8 x8 B8 X8 TT8
  k_steps
  repeat' (first | ((k_here; (with_reducible show wpAny _ _ (call (Value.ref 70) _ _) _ _ _); k_dflt (refine' rof_raise2 (by k_asm) (by k_asm) (by k_asm) (by k_asm) (by k_asm) (by first | exact rfl | assumption) (by ktr_room) (by ktr_units) (by k_mem) (by assumption) (by assumption) (by assumption) (by assumption) (by assumption) (by assumption) ?_; k_whole); intro _ _ _ _ _ _ _ _ _ _ _ _); (try k_steps)))
  refine' exc_get (K := Mine.hd.heap_39 w.params) (C := 31) (N := 30) ?X ?hC ?eok ?h1 ?h2 ?h3 ?hB ?F ?N ?he ?hdm ?hc ?hd ?hdx ?hD ?hv ?hh ?_
  case F => k_asm
  case N => k_asm
  case X => k_asm
  case hC => k_is
  case eok => with_unfolding_all rfl
  case h1 => k_is
  case h2 => k_is
  case h3 => k_is
  case hB => exact noExc_code
  case he => exact List.mem_cons_self
  case hdm => exact List.mem_cons_of_mem _ List.mem_cons_self
  case hc => assumption
  case hd => assumption
  case hdx => assumption
  case hD => exact D9
  case hv => exact rfl
  case hh => exact rfl
  intro tk7
  k_steps
  repeat' (first | ((k_here; (with_reducible show wpAny _ _ (call (Value.ref 70) _ _) _ _ _); k_dflt (refine' rof_raise2 (by k_asm) (by k_asm) (by k_asm) (by k_asm) (by k_asm) (by first | exact rfl | assumption) (by ktr_room) (by ktr_units) (by k_mem) (by assumption) (by assumption) (by assumption) (by assumption) (by assumption) (by assumption) ?_; k_whole); intro _ _ _ _ _ _ _ _ _ _ _ _); (try k_steps)))
  exact ret _ _ (by assumption) (news_sub _ (by assumption) (by kqd_sub))
end
end
end

/-! part Z1 -/
section
local macro_rules | `(tactic| walk_at "none 0") => `(tactic| fail "none")
set_option maxHeartbeats 1600000
section
variable {prog : Program} {w : World} {A : Around} {s : Shared} {h₀ : Heap} {L : Addr} {m : Str → Option Value} {env : Env}
/-- a comprehension that makes an int of each int -/
theorem comp_ints {elt : PySem.Expr} {x : Str} {scope : Scope} {cl : List (Str × Addr)} {S : List (Addr × Obj) → Prop} {P : Nat → Value → Prop} {Fin : List Value → List (Addr × Obj) → Prop} {news : List (Addr × Obj)} {n : Nat} (hS : S news)
    (hP : ∀ i v, P i v → ∃ k t, v = .int k t)
    (turn : ∀ k t I oI C oC D m₂ ys h tk (E' : Value → Shared → Prop), LCg.NsObj oC m₂ → m₂ x = some (.int k t) → Fr h₀ L h m → News h₀ L h ((I, oI) :: (C, oC) :: (D, LCg.lst ys) :: news) →
      wpAny (model prog w) A (eval elt (compEnvC scope cl C env)) (fun y s₄ => (∃ k t, y = .int k t) ∧ ∃ h' tk', s₄ = { s with heap := h', toks := tk' } ∧ Fr h₀ L h' m ∧ News h₀ L h' ((I, oI) :: (C, oC) :: (D, LCg.lst ys) :: news)) E' { s with heap := h, toks := tk })
    (fin : ∀ ys ns, IntsAre ys ns → ys.length = n → Fin ys news) : LCg.CompRest prog w A h₀ L m env elt x scope cl s S P Fin n 0 [] news := by
  have key : ∀ (j i : Nat) (ys : List Value) ns, i + j = n → ys.length = i → IntsAre ys ns → LCg.CompRest prog w A h₀ L m env elt x scope cl s S P Fin j i ys news := by
    intro j
    induction j with
    | zero => exact fun i ys ns hi hl hy => LCg.CompRest.zero (fin ys ns hy (by omega))
    | succ j ih =>
      intro i ys ns hi hl hy
      refine LCg.CompRest.succ fun v I oI C oC D m₂ h tk E' hv hC hx F N off ne => ?_
      obtain ⟨k, t, rfl⟩ := hP i v hv
      refine wpAny_mono (turn k t I oI C oC D m₂ ys h tk E' hC hx F N) (fun y s₄ h₄ => ?_) fun _ _ e => e
      obtain ⟨⟨k', t', rfl⟩, h', tk', rfl, F', N'⟩ := h₄
      exact ⟨h', tk', news, rfl, F', N', off, hS, ih (i + 1) _ (ns ++ [k']) (by omega) (by rw [List.length_append, List.length_singleton, hl]) (IntsAre.append hy (.cons k' t' .nil))⟩
  exact key n 0 [] [] (by omega) rfl .nil
end
section
variable {w : World} {p : Program} {loose : List Str} {mean : ExcName → Option Value} {mg mb : Str → Option Value}
 {dp un : Nat} {gd : Option (List PySem.Code)} {cn : Str} {cs : Scope} {a : Addr} {ccd : Value} {cl : List (Str × Addr)} {outer : List Env} {A₀ : Around} {base h₀ : Heap} {L : Addr} {m : Str → Option Value} {news : List (Addr × Obj)} {s : Shared}
 {Q E : Value → Shared → Prop}
local macro_rules | `(tactic| walk_at "exec Assign cons ListComp") => `(tactic| (k_here; k_dflt (refine LCg.Assign_ListComp_U (F₀ := by k_asm) (by rfl) (by with_unfolding_all rfl) (by rfl) (by decide) (by rfl) (by decide) (by rfl) (by rfl) (by rfl) ?_)))
local macro_rules | `(tactic| walk_at "CompSrc") => `(tactic| fail "by hand")
theorem box_spec {l : Addr} {vs0 : List Value} {ns0 : List Int} (B : Below A₀ base outer h₀) (F : Fr h₀ L s.heap m) (X : (Mine.hd.heap_39 w.params).In h₀) (N : News h₀ L s.heap news) (T : Top p loose mean mg mb h₀) (hk : cs.kind = .function) (hd : dp + 2 < recursionLimit) (hu : un + 16 < cLine)
  (hl : h₀.IsList l vs0.toArray) (hI : IntsAre vs0 ns0) (hlen : ¬ ((63 : Nat) : Int) < (ns0.length : Int))
  (ret : ∀ (b c : Addr) (xs : List Value) (ns : List Int) (z : Int) (tk tz : Tok) (nb nc : Nat) tl h' tk', Fr h₀ L h' m → News h₀ L h' ((b, listOf (List.toArray [.ref c, .int 0 tk, .int z tz]) nb) :: (c, listOf (List.toArray xs) nc) :: (tl ++ news)) → IntsAre xs ns → xs.length ≤ 100 → (∀ q ∈ (c, listOf (List.toArray xs) nc) :: (tl ++ news), q.1 ≠ b) → Q (.ref b) { s with heap := h', toks := tk' }) :
  wpAny (model (PySem.Challenge.rw_no0056_01.row.prog) w) (ktrTop dp un gd cn cs L a ccd cl outer) (call (.ref 89) [.ref l]) Q E s := by
  refine wpAny_call ?_
  revert X
  w_top off
  k_fill
  intro X
  k_dflt ktr_enter
  rename_i g9 L9 h9 FG9 F9 N9 B9 X9 T9
  have hl9 : g9.IsList l vs0.toArray := hl.at fun o e => FG9.keep _ o e
  clear hl
  k_steps
  rename_i D1 ws1 h1 F1 N1 l1 hI1 hC1 hL1
  have hln := hI1.length
  have hws : ws1.length ≤ 24 := by omega
  refine LCg.CompSrc.ledger rfl F1 N1 List.mem_cons_self (sz_of (by omega)) (fun g2 => ?_)
  refine comp_ints (.inr ⟨_, List.mem_cons_self, rfl, _, rfl⟩) (fun i v hv => ?_) ?_ ?_
  · obtain ⟨k, t, e, _⟩ := IntsAre.at hI1 i v (by simpa using hv)
    exact ⟨k, t, e⟩
  · intro k t I oI C oC D m₂ ys h tk E' hC hx F2 N2
    clear F1 N1
    k_steps
    all_goals first | exact F2 | exact N2
  · intro ys ns hys hly
    unfold LCg.FinA
    intro D2 h2 tk2 F2 N2 o1
    clear F1 N1
    have hly2 : ys.length ≤ 24 := by rw [hly]; simpa using hws
    k_steps
    rename_i hq tkq tq b9 h9 F9 N9 l9 kF kN kT kX
    refine ret b9 D2 ys ns _ _ _ 0 ys.length [(D1, listOf (List.toArray ws1) 0)] h9 _ kF kN hys (by omega) ?_
    exact List.forall_mem_cons.mpr ⟨Nat.ne_of_lt l9.1, List.forall_mem_cons.mpr ⟨Nat.ne_of_lt l9.2.1, fun q hq => Nat.ne_of_lt (tb_ltOf l9.2.2 q hq)⟩⟩
end
end

/-! part Z2 -/
section
set_option maxHeartbeats 1600000
theorem litEq {α : Type} {x : Option α} {o o' : α} (h : x = some o') (lk : x = some o) {P : Prop} (k : o = o' → P) : P := k (by rw [lk] at h; cases h; rfl)
/-- of the ledger behind a list of pairs only the pairs are kept -/
theorem datAll_seq {im : List (Addr × Obj)} : ∀ {R : List (Int × Int)} {vs : List Value}, DatAll im vs (pd R) → ∃ im', (∀ q ∈ im', q ∈ im) ∧ DatAll im' vs (pd R) ∧ ∀ q ∈ im', ∃ items n, q.2.data = .seq items n
  | [], vs, h => by
    cases h
    exact ⟨[], (fun q hq => absurd hq List.not_mem_nil), .nil, (fun q hq => absurd hq List.not_mem_nil)⟩
  | (x, y) :: R, vs, h => by
    obtain ⟨t, k, tx, ty, vs', rfl, hm, hD, hn⟩ := pl_cons h
    obtain ⟨im', h1, h2, h3⟩ := datAll_seq hD
    refine ⟨(t, tup2 x tx y ty k) :: im', List.forall_mem_cons.mpr ⟨hm, h1⟩, ?_, List.forall_mem_cons.mpr ⟨⟨_, _, rfl⟩, h3⟩⟩
    exact DatAll.cons (.tuple List.mem_cons_self (.cons (.int _ _) (.cons (.int _ _) .nil))) (h2.mono fun p hp => .tail _ hp)
theorem off_cell {h₀ h : Heap} {L c : Addr} {o : Obj} {v : Option Value} {all l : List (Addr × Obj)} (N : News h₀ L h all) (hc : (c, o) ∈ all) (d : o.data = .cell v) (hl : ∀ q ∈ l, q ∈ all) (hs : ∀ q ∈ l, ∃ items n, q.2.data = .seq items n) : ∀ q ∈ l, q.1 ≠ c := fun q hq e => by
  have z := (N q (hl q hq)).1
  rw [e, (N _ hc).1] at z
  obtain ⟨items, n, z2⟩ := hs q hq
  rw [← Option.some.inj z, d] at z2
  cases z2
section
variable {w : World} {p : Program} {loose : List Str} {mean : ExcName → Option Value} {mg mb : Str → Option Value}
 {dp un : Nat} {fa : Addr} {cd : Value} {A₀ : Around} {base h₀ : Heap} {L l c1 c2 c3 : Addr} {m : Str → Option Value} {o1 o2 o3 : Obj} {news : List (Addr × Obj)} {s : Shared}
 {nm ql : Str} {params : Arguments} {body : List Stmt} {scope : Scope} {dV kV doc pm cdv ct oc : Value} {an od : Option Addr} {osl : Array (Option Value)}
 {Q : Flow → Shared → Prop} {E : Value → Shared → Prop}
theorem drawn_spec' {cn : Str} {cs : Scope} {a b c : Addr} {ccd : Value} {gd : Option (List PySem.Code)} {cl : List (Str × Addr)} {outer : List Env} {xs : List Value} {ns : List Int} {k z : Int} {tk tz : Tok} {nb nc : Nat} {rest : List (Addr × Obj)} {Q E : Value → Shared → Prop} (B : Below A₀ base outer h₀) (F : Fr h₀ L s.heap m) (X : (Mine.hd.heap_39 w.params).In h₀) (N : News h₀ L s.heap news)
  (U : Rem b (listOf (List.toArray [.ref c, .int k tk, .int z tz]) nb) news rest) (T : Top p loose mean mg mb h₀) (hk : cs.kind = .function) (hd : dp + 2 < recursionLimit) (hu : un + 16 < cLine)
  (hc : (c, listOf (List.toArray xs) nc) ∈ rest) (hI : IntsAre xs ns) (hk0 : 0 ≤ k) (hk1 : k < 900) (hlen : xs.length ≤ 100)
  (ret : ∀ (R : List (Int × Int)) (M : Int) (f : Addr) (fvs : List Value) (nf : Nat) (tl : List (Addr × Obj)) k' t1 t2 n' h' tk', Dsc M R → M ≤ 300000 → 1 ≤ R.length → R.length ≤ 6 → k ≤ k' → k' ≤ k + 20 → DatAll tl fvs (pd R) → Fr h₀ L h' m →
     News h₀ L h' ((f, listOf (List.toArray fvs) nf) :: (b, listOf (List.toArray [.ref c, .int k' t1, .int z t2]) n') :: (tl ++ rest)) → (∀ q ∈ tl ++ rest, q.1 ≠ b) → f ≠ b → Q (.ref f) { s with heap := h', toks := tk' }) :
  wpAny (model (PySem.Challenge.rw_no0056_01.row.prog) w) (ktrTop dp un gd cn cs L a ccd cl outer) (call (.ref 103) [.ref b]) Q E s :=
  drawn_spec B F X (news_sub _ N U.sub) T hk hd hu U.off hc hI hk0 hk1 hlen ret
local macro_rules | `(tactic| walk_at "rem") => `(tactic| first | (refine' Rem.head (by k_all)) | (refine' Rem.tail ?a ?b; (case a => k_ne); (case b => walk_at "rem")) | (refine' Rem.app ?a ?b; (case a => assumption); (case b => walk_at "rem")))
theorem law_1 (lk : PySem.Challenge.rw_no0056_01.row.prog.theDef (Str.ofString "law") = some (params, body, scope))
  {vs0 : List Value} {ns0 : List Int} (B : Below A₀ base [] h₀) (F : Fr h₀ L s.heap (fun y => if y = Str.ofString "script" then some (.ref l) else none)) (X : (Mine.hd.heap_39 w.params).In h₀)
  (N : News h₀ L s.heap [(c3, o3), (c2, o2), (c1, o1)]) (d1 : o1.data = .cell none) (d2 : o2.data = .cell none) (d3 : o3.data = .cell none) (T : Top p loose mean mg mb h₀) (hd : dp + 40 < recursionLimit) (hu : un + 320 < cLine)
  (hl : h₀.IsList l vs0.toArray) (hI : IntsAre vs0 ns0) (hlen : ¬ ((63 : Nat) : Int) < (ns0.length : Int)) (n12 : @Ne Nat c1 c2) (n13 : @Ne Nat c1 c3) (n23 : @Ne Nat c2 c3)
  (k : ∀ (R : List (Int × Int)) (M : Int) (f : Addr) (fvs : List Value) (nf : Nat) (tl : List (Addr × Obj)) (d room : Int) (td tr : Tok) o1 o2 o3 m' h' tk', Dsc M R → M ≤ 300000 → 1 ≤ R.length → R.length ≤ 6 → DatAll tl fvs (pd R) → 0 ≤ d → d ≤ 16384 → 0 ≤ room → room < 40 →
    Fr h₀ L h' m' → News h₀ L h' ((c3, o3) :: (c2, o2) :: (c1, o1) :: (f, listOf (List.toArray fvs) nf) :: tl) → o1.data = .cell (some (.ref f)) → o2.data = .cell (some (.int d td)) → o3.data = .cell (some (.int room tr)) →
    wpR (model (PySem.Challenge.rw_no0056_01.row.prog) w) (ktrTop dp un (some []) ql scope L fa cd [(Str.ofString "room", c3), (Str.ofString "delay", c2), (Str.ofString "ranges_here", c1)] []) (execs (body.drop 3) (envX ql scope L fa cd [(Str.ofString "room", c3), (Str.ofString "delay", c2), (Str.ofString "ranges_here", c1)])) Q E { s with heap := h', toks := tk' }) :
  wpR (model (PySem.Challenge.rw_no0056_01.row.prog) w) (ktrTop dp un (some []) ql scope L fa cd [(Str.ofString "room", c3), (Str.ofString "delay", c2), (Str.ofString "ranges_here", c1)] []) (execs body (envX ql scope L fa cd [(Str.ofString "room", c3), (Str.ofString "delay", c2), (Str.ofString "ranges_here", c1)])) Q E s := by
  revert X
  w_top off
  k_fill
  intro X
  refine' litEq (o' := (_, _, _)) ?h lk ?_
  case h => with_unfolding_all rfl
  intro e
  cases e
  refine wpR_execsA ?_
  k_steps
  repeat' (first | ((k_here; (with_reducible show wpAny _ _ (call (Value.ref 89) _ _) _ _ _); k_dflt (refine' box_spec (by k_asm) (by k_asm) (by k_asm) (by k_asm) (by k_asm) (by first | exact rfl | assumption) (by ktr_room) (by ktr_units) (by assumption) (by assumption) (by assumption) ?_; k_whole); intro _ _ _ _ _ _ _ _ _ _ _ _ _ _ _ _ _); (try k_steps)) | ((k_here; (with_reducible show wpAny _ _ (call (Value.ref 103) _ _) _ _ _); k_dflt (refine' drawn_spec' (by k_asm) (by k_asm) (by k_asm) (by k_asm) (by walk_at "rem") (by k_asm) (by first | exact rfl | assumption) (by ktr_room) (by ktr_units) (by k_mem) (by assumption) (by omega) (by omega) (by assumption) ?_; k_whole); intro _ _ _ _ _ _ _ _ _ _ _ _ _ _ _ _ _ _ _ _ _ _ _); (try k_steps)) | ((k_here; (with_reducible show wpAny _ _ (call (Value.ref 96) _ _) _ _ _); k_dflt (refine' take_spec' (by k_asm) (by k_asm) (by k_asm) (by k_asm) (by walk_at "rem") (by k_asm) (by first | exact rfl | assumption) (by ktr_room) (by ktr_units) (by k_mem) (by assumption) (by omega) (by omega) (by assumption) (by decide) ?_; k_whole); intro _ _ _ _ _ _ _ _ _ _ _); (try k_steps)))
  rename_i b c xs ns z tk91 tz nb nc tl h9 tk9 I9 xl ob h1 F1 N1
  have e1 : @Ne Nat c1 b := ob (c1, o1) (by k_mem)
  have e2 : @Ne Nat c2 b := ob (c2, o2) (by k_mem)
  have e3 : @Ne Nat c3 b := ob (c3, o3) (by k_mem)
  have ec : @Ne Nat c b := ob (c, _) List.mem_cons_self
  have et : ∀ q ∈ tl, q.1 ≠ b := fun q hq => ob q (by k_mem)
  have N2 := news_sub ((c3, o3) :: (c2, o2) :: (c1, o1) :: (b, listOf (List.toArray [.ref c, .int 0 tk91, .int z tz]) nb) :: (c, listOf (List.toArray xs) nc) :: tl) N1 (by kqd_sub)
  have eb : ∀ q ∈ (c, listOf (List.toArray xs) nc) :: tl, q.1 ≠ b := List.forall_mem_cons.mpr ⟨ec, et⟩
  clear N1 ob
  refine wpR_execsA ?_
  k_steps
  repeat' (first | ((k_here; (with_reducible show wpAny _ _ (call (Value.ref 89) _ _) _ _ _); k_dflt (refine' box_spec (by k_asm) (by k_asm) (by k_asm) (by k_asm) (by k_asm) (by first | exact rfl | assumption) (by ktr_room) (by ktr_units) (by assumption) (by assumption) (by assumption) ?_; k_whole); intro _ _ _ _ _ _ _ _ _ _ _ _ _ _ _ _ _); (try k_steps)) | ((k_here; (with_reducible show wpAny _ _ (call (Value.ref 103) _ _) _ _ _); k_dflt (refine' drawn_spec' (by k_asm) (by k_asm) (by k_asm) (by k_asm) (by walk_at "rem") (by k_asm) (by first | exact rfl | assumption) (by ktr_room) (by ktr_units) (by k_mem) (by assumption) (by omega) (by omega) (by assumption) ?_; k_whole); intro _ _ _ _ _ _ _ _ _ _ _ _ _ _ _ _ _ _ _ _ _ _ _); (try k_steps)) | ((k_here; (with_reducible show wpAny _ _ (call (Value.ref 96) _ _) _ _ _); k_dflt (refine' take_spec' (by k_asm) (by k_asm) (by k_asm) (by k_asm) (by walk_at "rem") (by k_asm) (by first | exact rfl | assumption) (by ktr_room) (by ktr_units) (by k_mem) (by assumption) (by omega) (by omega) (by assumption) (by decide) ?_; k_whole); intro _ _ _ _ _ _ _ _ _ _ _); (try k_steps)))
  rename_i R M f fvs nf tl9 k9 t91 t92 n9 h2 tk2 rD rM rl1 rl6 rk0 rk1 rvs rob rfb lm h3 l3 r4 t4 t41 t42 n4 h4 tk4 r40 r41 t5 D5 h5 l5 h6 F6 N6
  obtain ⟨tl', hsub, hD', hseq⟩ := datAll_seq rvs
  have N3 := news_sub ((c1, o1) :: (c2, o2) :: (c3, o3) :: (f, listOf (List.toArray fvs) nf) :: (b, listOf (List.toArray [.ref c, .int (k9 + 1) t41, .int z t42]) n4) :: (c, listOf (List.toArray xs) nc) :: tl') N6 (by
    refine List.forall_mem_cons.mpr ⟨by k_mem, List.forall_mem_cons.mpr ⟨by k_mem, List.forall_mem_cons.mpr ⟨by k_mem, List.forall_mem_cons.mpr ⟨by k_mem, List.forall_mem_cons.mpr ⟨by k_mem, List.forall_mem_cons.mpr ⟨by k_mem, fun q hq => ?_⟩⟩⟩⟩⟩⟩
    have := hsub q hq
    k_mem)
  have hs : ∀ q ∈ (f, listOf (List.toArray fvs) nf) :: (b, listOf (List.toArray [.ref c, .int (k9 + 1) t41, .int z t42]) n4) :: (c, listOf (List.toArray xs) nc) :: tl', ∃ items n, q.2.data = .seq items n := List.forall_mem_cons.mpr ⟨⟨_, _, rfl⟩, List.forall_mem_cons.mpr ⟨⟨_, _, rfl⟩, List.forall_mem_cons.mpr ⟨⟨_, _, rfl⟩, hseq⟩⟩⟩
  have off1 := off_cell N3 List.mem_cons_self d1 (fun q hq => List.mem_cons_of_mem _ (List.mem_cons_of_mem _ (List.mem_cons_of_mem _ hq))) hs
  have off2 := off_cell N3 (List.mem_cons_of_mem _ List.mem_cons_self) d2 (fun q hq => List.mem_cons_of_mem _ (List.mem_cons_of_mem _ (List.mem_cons_of_mem _ hq))) hs
  have off3 := off_cell N3 (List.mem_cons_of_mem _ (List.mem_cons_of_mem _ List.mem_cons_self)) d3 (fun q hq => List.mem_cons_of_mem _ (List.mem_cons_of_mem _ (List.mem_cons_of_mem _ hq))) hs
  clear N6
  refine storeX_C F6 N3 rfl (UpdF.head (List.forall_mem_cons.mpr ⟨n12.symm, List.forall_mem_cons.mpr ⟨n13.symm, off1⟩⟩)) d1 (fun h7 o1' F7 N7 d1' => ?_) rfl rfl
  clear N3 F6
  k_steps
  repeat' (first | ((k_here; (with_reducible show wpAny _ _ (call (Value.ref 89) _ _) _ _ _); k_dflt (refine' box_spec (by k_asm) (by k_asm) (by k_asm) (by k_asm) (by k_asm) (by first | exact rfl | assumption) (by ktr_room) (by ktr_units) (by assumption) (by assumption) (by assumption) ?_; k_whole); intro _ _ _ _ _ _ _ _ _ _ _ _ _ _ _ _ _); (try k_steps)) | ((k_here; (with_reducible show wpAny _ _ (call (Value.ref 103) _ _) _ _ _); k_dflt (refine' drawn_spec' (by k_asm) (by k_asm) (by k_asm) (by k_asm) (by walk_at "rem") (by k_asm) (by first | exact rfl | assumption) (by ktr_room) (by ktr_units) (by k_mem) (by assumption) (by omega) (by omega) (by assumption) ?_; k_whole); intro _ _ _ _ _ _ _ _ _ _ _ _ _ _ _ _ _ _ _ _ _ _ _); (try k_steps)) | ((k_here; (with_reducible show wpAny _ _ (call (Value.ref 96) _ _) _ _ _); k_dflt (refine' take_spec' (by k_asm) (by k_asm) (by k_asm) (by k_asm) (by walk_at "rem") (by k_asm) (by first | exact rfl | assumption) (by ktr_room) (by ktr_units) (by k_mem) (by assumption) (by omega) (by omega) (by assumption) (by decide) ?_; k_whole); intro _ _ _ _ _ _ _ _ _ _ _); (try k_steps)))
  rename_i h8 o2' F8 N8 d2'
  refine wpR_execsA ?_
  have ebt : ∀ q ∈ (c, listOf (List.toArray xs) nc) :: tl', q.1 ≠ b := List.forall_mem_cons.mpr ⟨ec, fun q hq => rob q (by have := hsub q hq; k_mem)⟩
  have off3' : ∀ q ∈ (f, listOf (List.toArray fvs) nf) :: (c, listOf (List.toArray xs) nc) :: tl', q.1 ≠ c3 := fun q hq => off3 q (by
    rcases List.mem_cons.mp hq with rfl | hq
    · k_mem
    · k_mem)
  k_steps
  repeat' (first | ((k_here; (with_reducible show wpAny _ _ (call (Value.ref 89) _ _) _ _ _); k_dflt (refine' box_spec (by k_asm) (by k_asm) (by k_asm) (by k_asm) (by k_asm) (by first | exact rfl | assumption) (by ktr_room) (by ktr_units) (by assumption) (by assumption) (by assumption) ?_; k_whole); intro _ _ _ _ _ _ _ _ _ _ _ _ _ _ _ _ _); (try k_steps)) | ((k_here; (with_reducible show wpAny _ _ (call (Value.ref 103) _ _) _ _ _); k_dflt (refine' drawn_spec' (by k_asm) (by k_asm) (by k_asm) (by k_asm) (by walk_at "rem") (by k_asm) (by first | exact rfl | assumption) (by ktr_room) (by ktr_units) (by k_mem) (by assumption) (by omega) (by omega) (by assumption) ?_; k_whole); intro _ _ _ _ _ _ _ _ _ _ _ _ _ _ _ _ _ _ _ _ _ _ _); (try k_steps)) | ((k_here; (with_reducible show wpAny _ _ (call (Value.ref 96) _ _) _ _ _); k_dflt (refine' take_spec' (by k_asm) (by k_asm) (by k_asm) (by k_asm) (by walk_at "rem") (by k_asm) (by first | exact rfl | assumption) (by ktr_room) (by ktr_units) (by k_mem) (by assumption) (by omega) (by omega) (by assumption) (by decide) ?_; k_whole); intro _ _ _ _ _ _ _ _ _ _ _); (try k_steps)))
  rename_i r9 t9 t91' t92' n9' h9' tk9' r90 r91 h10 o3' F10 N10 d3'
  have mn : ∀ j : Nat, 0 ≤ ([0, 63, 64, 16384] : List Int).getD j 0 ∧ ([0, 63, 64, 16384] : List Int).getD j 0 ≤ 16384 := fun j => by
    rcases j with _ | _ | _ | _ | j
    all_goals simp
  exact k R M f fvs nf tl' _ r9 t5 t9 o1' o2' o3' _ h10 _ rD rM rl1 rl6 hD' (mn _).1 (mn _).2 r90 r91 F10 (news_sub _ N10 (by kqd_sub)) d1' d2' d3'
end
end

/-! part Z3 -/
section
set_option maxHeartbeats 1600000
theorem dsc_gp : ∀ {R : List (Int × Int)} {b : Int}, Dsc b R → b ≤ 300000 → ∀ q ∈ gp b R, (0 ≤ q.1 ∧ q.1 < 4611686018427387904) ∧ 0 ≤ q.2 ∧ q.2 < 4611686018427387904
  | [], _, _, _, q, hq => absurd hq List.not_mem_nil
  | (u, v) :: R, b, ⟨h0, h1, h2, h3⟩, hb, q, hq => by
    unfold gp at hq
    rcases List.mem_cons.mp hq with rfl | hq
    · dsimp only
      omega
    · exact dsc_gp h3 (by omega) q hq
theorem dsc_take : ∀ {R : List (Int × Int)} {b : Int} (i : Nat), Dsc b R → Dsc b (R.take i)
  | [], _, i, _ => by rw [List.take_nil]; trivial
  | (u, v) :: R, b, 0, _ => trivial
  | (u, v) :: R, b, i + 1, ⟨h0, h1, h2, h3⟩ => ⟨h0, h1, h2, dsc_take i h3⟩
theorem dsc_low : ∀ {R : List (Int × Int)} {b : Int}, Dsc b R → ∀ q ∈ R, 0 ≤ q.1
  | [], _, _, q, hq => absurd hq List.not_mem_nil
  | (u, v) :: R, b, ⟨h0, h1, h2, h3⟩, q, hq => by
    rcases List.mem_cons.mp hq with rfl | hq
    · exact h0
    · exact dsc_low h3 q hq
theorem pl_take {im : List (Addr × Obj)} {vs : List Value} {R : List (Int × Int)} (h : DatAll im vs (pd R)) (i : Nat) : DatAll im (vs.take i) (pd (R.take i)) := by
  induction R generalizing vs i with
  | nil => cases h; rw [List.take_nil, List.take_nil]; exact .nil
  | cons x R ih =>
    cases i with
    | zero => exact .nil
    | succ i =>
      cases h with
      | cons a b => exact .cons a (ih b i)
theorem packed_len (d lo hi : Int) (R : List (Int × Int)) : (packed d lo hi R).length ≤ 32 + 16 * R.length := by
  unfold packed
  have h1 := enc_len hi
  have h2 := enc_len d
  have h3 := enc_len (R.length : Int)
  have h4 := enc_len (hi - lo)
  have h5 := encs_len (gp lo R)
  rw [gp_len] at h5
  simp only [List.length_append]
  omega
theorem size_from1 (n : Nat) : Builtin.Range.rangeSize 1 ((n : Int) + 1) 1 = (n : Int) := by
  unfold Builtin.Range.rangeSize
  simp
  omega
section
variable {w : World} {p : Program} {loose : List Str} {mean : ExcName → Option Value} {mg mb : Str → Option Value}
 {dp un : Nat} {fa : Addr} {cd : Value} {A₀ : Around} {base h₀ : Heap} {L l c1 c2 c3 : Addr} {m : Str → Option Value} {o1 o2 o3 : Obj} {news : List (Addr × Obj)} {s : Shared}
 {nm ql : Str} {params : Arguments} {body : List Stmt} {scope : Scope} {dV kV doc pm cdv ct oc : Value} {an od : Option Addr} {osl : Array (Option Value)}
 {Q : Flow → Shared → Prop} {E : Value → Shared → Prop}
theorem law_2 (lk : PySem.Challenge.rw_no0056_01.row.prog.theDef (Str.ofString "law") = some (params, body, scope))
  {f : Addr} {fvs : List Value} {nf : Nat} {tl : List (Addr × Obj)} {M lo hi d room : Int} {td tr : Tok} {R : List (Int × Int)}
  (B : Below A₀ base [] h₀) (F : Fr h₀ L s.heap m) (X : (Mine.hd.heap_39 w.params).In h₀)
  (N : News h₀ L s.heap ((c3, o3) :: (c2, o2) :: (c1, o1) :: (f, listOf (List.toArray fvs) nf) :: tl)) (d1 : o1.data = .cell (some (.ref f))) (d2 : o2.data = .cell (some (.int d td))) (d3 : o3.data = .cell (some (.int room tr))) (T : Top p loose mean mg mb h₀) (hd : dp + 40 < recursionLimit) (hu : un + 320 < cLine)
  (hDs : Dsc M ((lo, hi) :: R)) (hM : M ≤ 300000) (hR : R.length ≤ 5) (hD : DatAll tl fvs (pd ((lo, hi) :: R))) (hd0 : 0 ≤ d) (hd1 : d ≤ 16384)
  (k : ∀ (D : Addr) (ys : List Value) h' tk', ys.length = R.length + 1 → (∀ (j : Nat) (y : Value), ys[j]? = some y → ∃ t, y = .int ((packed d lo hi (R.take j)).length : Int) t) → (∀ q ∈ (c3, o3) :: (c2, o2) :: (c1, o1) :: (f, listOf (List.toArray fvs) nf) :: tl, q.1 ≠ D) → Fr h₀ L h' (fun z => if z = Str.ofString "sizes" then some (.ref D) else m z) →
    News h₀ L h' ((D, LCg.lst ys) :: (c3, o3) :: (c2, o2) :: (c1, o1) :: (f, listOf (List.toArray fvs) nf) :: tl) →
    wpR (model (PySem.Challenge.rw_no0056_01.row.prog) w) (ktrTop dp un (some []) ql scope L fa cd [(Str.ofString "room", c3), (Str.ofString "delay", c2), (Str.ofString "ranges_here", c1)] []) (execs (body.drop 4) (envX ql scope L fa cd [(Str.ofString "room", c3), (Str.ofString "delay", c2), (Str.ofString "ranges_here", c1)])) Q E { s with heap := h', toks := tk' }) :
  wpR (model (PySem.Challenge.rw_no0056_01.row.prog) w) (ktrTop dp un (some []) ql scope L fa cd [(Str.ofString "room", c3), (Str.ofString "delay", c2), (Str.ofString "ranges_here", c1)] []) (execs (body.drop 3) (envX ql scope L fa cd [(Str.ofString "room", c3), (Str.ofString "delay", c2), (Str.ofString "ranges_here", c1)])) Q E s := by
  revert X
  w_top off
  k_fill
  intro X
  refine' litEq (o' := (_, _, _)) ?h lk ?_
  case h => with_unfolding_all rfl
  intro e
  cases e
  have hfl := pl_len hD
  rw [List.length_cons] at hfl
  refine wpR_execsR ?_
  refine comp_assignR (h₀ := h₀) (m := m) (news := (c3, o3) :: (c2, o2) :: (c1, o1) :: (f, listOf (List.toArray fvs) nf) :: tl) (n := R.length + 1) (a₀ := 1) (P := fun j y => ∃ t, y = .int ((packed d lo hi (R.take j)).length : Int) t) rfl (by with_unfolding_all rfl) (by rfl) (by rfl) (by with_unfolding_all rfl) (by decide) (by rfl) (by decide) (by rfl) rfl (by rw [PySem.sizeLine_eq]; omega) ?_ ?_ ?_
  · k_fold
    k_steps
    repeat' (first | ((k_here; (with_reducible show wpAny _ _ (call (Value.builtin "len") [Value.ref _]) _ _ _); k_dflt (refine' len_led (by k_asm) (by k_mem) (by first | assumption | exact rfl) (by omega) ?_; k_whole)); (try k_steps)) | ((k_here; (with_reducible show wpAny _ _ (subscriptTail _ (PySem.Expr.Slice none (some _) none _) (Value.ref _) (Value.ref _)) _ _ _); k_dflt (refine' kms_slice_lit (by k_asm) (by k_asm) (by exact News.isList (by k_asm) (by k_mem)) (by kmk_part) (by kmk_part) (by exact kp_take _ (by omega)) ?_ (by with_unfolding_all rfl) (by kmk_pure) (by first | assumption | size_fits)); intro _ _ _ _ _); (try k_steps)))
    · exact small_1 (by omega) (by omega) (by omega) (by omega)
    · exact size_from1 _
    · assumption
    · assumption
  · intro i t I oI C oC m₂ D ys h tk hi9 hC hx off F1 N1
    refine evalCallR ?_
    clear F N
    k_fold
    k_steps
    repeat' (first | ((k_here; (with_reducible show wpAny _ _ (call (Value.builtin "len") [Value.ref _]) _ _ _); k_dflt (refine' len_led (by k_asm) (by k_mem) (by first | assumption | exact rfl) (by omega) ?_; k_whole)); (try k_steps)) | ((k_here; (with_reducible show wpAny _ _ (subscriptTail _ (PySem.Expr.Slice none (some _) none _) (Value.ref _) (Value.ref _)) _ _ _); k_dflt (refine' kms_slice_lit (by k_asm) (by k_asm) (by exact News.isList (by k_asm) (by k_mem)) (by kmk_part) (by kmk_part) (by exact kp_take _ (by omega)) ?_ (by with_unfolding_all rfl) (by kmk_pure) (by first | assumption | size_fits)); intro _ _ _ _ _); (try k_steps)))
    refine callWithR_one (K := Mine.hd.heap_39 w.params) (fun h _ => ⟨.machine, .inr (.inl rfl), Looks.of_pure (by with_unfolding_all rfl)⟩) ?_
    refine evalCallR ?_
    k_fold
    k_steps
    repeat' (first | ((k_here; (with_reducible show wpAny _ _ (call (Value.builtin "len") [Value.ref _]) _ _ _); k_dflt (refine' len_led (by k_asm) (by k_mem) (by first | assumption | exact rfl) (by omega) ?_; k_whole)); (try k_steps)) | ((k_here; (with_reducible show wpAny _ _ (subscriptTail _ (PySem.Expr.Slice none (some _) none _) (Value.ref _) (Value.ref _)) _ _ _); k_dflt (refine' kms_slice_lit (by k_asm) (by k_asm) (by exact News.isList (by k_asm) (by k_mem)) (by kmk_part) (by kmk_part) (by exact kp_take _ (by omega)) ?_ (by with_unfolding_all rfl) (by kmk_pure) (by first | assumption | size_fits)); intro _ _ _ _ _); (try k_steps)))
    refine callWithR_K (K := Mine.hd.heap_39 w.params) (by k_is) ?_
    k_fold
    k_steps
    repeat' (first | ((k_here; (with_reducible show wpAny _ _ (call (Value.builtin "len") [Value.ref _]) _ _ _); k_dflt (refine' len_led (by k_asm) (by k_mem) (by first | assumption | exact rfl) (by omega) ?_; k_whole)); (try k_steps)) | ((k_here; (with_reducible show wpAny _ _ (subscriptTail _ (PySem.Expr.Slice none (some _) none _) (Value.ref _) (Value.ref _)) _ _ _); k_dflt (refine' kms_slice_lit (by k_asm) (by k_asm) (by exact News.isList (by k_asm) (by k_mem)) (by kmk_part) (by kmk_part) (by exact kp_take _ (by omega)) ?_ (by with_unfolding_all rfl) (by kmk_pure) (by first | assumption | size_fits)); intro _ _ _ _ _); (try k_steps)))
    have e9 : (1 + (i : Int)).toNat = i + 1 := by omega
    rename News _ _ _ _ => N9
    rw [e9] at N9
    have hlo := hDs.1
    have hlh := hDs.2.1
    have hhM := hDs.2.2.1
    refine putr_spec (R := R.take i) (by k_asm) (by k_asm) (by k_asm) N9 (by k_asm) rfl (by ktr_room) (by ktr_units) List.mem_cons_self ((pl_take hD (i + 1)).mono fun q hq => by k_mem) (by rw [List.length_take]; omega) hd0 (by omega) (by omega) (by omega) (by omega) (by omega)
      (dsc_gp (dsc_take i hDs.2.2.2) (by omega)) (fun t9 h9 tk9 F9 N9 => ⟨X.keeps F9.keep, ?_⟩)
    refine wpR_of ?_
    have pl := packed_len d lo hi (R.take i)
    rw [List.length_take] at pl
    refine len_bytes (by simp only [List.size_toArray]; omega) ?_
    exact ⟨⟨_, rfl⟩, h9, _, rfl, F9, news_sub _ N9 (by kqd_sub)⟩
  · intro D ys h tk hl hP off F1 N1
    exact k D ys h tk hl hP off F1 N1
end
end

/-! part Z4 -/
section
set_option maxHeartbeats 1600000
section
variable {prog : Program} {w : World} {A : Around} {s : Shared} {h₀ : Heap} {L : Addr} {m : Str → Option Value} {env : Env}
/-- a comprehension that keeps the ints up to c -/
theorem comp_upto {ct elt : PySem.Expr} {x : Str} {scope : Scope} {cl : List (Str × Addr)} {S : List (Addr × Obj) → Prop} {P : Nat → Value → Prop} {Fin : List Value → List (Addr × Obj) → Prop} {news : List (Addr × Obj)} {n : Nat} {ks : List Int} {c : Int} (hS : S news) (hks : ks.length = n)
    (hP : ∀ i v, i < n → P i v → ∃ k t, ks[i]? = some k ∧ v = .int k t)
    (test : ∀ k t I oI C oC D m₂ ys h tk (E' : Value → Shared → Prop), LCg.NsObj oC m₂ → m₂ x = some (.int k t) → Fr h₀ L h m → News h₀ L h ((I, oI) :: (C, oC) :: (D, LCg.lst ys) :: news) →
      wpAny (model prog w) A (isTrue ct (compEnvC scope cl C env) (eval ct (compEnvC scope cl C env))) (fun b s₄ => b = decide (k ≤ c) ∧ ∃ h' tk', s₄ = { s with heap := h', toks := tk' } ∧ Fr h₀ L h' m ∧ News h₀ L h' ((I, oI) :: (C, oC) :: (D, LCg.lst ys) :: news)) E' { s with heap := h, toks := tk })
    (turn : ∀ k t I oI C oC D m₂ ys h tk (E' : Value → Shared → Prop), LCg.NsObj oC m₂ → m₂ x = some (.int k t) → Fr h₀ L h m → News h₀ L h ((I, oI) :: (C, oC) :: (D, LCg.lst ys) :: news) →
      wpAny (model prog w) A (eval elt (compEnvC scope cl C env)) (fun y s₄ => (∃ t, y = .int k t) ∧ ∃ h' tk', s₄ = { s with heap := h', toks := tk' } ∧ Fr h₀ L h' m ∧ News h₀ L h' ((I, oI) :: (C, oC) :: (D, LCg.lst ys) :: news)) E' { s with heap := h, toks := tk })
    (fin : ∀ ys, IntsAre ys (ks.filter fun k => decide (k ≤ c)) → Fin ys news) : LCt.CompRestT prog w A h₀ L m env ct elt x scope cl s S P Fin n 0 [] news := by
  have key : ∀ (j i : Nat) (ys : List Value), i + j = n → IntsAre ys ((ks.take i).filter fun k => decide (k ≤ c)) → LCt.CompRestT prog w A h₀ L m env ct elt x scope cl s S P Fin j i ys news := by
    intro j
    induction j with
    | zero =>
      intro i ys hi hy
      have e : i = ks.length := by omega
      subst e
      rw [List.take_length] at hy
      exact LCt.CompRestT.zero (fin ys hy)
    | succ j ih =>
      intro i ys hi hy
      refine LCt.CompRestT.succ fun v I oI C oC D m₂ h tk E' hv hC hx F N off ne => ?_
      obtain ⟨k, t, hk, rfl⟩ := hP i v (by omega) hv
      have hs : (ks.take (i + 1)).filter (fun k => decide (k ≤ c)) = (ks.take i).filter (fun k => decide (k ≤ c)) ++ (if k ≤ c then [k] else []) := by
        rw [List.take_add_one, hk, List.filter_append]
        by_cases hc : k ≤ c <;> simp [hc]
      refine wpAny_mono (test k t I oI C oC D m₂ ys h tk E' hC hx F N) (fun b s₃ h₃ => ?_) fun _ _ e => e
      obtain ⟨rfl, h', tk', rfl, F', N'⟩ := h₃
      by_cases hc : k ≤ c
      · rw [if_pos (by simpa using hc)]
        refine wpAny_mono (turn k t I oI C oC D m₂ ys h' tk' E' hC hx F' N') (fun y s₄ h₄ => ?_) fun _ _ e => e
        obtain ⟨⟨t', rfl⟩, h2, tk2, rfl, F2, N2⟩ := h₄
        refine ⟨h2, tk2, news, rfl, F2, N2, off, hS, ih (i + 1) _ (by omega) ?_⟩
        rw [hs, if_pos hc]
        exact IntsAre.append hy (.cons k t' .nil)
      · rw [if_neg (by simpa using hc)]
        refine ⟨h', tk', news, rfl, F', N', off, hS, ih (i + 1) _ (by omega) ?_⟩
        rw [hs, if_neg hc, List.append_nil]
        exact hy
  exact key n 0 [] (by omega) (by simp only [List.take_zero, List.filter_nil]; exact .nil)
end
/-- the lengths of the packed, the shorter first -/
def szs (d lo hi : Int) (R : List (Int × Int)) : List Int := (List.range (R.length + 1)).map fun j => ((packed d lo hi (R.take j)).length : Int)
theorem szs_ints {d lo hi : Int} {R : List (Int × Int)} {ys : List Value} (hl : ys.length = R.length + 1) (h : ∀ (j : Nat) (y : Value), ys[j]? = some y → ∃ t, y = .int ((packed d lo hi (R.take j)).length : Int) t) : IntsAre ys (szs d lo hi R) := by
  have key : ∀ n, n ≤ R.length + 1 → IntsAre (ys.take n) ((List.range n).map fun j => ((packed d lo hi (R.take j)).length : Int)) := by
    intro n
    induction n with
    | zero => intro _; rw [List.take_zero]; exact .nil
    | succ n ih =>
      intro hn
      obtain ⟨y, hy⟩ : ∃ y, ys[n]? = some y := ⟨_, List.getElem?_eq_getElem (by omega)⟩
      obtain ⟨t, rfl⟩ := h n y hy
      rw [take_snoc hy, List.range_succ, List.map_append]
      exact IntsAre.append (ih (by omega)) (.cons _ t .nil)
  have := key (R.length + 1) (Nat.le_refl _)
  rw [← hl, List.take_length, hl] at this
  exact this
end

/-! part Z5 -/
section
set_option maxHeartbeats 1600000
theorem kp_takeN (vs : List Value) (k : Nat) : kms_pick (List.toArray vs).toList none (some (k : Int)) = vs.take k := by rw [kp_take vs (Int.natCast_nonneg k), Int.toNat_natCast]
section
variable {prog : Program} {w : World} {A : Around} {E : Value → Shared → Prop} {s : Shared} {h₀ : Heap} {L a b : Addr} {news n₁ n₂ : List (Addr × Obj)} {xs ys : List Value} {ka kb : Nat} {R : List (Int × Int)} {Q : Value → Shared → Prop}
theorem pd_ok : ∀ d ∈ pd R, kqdOk 8 d = true := by
  intro d hd
  obtain ⟨x, _, hx⟩ := List.mem_map.mp hd
  subst hx
  rfl
/-- two lists of the same pairs do not differ -/
theorem ne_same (N : News h₀ L s.heap news) (ma : (a, listOf (List.toArray xs) ka) ∈ news) (Da : DatAll n₁ xs (pd R)) (sa : ∀ p ∈ n₁, p ∈ news)
    (mb : (b, listOf (List.toArray ys) kb) ∈ news) (Db : DatAll n₂ ys (pd R)) (sb : ∀ p ∈ n₂, p ∈ news) (hu : A.units + 64 < cLine) (h : Q (.bool false) s) : wpAny (model prog w) A (compareOp .NotEq (.ref a) (.ref b)) Q E s :=
  kqd_ne N ma rfl rfl Da sa mb rfl rfl Db sb pd_ok pd_ok hu (by simpa using h)
end
section
variable {w : World} {p : Program} {loose : List Str} {mean : ExcName → Option Value} {mg mb : Str → Option Value}
 {dp un : Nat} {fa : Addr} {cd : Value} {A₀ : Around} {base h₀ : Heap} {L l c1 c2 c3 : Addr} {m : Str → Option Value} {o1 o2 o3 : Obj} {news : List (Addr × Obj)} {s : Shared}
 {nm ql : Str} {params : Arguments} {body : List Stmt} {scope : Scope} {dV kV doc pm cdv ct oc : Value} {an od : Option Addr} {osl : Array (Option Value)}
 {Q : Flow → Shared → Prop} {E : Value → Shared → Prop}
local macro_rules | `(tactic| walk_at "subscriptTail Name Slice ref ref") => `(tactic| (k_here; (with_reducible show wpAny _ _ (subscriptTail _ (PySem.Expr.Slice none (some _) none _) (Value.ref _) (Value.ref _)) _ _ _); k_dflt (refine' kms_slice_lit (by k_asm) (by k_asm) (by exact News.isList (by k_asm) (by k_mem)) (by kmk_part) (by kmk_part) (by exact kp_takeN _ _) ?_ (by with_unfolding_all rfl) (by kmk_pure) (by first | assumption | size_fits)); intro D' h' F' N' l1))
local macro_rules | `(tactic| walk_at "call builtin:len") => `(tactic| (k_here; (with_reducible show wpAny _ _ (call (Value.builtin "len") [Value.ref _]) _ _ _); k_dflt (refine' len_led (by k_asm) (by k_mem) (by first | assumption | exact rfl) (by first | assumption | omega) ?_; k_whole)))
local macro_rules | `(tactic| walk_at "eval ListComp") => `(tactic| (k_here; k_dflt (refine LCt.ListComp_T (F₀ := by k_asm) (by with_unfolding_all rfl) (by decide) (by rfl) (by decide) (by rfl) ?_)))
local macro_rules | `(tactic| walk_at "CompSrcT") => `(tactic| fail "by hand")
local macro_rules | `(tactic| walk_at "subscriptTail Name UnaryOp") => `(tactic| (k_here; (with_reducible show wpAny _ _ (subscriptTail _ _ (Value.ref _) (Value.int _ _)) _ _ _); k_dflt (refine' item_neg1 (by k_asm) (by k_mem) (by assumption) ?_ (by with_unfolding_all rfl))))
theorem law_3 (lk : PySem.Challenge.rw_no0056_01.row.prog.theDef (Str.ofString "law") = some (params, body, scope))
  {f D : Addr} {fvs ys : List Value} {nf ny : Nat} {tl : List (Addr × Obj)} {M lo hi d room : Int} {td tr : Tok} {R : List (Int × Int)}
  (B : Below A₀ base [] h₀) (F : Fr h₀ L s.heap m) (X : (Mine.hd.heap_39 w.params).In h₀) (ms : m (Str.ofString "sizes") = some (.ref D))
  (N : News h₀ L s.heap ((D, listOf (List.toArray ys) ny) :: (c3, o3) :: (c2, o2) :: (c1, o1) :: (f, listOf (List.toArray fvs) nf) :: tl)) (d1 : o1.data = .cell (some (.ref f))) (d2 : o2.data = .cell (some (.int d td))) (d3 : o3.data = .cell (some (.int room tr))) (T : Top p loose mean mg mb h₀) (hd : dp + 40 < recursionLimit) (hu : un + 320 < cLine)
  (hDs : Dsc M ((lo, hi) :: R)) (hM : M ≤ 300000) (hR : R.length ≤ 5) (hD : DatAll tl fvs (pd ((lo, hi) :: R))) (hd0 : 0 ≤ d) (hd1 : d ≤ 16384)
  (hI : IntsAre ys (szs d lo hi R)) (hdue : ((szs d lo hi R).filter fun k => decide (k ≤ room)).length = fitN d lo hi room R) (hlast : fitN d lo hi ((szs d lo hi R).getD (-1 + ((szs d lo hi R).length : Int)).toNat 0) R = R.length + 1)
  (k : ∀ h' tk' m', Fr h₀ L h' m' → News h₀ L h' ((c3, o3) :: (c2, o2) :: (c1, o1) :: (f, listOf (List.toArray fvs) nf) :: tl) →
    wpR (model (PySem.Challenge.rw_no0056_01.row.prog) w) (ktrTop dp un (some []) ql scope L fa cd [(Str.ofString "room", c3), (Str.ofString "delay", c2), (Str.ofString "ranges_here", c1)] []) (execs (body.drop 6) (envX ql scope L fa cd [(Str.ofString "room", c3), (Str.ofString "delay", c2), (Str.ofString "ranges_here", c1)])) Q E { s with heap := h', toks := tk' }) :
  wpR (model (PySem.Challenge.rw_no0056_01.row.prog) w) (ktrTop dp un (some []) ql scope L fa cd [(Str.ofString "room", c3), (Str.ofString "delay", c2), (Str.ofString "ranges_here", c1)] []) (execs (body.drop 4) (envX ql scope L fa cd [(Str.ofString "room", c3), (Str.ofString "delay", c2), (Str.ofString "ranges_here", c1)])) Q E s := by
  revert X
  w_top off
  k_fill
  intro X
  refine' litEq (o' := (_, _, _)) ?h lk ?_
  case h => with_unfolding_all rfl
  intro e
  cases e
  have hfl := pl_len hD
  rw [List.length_cons] at hfl
  have hsl : (szs d lo hi R).length = R.length + 1 := by simp [szs]
  have F2 := fr_put F ms
  clear F
  refine wpR_execsA ?_
  show wpAny _ _ (exec _ _) _ _ _
  k_fold
  k_steps
  repeat' (first | ((k_here; (with_reducible show wpAny _ _ (compareOp CmpOp.NotEq (Value.ref _) (Value.ref _)) _ _ _); k_dflt (refine' ne_same ?N ?a ?Da ?sa ?b ?Db ?sb ?hu ?_; (case N => k_asm); (case a => k_mem); (case b => k_mem); (case Da => with_reducible assumption); (case Db => with_reducible assumption); (case sa => kqd_sub); (case sb => kqd_sub); (case hu => ke_room))); (try k_steps)))
  have hyl := hI.length
  rw [hsl] at hyl
  refine LCt.CompSrcT.ledger rfl F2 N List.mem_cons_self (sz_of (by omega)) (fun g => ?_)
  refine comp_upto (ks := szs d lo hi R) (c := room) (.inr ⟨_, List.mem_cons_self, rfl, _, rfl⟩) (by rw [hsl, List.size_toArray, hyl]) (fun i v hi9 hv => ?_) ?_ ?_ ?_
  · obtain ⟨k, t, e, hk⟩ := IntsAre.at hI i v (by simpa using hv)
    exact ⟨k, t, hk, e⟩
  · intro k t I oI C oC D2 m₂ ys2 h tk E' hC hx F1 N1
    clear F2 N
    k_steps
    repeat' (first | ((k_here; (with_reducible show wpAny _ _ (compareOp CmpOp.NotEq (Value.ref _) (Value.ref _)) _ _ _); k_dflt (refine' ne_same ?N ?a ?Da ?sa ?b ?Db ?sb ?hu ?_; (case N => k_asm); (case a => k_mem); (case b => k_mem); (case Da => with_reducible assumption); (case Db => with_reducible assumption); (case sa => kqd_sub); (case sb => kqd_sub); (case hu => ke_room))); (try k_steps)))
    all_goals first | exact F1 | exact N1
  · intro k t I oI C oC D2 m₂ ys2 h tk E' hC hx F1 N1
    clear F2 N
    k_steps
    repeat' (first | ((k_here; (with_reducible show wpAny _ _ (compareOp CmpOp.NotEq (Value.ref _) (Value.ref _)) _ _ _); k_dflt (refine' ne_same ?N ?a ?Da ?sa ?b ?Db ?sb ?hu ?_; (case N => k_asm); (case a => k_mem); (case b => k_mem); (case Da => with_reducible assumption); (case Db => with_reducible assumption); (case sa => kqd_sub); (case sb => kqd_sub); (case hu => ke_room))); (try k_steps)))
    all_goals first | exact F1 | exact N1
  · intro ys2 hys2
    have hy2 := hys2.length
    rw [hdue] at hy2
    have hfn : ys2.length ≤ R.length + 1 := by
      rw [hys2.length, ← hsl]
      exact List.length_filter_le _ _
    have hfz : fitN d lo hi room R ≤ 16384 := by omega
    unfold LCg.FinE
    intro D2 h2 tk2 F1 N1 oo1
    clear F2 N
    have N2 := news_sub (((D2, listOf (List.toArray ys2) ys2.length)) :: (D, listOf (List.toArray ys) ny) :: (c3, o3) :: (c2, o2) :: (c1, o1) :: (f, listOf (List.toArray fvs) nf) :: tl) N1 (fun q hq => hq)
    clear N1
    k_steps
    repeat' (first | ((k_here; (with_reducible show wpAny _ _ (compareOp CmpOp.NotEq (Value.ref _) (Value.ref _)) _ _ _); k_dflt (refine' ne_same ?N ?a ?Da ?sa ?b ?Db ?sb ?hu ?_; (case N => k_asm); (case a => k_mem); (case b => k_mem); (case Da => with_reducible assumption); (case Db => with_reducible assumption); (case sa => kqd_sub); (case sb => kqd_sub); (case hu => ke_room))); (try k_steps)))
    rename_i h3 F3 N3
    have hlo := hDs.1
    have hlh := hDs.2.1
    have hhM := hDs.2.2.1
    have hg := dsc_gp hDs.2.2.2 (by omega)
    have hDn := pl_take hD (fitN d lo hi room R)
    refine wpR_execsA ?_
    k_fold
    k_steps
    repeat' (first | ((k_here; (with_reducible show wpAny _ _ (compareOp CmpOp.NotEq (Value.ref _) (Value.ref _)) _ _ _); k_dflt (refine' ne_same ?N ?a ?Da ?sa ?b ?Db ?sb ?hu ?_; (case N => k_asm); (case a => k_mem); (case b => k_mem); (case Da => with_reducible assumption); (case Db => with_reducible assumption); (case sa => kqd_sub); (case sb => kqd_sub); (case hu => ke_room))); (try k_steps)))
    refine' fit_spec (by k_asm) (by k_asm) (by k_asm) (by k_asm) (by k_asm) (by first | exact rfl | assumption) (by ktr_room) (by ktr_units) (by k_mem) (by (refine DatAll.mono ?_ (by with_reducible assumption)); kqd_sub) (by omega) (by assumption) (by omega) (by omega) (by omega) (by omega) (by omega) (by assumption) ?_
    intro _ _ _ _ _ _
    k_steps
    repeat' (first | ((k_here; (with_reducible show wpAny _ _ (compareOp CmpOp.NotEq (Value.ref _) (Value.ref _)) _ _ _); k_dflt (refine' ne_same ?N ?a ?Da ?sa ?b ?Db ?sb ?hu ?_; (case N => k_asm); (case a => k_mem); (case b => k_mem); (case Da => with_reducible assumption); (case Db => with_reducible assumption); (case sa => kqd_sub); (case sb => kqd_sub); (case hu => ke_room))); (try k_steps)))
    refine' fit_spec ?B ?F ?X ?N ?T ?hk ?hd ?hu ?hl ?hD ?hR ?hd0 ?hd1 ?hh0 ?hh1 ?hf0 ?hf1 ?hg ?_
    case B => k_asm
    case F => k_asm
    case X => k_asm
    case N => k_asm
    case T => k_asm
    case hk => first | exact rfl | assumption
    case hd => ktr_room
    case hu => ktr_units
    case hl => k_mem
    case hD => (refine DatAll.mono ?s9 (by with_reducible assumption)); kqd_sub
    case hR => omega
    case hd0 => assumption
    case hd1 => omega
    case hh0 => omega
    case hh1 => omega
    case hf0 => omega
    case hf1 => omega
    case hg => assumption
    intro f9 nf9 h9 tk9 F9 N9
    rw [hlast, ← hfl, List.take_length] at N9
    clear hDn
    k_steps
    repeat' (first | ((k_here; (with_reducible show wpAny _ _ (compareOp CmpOp.NotEq (Value.ref _) (Value.ref _)) _ _ _); k_dflt (refine' ne_same ?N ?a ?Da ?sa ?b ?Db ?sb ?hu ?_; (case N => k_asm); (case a => k_mem); (case b => k_mem); (case Da => with_reducible assumption); (case Db => with_reducible assumption); (case sa => kqd_sub); (case sb => kqd_sub); (case hu => ke_room))); (try k_steps)))
    exact k _ _ _ (by assumption) (news_sub _ (by assumption) (by kqd_sub))
end
end

/-! part Z6 -/
section
set_option maxHeartbeats 1600000
section
variable {w : World} {p : Program} {loose : List Str} {mean : ExcName → Option Value} {mg mb : Str → Option Value}
 {dp un : Nat} {fa : Addr} {cd : Value} {A₀ : Around} {base h₀ : Heap} {L l c1 c2 c3 : Addr} {m : Str → Option Value} {o1 o2 o3 : Obj} {news : List (Addr × Obj)} {s : Shared}
 {nm ql : Str} {params : Arguments} {body : List Stmt} {scope : Scope} {dV kV doc pm cdv ct oc : Value} {an od : Option Addr} {osl : Array (Option Value)}
 {Q : Flow → Shared → Prop} {E : Value → Shared → Prop}
theorem law_4 (lk : PySem.Challenge.rw_no0056_01.row.prog.theDef (Str.ofString "law") = some (params, body, scope))
  {f : Addr} {fvs : List Value} {nf : Nat} {tl : List (Addr × Obj)} {M lo hi d room : Int} {td tr : Tok} {R : List (Int × Int)}
  (B : Below A₀ base [] h₀) (F : Fr h₀ L s.heap m) (X : (Mine.hd.heap_39 w.params).In h₀)
  (N : News h₀ L s.heap ((c3, o3) :: (c2, o2) :: (c1, o1) :: (f, listOf (List.toArray fvs) nf) :: tl)) (d1 : o1.data = .cell (some (.ref f))) (d2 : o2.data = .cell (some (.int d td))) (d3 : o3.data = .cell (some (.int room tr))) (T : Top p loose mean mg mb h₀) (hd : dp + 40 < recursionLimit) (hu : un + 320 < cLine)
  (hDs : Dsc M ((lo, hi) :: R)) (hM : M ≤ 300000) (hR : R.length ≤ 5) (hD : DatAll tl fvs (pd ((lo, hi) :: R))) (hd0 : 0 ≤ d) (hd1 : d ≤ 16384)
  (hcode : Code (KBw.bInts (packed d lo hi R).toArray) (hi :: d :: (R.length : Int) :: (hi - lo) :: flat (gp lo R)))
  (k : ∀ h' tk' m', Fr h₀ L h' m' → News h₀ L h' ((c3, o3) :: (c2, o2) :: (c1, o1) :: (f, listOf (List.toArray fvs) nf) :: tl) →
    wpR (model (PySem.Challenge.rw_no0056_01.row.prog) w) (ktrTop dp un (some []) ql scope L fa cd [(Str.ofString "room", c3), (Str.ofString "delay", c2), (Str.ofString "ranges_here", c1)] []) (execs (body.drop 8) (envX ql scope L fa cd [(Str.ofString "room", c3), (Str.ofString "delay", c2), (Str.ofString "ranges_here", c1)])) Q E { s with heap := h', toks := tk' }) :
  wpR (model (PySem.Challenge.rw_no0056_01.row.prog) w) (ktrTop dp un (some []) ql scope L fa cd [(Str.ofString "room", c3), (Str.ofString "delay", c2), (Str.ofString "ranges_here", c1)] []) (execs (body.drop 6) (envX ql scope L fa cd [(Str.ofString "room", c3), (Str.ofString "delay", c2), (Str.ofString "ranges_here", c1)])) Q E s := by
  revert X
  w_top off
  k_fill
  intro X
  refine' litEq (o' := (_, _, _)) ?h lk ?_
  case h => with_unfolding_all rfl
  intro e
  cases e
  have hfl := pl_len hD
  rw [List.length_cons] at hfl
  have hlo := hDs.1
  have hlh := hDs.2.1
  have hhM := hDs.2.2.1
  refine wpR_execsR (wpR_AssignName ?_)
  refine evalCallR ?_
  k_fold
  k_steps
  repeat' (first | ((k_here; (with_reducible show wpAny _ _ (call (Value.ref 117) _ _) _ _ _); k_dflt (refine' told_spec (by k_asm) (by k_asm) (by k_asm) (by k_asm) (by k_asm) (by first | exact rfl | assumption) (by ktr_room) (by ktr_units) (by k_mem) (by with_reducible assumption) (by omega) (by exact rfl) ?_; k_whole); intro _ _ _ _ _ _ _ _ _); (try k_steps)) | ((k_here; k_dflt (refine' ne_same ?N ?a ?Da ?sa ?b ?Db ?sb ?hu ?_; (case N => k_asm); (case a => k_mem); (case b => k_mem); (case Da => with_reducible assumption); (case Db => with_reducible assumption); (case sa => kqd_sub); (case sb => kqd_sub); (case hu => ke_room))); (try k_steps)) | ((k_here; (with_reducible show wpAny _ _ (call (Value.builtin "len") [Value.ref _]) _ _ _); k_dflt (refine' len_led (by k_asm) (by k_mem) (by first | (with_reducible assumption) | exact rfl) (by first | assumption | omega) ?_; k_whole)); (try k_steps)))
  refine callWithR_one (K := Mine.hd.heap_39 w.params) (keeps_K (by k_is)) ?_
  refine evalCallR ?_
  k_fold
  k_steps
  repeat' (first | ((k_here; (with_reducible show wpAny _ _ (call (Value.ref 117) _ _) _ _ _); k_dflt (refine' told_spec (by k_asm) (by k_asm) (by k_asm) (by k_asm) (by k_asm) (by first | exact rfl | assumption) (by ktr_room) (by ktr_units) (by k_mem) (by with_reducible assumption) (by omega) (by exact rfl) ?_; k_whole); intro _ _ _ _ _ _ _ _ _); (try k_steps)) | ((k_here; k_dflt (refine' ne_same ?N ?a ?Da ?sa ?b ?Db ?sb ?hu ?_; (case N => k_asm); (case a => k_mem); (case b => k_mem); (case Da => with_reducible assumption); (case Db => with_reducible assumption); (case sa => kqd_sub); (case sb => kqd_sub); (case hu => ke_room))); (try k_steps)) | ((k_here; (with_reducible show wpAny _ _ (call (Value.builtin "len") [Value.ref _]) _ _ _); k_dflt (refine' len_led (by k_asm) (by k_mem) (by first | (with_reducible assumption) | exact rfl) (by first | assumption | omega) ?_; k_whole)); (try k_steps)))
  refine callWithR_K (K := Mine.hd.heap_39 w.params) (by k_is) ?_
  k_fold
  k_steps
  repeat' (first | ((k_here; (with_reducible show wpAny _ _ (call (Value.ref 117) _ _) _ _ _); k_dflt (refine' told_spec (by k_asm) (by k_asm) (by k_asm) (by k_asm) (by k_asm) (by first | exact rfl | assumption) (by ktr_room) (by ktr_units) (by k_mem) (by with_reducible assumption) (by omega) (by exact rfl) ?_; k_whole); intro _ _ _ _ _ _ _ _ _); (try k_steps)) | ((k_here; k_dflt (refine' ne_same ?N ?a ?Da ?sa ?b ?Db ?sb ?hu ?_; (case N => k_asm); (case a => k_mem); (case b => k_mem); (case Da => with_reducible assumption); (case Db => with_reducible assumption); (case sa => kqd_sub); (case sb => kqd_sub); (case hu => ke_room))); (try k_steps)) | ((k_here; (with_reducible show wpAny _ _ (call (Value.builtin "len") [Value.ref _]) _ _ _); k_dflt (refine' len_led (by k_asm) (by k_mem) (by first | (with_reducible assumption) | exact rfl) (by first | assumption | omega) ?_; k_whole)); (try k_steps)))
  have hg := dsc_gp hDs.2.2.2 (by omega)
  refine putr_spec (R := R) (by k_asm) (by k_asm) (by k_asm) (by k_asm) (by k_asm) rfl (by ktr_room) (by ktr_units) (by k_mem) (hD.mono fun q hq => by k_mem) (by omega) hd0 (by omega) (by omega) (by omega) (by omega) (by omega) hg (fun t9 h9 tk9 F9 N9 => ⟨X.keeps F9.keep, ?_⟩)
  refine wpR_of ?_
  have pl := packed_len d lo hi R
  have fl := flat_len (gp lo R)
  rw [gp_len] at fl
  refine num_spec (by k_asm) F9 (by k_asm) N9 (by k_asm) rfl (by ktr_room) (by ktr_units) rfl (by simp [KBw.bInts]; omega) (by simp only [List.length_cons]; omega) hcode (fun f1 fvs1 nf1 h1 tk1 F1 N1 I1 => ?_)
  have hl1 : fvs1.length = 4 + 2 * R.length := by rw [I1.length]; simp only [List.length_cons]; omega
  clear F9 N9
  show wpAny _ _ (storeName _ _ _) _ _ _
  k_fold
  k_steps
  repeat' (first | ((k_here; (with_reducible show wpAny _ _ (call (Value.ref 117) _ _) _ _ _); k_dflt (refine' told_spec (by k_asm) (by k_asm) (by k_asm) (by k_asm) (by k_asm) (by first | exact rfl | assumption) (by ktr_room) (by ktr_units) (by k_mem) (by with_reducible assumption) (by omega) (by exact rfl) ?_; k_whole); intro _ _ _ _ _ _ _ _ _); (try k_steps)) | ((k_here; k_dflt (refine' ne_same ?N ?a ?Da ?sa ?b ?Db ?sb ?hu ?_; (case N => k_asm); (case a => k_mem); (case b => k_mem); (case Da => with_reducible assumption); (case Db => with_reducible assumption); (case sa => kqd_sub); (case sb => kqd_sub); (case hu => ke_room))); (try k_steps)) | ((k_here; (with_reducible show wpAny _ _ (call (Value.builtin "len") [Value.ref _]) _ _ _); k_dflt (refine' len_led (by k_asm) (by k_mem) (by first | (with_reducible assumption) | exact rfl) (by first | assumption | omega) ?_; k_whole)); (try k_steps)))
  refine wpR_execsA ?_
  k_fold
  k_steps
  repeat' (first | ((k_here; (with_reducible show wpAny _ _ (call (Value.ref 117) _ _) _ _ _); k_dflt (refine' told_spec (by k_asm) (by k_asm) (by k_asm) (by k_asm) (by k_asm) (by first | exact rfl | assumption) (by ktr_room) (by ktr_units) (by k_mem) (by with_reducible assumption) (by omega) (by exact rfl) ?_; k_whole); intro _ _ _ _ _ _ _ _ _); (try k_steps)) | ((k_here; k_dflt (refine' ne_same ?N ?a ?Da ?sa ?b ?Db ?sb ?hu ?_; (case N => k_asm); (case a => k_mem); (case b => k_mem); (case Da => with_reducible assumption); (case Db => with_reducible assumption); (case sa => kqd_sub); (case sb => kqd_sub); (case hu => ke_room))); (try k_steps)) | ((k_here; (with_reducible show wpAny _ _ (call (Value.builtin "len") [Value.ref _]) _ _ _); k_dflt (refine' len_led (by k_asm) (by k_mem) (by first | (with_reducible assumption) | exact rfl) (by first | assumption | omega) ?_; k_whole)); (try k_steps)))
  · exfalso
    exact (‹(hi :: d :: (R.length : Int) :: (hi - lo) :: flat (gp lo R)).getD (Int.toNat 1) 0 ≠ d› : _ → False) rfl
  · exfalso
    omega
  · exact k _ _ _ (by assumption) (news_sub _ (by assumption) (by kqd_sub))
end
end

/-! part Z7 -/
section
local macro_rules | `(tactic| walk_at "none 0") => `(tactic| fail "none")
set_option maxHeartbeats 1600000
section
variable {w : World} {p : Program} {loose : List Str} {mean : ExcName → Option Value} {mg mb : Str → Option Value}
 {dp un : Nat} {fa : Addr} {cd : Value} {A₀ : Around} {h₀ : Heap} {L l c1 c2 c3 : Addr} {m : Str → Option Value} {o1 o2 o3 : Obj} {news : List (Addr × Obj)} {s : Shared}
 {nm ql : Str} {params : Arguments} {body : List Stmt} {scope : Scope} {dV kV doc pm cdv ct oc : Value} {an od : Option Addr} {osl : Array (Option Value)}
 {Q : Flow → Shared → Prop} {E : Value → Shared → Prop}
theorem law_5 (lk : PySem.Challenge.rw_no0056_01.row.prog.theDef (Str.ofString "law") = some (params, body, scope))
  {f : Addr} {fvs : List Value} {nf : Nat} {tl : List (Addr × Obj)} {M lo hi d room : Int} {td tr : Tok} {R : List (Int × Int)}
  (B : Below A₀ h₀ [] h₀) (F : Fr h₀ L s.heap m) (X : (Mine.hd.heap_39 w.params).In h₀)
  (N : News h₀ L s.heap ((c3, o3) :: (c2, o2) :: (c1, o1) :: (f, listOf (List.toArray fvs) nf) :: tl)) (d1 : o1.data = .cell (some (.ref f))) (d2 : o2.data = .cell (some (.int d td))) (d3 : o3.data = .cell (some (.int room tr))) (T : Top p loose mean mg mb h₀) (hd : dp + 40 < recursionLimit) (hu : un + 320 < cLine)
  (hDs : Dsc M ((lo, hi) :: R)) (hM : M ≤ 300000) (hR : R.length ≤ 5) (hD : DatAll tl fvs (pd ((lo, hi) :: R)))
  (k : ∀ h' tk' m' t1 t2 tx f1 fvs1 k1 tl1, m' (Str.ofString "low") = some (.int (lastb lo R) tx) → m' (Str.ofString "pairs") = some (.ref f1) → m' (Str.ofString "first") = some (.int (hi - lo) t2) → m' (Str.ofString "largest") = some (.int hi t1) → DatAll tl1 fvs1 (pd (gp lo R)) → Fr h₀ L h' m' → News h₀ L h' ((f1, listOf (List.toArray fvs1) k1) :: tl1) →
    wpR (model (PySem.Challenge.rw_no0056_01.row.prog) w) (ktrTop dp un (some []) ql scope L fa cd [(Str.ofString "room", c3), (Str.ofString "delay", c2), (Str.ofString "ranges_here", c1)] []) (execs (body.drop 12) (envX ql scope L fa cd [(Str.ofString "room", c3), (Str.ofString "delay", c2), (Str.ofString "ranges_here", c1)])) Q E { s with heap := h', toks := tk' }) :
  wpR (model (PySem.Challenge.rw_no0056_01.row.prog) w) (ktrTop dp un (some []) ql scope L fa cd [(Str.ofString "room", c3), (Str.ofString "delay", c2), (Str.ofString "ranges_here", c1)] []) (execs (body.drop 8) (envX ql scope L fa cd [(Str.ofString "room", c3), (Str.ofString "delay", c2), (Str.ofString "ranges_here", c1)])) Q E s := by
  revert X
  w_top off
  k_fill
  intro X
  refine' litEq (o' := (_, _, _)) ?h lk ?_
  case h => with_unfolding_all rfl
  intro e
  cases e
  have hfl := pl_len hD
  rw [List.length_cons] at hfl
  have hlo := hDs.1
  have hlh := hDs.2.1
  have hlow := dsc_low hDs.2.2.2
  refine wpR_execsA ?_
  show wpAny _ _ (exec _ _) _ _ _
  k_fold
  k_steps
  repeat' (first | ((k_here; (with_reducible show wpAny _ _ (subscriptTail _ _ (Value.ref _) (Value.int _ _)) _ _ _); k_dflt (refine' item_neg1 (by k_asm) (by k_mem) (by assumption) ?_ (by with_unfolding_all rfl))); (try k_steps)) | ((k_here; (with_reducible show wpAny _ _ (call (Value.ref 124) _ _) _ _ _); k_dflt (refine' refused_1 (by k_asm) (by k_asm) (by k_asm) (by k_asm) (by k_asm) (by k_asm) (by k_asm) (by first | exact rfl | assumption) (by ktr_room) (by ktr_units) (by omega) ?_; k_whole); intro _ _ _ _); (try k_steps)) | ((k_here; (with_reducible show wpAny _ _ (call (Value.ref 124) _ _) _ _ _); k_dflt (refine' refused_no (by k_asm) (by k_asm) (by k_asm) (by k_asm) (by k_asm) (by first | exact rfl | assumption) (by ktr_room) (by ktr_units) (by k_mem) (by (refine DatAll.mono ?_ (by with_reducible assumption)); kqd_sub) (by omega) (by exact rfl) (by assumption) (by assumption) ?_; k_whole); intro _ _ _ _); (try k_steps)) | ((k_here; (with_reducible show wpAny _ _ (call (Value.ref 70) _ _) _ _ _); k_dflt (refine' rof_ok (by k_asm) (by k_asm) (by k_asm) (by k_asm) (by k_asm) (by first | exact rfl | assumption) (by ktr_room) (by ktr_units) (by k_mem) (by (refine DatAll.mono ?_ (by with_reducible assumption)); kqd_sub) (by omega) (by exact rfl) (by assumption) (by assumption) ?_; k_whole); intro _ _ _ _ _ _ _ _ _); (try k_steps)) | ((k_here; (with_reducible show wpAny _ _ (call (Value.ref 63) _ _) _ _ _); k_dflt (refine' gaps_spec (by k_asm) (by k_asm) (by k_asm) (by k_asm) (by k_asm) (by first | exact rfl | assumption) (by ktr_room) (by ktr_units) (by k_mem) (by (refine DatAll.mono ?_ (by with_reducible assumption)); kqd_sub) (by omega) ?_; k_whole); intro _ _ _ _ _ _ _ _ _ _ _ _); (try k_steps)) | ((k_here; (with_reducible show wpAny _ _ (compareOp CmpOp.NotEq (Value.ref _) (Value.ref _)) _ _ _); k_dflt (refine' ne_same ?N ?a ?Da ?sa ?b ?Db ?sb ?hu ?_; (case N => k_asm); (case a => k_mem); (case b => k_mem); (case Da => with_reducible assumption); (case Db => with_reducible assumption); (case sa => kqd_sub); (case sb => kqd_sub); (case hu => ke_room))); (try k_steps)))
  refine wpR_execsA ?_
  k_fold
  k_steps
  repeat' (first | ((k_here; (with_reducible show wpAny _ _ (subscriptTail _ _ (Value.ref _) (Value.int _ _)) _ _ _); k_dflt (refine' item_neg1 (by k_asm) (by k_mem) (by assumption) ?_ (by with_unfolding_all rfl))); (try k_steps)) | ((k_here; (with_reducible show wpAny _ _ (call (Value.ref 124) _ _) _ _ _); k_dflt (refine' refused_1 (by k_asm) (by k_asm) (by k_asm) (by k_asm) (by k_asm) (by k_asm) (by k_asm) (by first | exact rfl | assumption) (by ktr_room) (by ktr_units) (by omega) ?_; k_whole); intro _ _ _ _); (try k_steps)) | ((k_here; (with_reducible show wpAny _ _ (call (Value.ref 124) _ _) _ _ _); k_dflt (refine' refused_no (by k_asm) (by k_asm) (by k_asm) (by k_asm) (by k_asm) (by first | exact rfl | assumption) (by ktr_room) (by ktr_units) (by k_mem) (by (refine DatAll.mono ?_ (by with_reducible assumption)); kqd_sub) (by omega) (by exact rfl) (by assumption) (by assumption) ?_; k_whole); intro _ _ _ _); (try k_steps)) | ((k_here; (with_reducible show wpAny _ _ (call (Value.ref 70) _ _) _ _ _); k_dflt (refine' rof_ok (by k_asm) (by k_asm) (by k_asm) (by k_asm) (by k_asm) (by first | exact rfl | assumption) (by ktr_room) (by ktr_units) (by k_mem) (by (refine DatAll.mono ?_ (by with_reducible assumption)); kqd_sub) (by omega) (by exact rfl) (by assumption) (by assumption) ?_; k_whole); intro _ _ _ _ _ _ _ _ _); (try k_steps)) | ((k_here; (with_reducible show wpAny _ _ (call (Value.ref 63) _ _) _ _ _); k_dflt (refine' gaps_spec (by k_asm) (by k_asm) (by k_asm) (by k_asm) (by k_asm) (by first | exact rfl | assumption) (by ktr_room) (by ktr_units) (by k_mem) (by (refine DatAll.mono ?_ (by with_reducible assumption)); kqd_sub) (by omega) ?_; k_whole); intro _ _ _ _ _ _ _ _ _ _ _ _); (try k_steps)) | ((k_here; (with_reducible show wpAny _ _ (compareOp CmpOp.NotEq (Value.ref _) (Value.ref _)) _ _ _); k_dflt (refine' ne_same ?N ?a ?Da ?sa ?b ?Db ?sb ?hu ?_; (case N => k_asm); (case a => k_mem); (case b => k_mem); (case Da => with_reducible assumption); (case Db => with_reducible assumption); (case sa => kqd_sub); (case sb => kqd_sub); (case hu => ke_room))); (try k_steps)))
  try (first | ((k_here; (with_reducible show wpAny _ _ (call (Value.ref 124) _ _) _ _ _); k_dflt (refine' refused_1 (by k_asm) (by k_asm) (by k_asm) (by k_asm) (by k_asm) (by k_asm) (by k_asm) (by first | exact rfl | assumption) (by ktr_room) (by ktr_units) (by omega) ?_; k_whole); intro _ _ _ _)) | ((k_here; (with_reducible show wpAny _ _ (call (Value.ref 124) _ _) _ _ _); k_dflt (refine' refused_no (by k_asm) (by k_asm) (by k_asm) (by k_asm) (by k_asm) (by first | exact rfl | assumption) (by ktr_room) (by ktr_units) (by k_mem) (by (refine DatAll.mono ?_ (by with_reducible assumption)); kqd_sub) (by omega) (by exact rfl) (by assumption) (by assumption) ?_; k_whole); intro _ _ _ _)) | ((k_here; (with_reducible show wpAny _ _ (call (Value.ref 70) _ _) _ _ _); k_dflt (refine' rof_ok (by k_asm) (by k_asm) (by k_asm) (by k_asm) (by k_asm) (by first | exact rfl | assumption) (by ktr_room) (by ktr_units) (by k_mem) (by (refine DatAll.mono ?_ (by with_reducible assumption)); kqd_sub) (by omega) (by exact rfl) (by assumption) (by assumption) ?_; k_whole); intro _ _ _ _ _ _ _ _ _)) | ((k_here; (with_reducible show wpAny _ _ (call (Value.ref 63) _ _) _ _ _); k_dflt (refine' gaps_spec (by k_asm) (by k_asm) (by k_asm) (by k_asm) (by k_asm) (by first | exact rfl | assumption) (by ktr_room) (by ktr_units) (by k_mem) (by (refine DatAll.mono ?_ (by with_reducible assumption)); kqd_sub) (by omega) ?_; k_whole); intro _ _ _ _ _ _ _ _ _ _ _ _)))
  k_steps
  repeat' (first | ((k_here; (with_reducible show wpAny _ _ (subscriptTail _ _ (Value.ref _) (Value.int _ _)) _ _ _); k_dflt (refine' item_neg1 (by k_asm) (by k_mem) (by assumption) ?_ (by with_unfolding_all rfl))); (try k_steps)) | ((k_here; (with_reducible show wpAny _ _ (call (Value.ref 124) _ _) _ _ _); k_dflt (refine' refused_1 (by k_asm) (by k_asm) (by k_asm) (by k_asm) (by k_asm) (by k_asm) (by k_asm) (by first | exact rfl | assumption) (by ktr_room) (by ktr_units) (by omega) ?_; k_whole); intro _ _ _ _); (try k_steps)) | ((k_here; (with_reducible show wpAny _ _ (call (Value.ref 124) _ _) _ _ _); k_dflt (refine' refused_no (by k_asm) (by k_asm) (by k_asm) (by k_asm) (by k_asm) (by first | exact rfl | assumption) (by ktr_room) (by ktr_units) (by k_mem) (by (refine DatAll.mono ?_ (by with_reducible assumption)); kqd_sub) (by omega) (by exact rfl) (by assumption) (by assumption) ?_; k_whole); intro _ _ _ _); (try k_steps)) | ((k_here; (with_reducible show wpAny _ _ (call (Value.ref 70) _ _) _ _ _); k_dflt (refine' rof_ok (by k_asm) (by k_asm) (by k_asm) (by k_asm) (by k_asm) (by first | exact rfl | assumption) (by ktr_room) (by ktr_units) (by k_mem) (by (refine DatAll.mono ?_ (by with_reducible assumption)); kqd_sub) (by omega) (by exact rfl) (by assumption) (by assumption) ?_; k_whole); intro _ _ _ _ _ _ _ _ _); (try k_steps)) | ((k_here; (with_reducible show wpAny _ _ (call (Value.ref 63) _ _) _ _ _); k_dflt (refine' gaps_spec (by k_asm) (by k_asm) (by k_asm) (by k_asm) (by k_asm) (by first | exact rfl | assumption) (by ktr_room) (by ktr_units) (by k_mem) (by (refine DatAll.mono ?_ (by with_reducible assumption)); kqd_sub) (by omega) ?_; k_whole); intro _ _ _ _ _ _ _ _ _ _ _ _); (try k_steps)) | ((k_here; (with_reducible show wpAny _ _ (compareOp CmpOp.NotEq (Value.ref _) (Value.ref _)) _ _ _); k_dflt (refine' ne_same ?N ?a ?Da ?sa ?b ?Db ?sb ?hu ?_; (case N => k_asm); (case a => k_mem); (case b => k_mem); (case Da => with_reducible assumption); (case Db => with_reducible assumption); (case sa => kqd_sub); (case sb => kqd_sub); (case hu => ke_room))); (try k_steps)))
  obtain ⟨G, yy, hG⟩ := lastb_eq R lo hi
  have hD0 := hD
  rw [hG] at hD0
  obtain ⟨vs', t, kk, tx, ty, rfl, hmt, hlv⟩ := pl_last hD0
  have hlz : vs'.length < 1000 := by rw [List.length_append, List.length_singleton] at hfl; omega
  refine wpR_execsA ?_
  k_fold
  k_steps
  repeat' (first | ((k_here; (with_reducible show wpAny _ _ (subscriptTail _ _ (Value.ref _) (Value.int _ _)) _ _ _); k_dflt (refine' item_neg1 (by k_asm) (by k_mem) (by assumption) ?_ (by with_unfolding_all rfl))); (try k_steps)) | ((k_here; (with_reducible show wpAny _ _ (call (Value.ref 124) _ _) _ _ _); k_dflt (refine' refused_1 (by k_asm) (by k_asm) (by k_asm) (by k_asm) (by k_asm) (by k_asm) (by k_asm) (by first | exact rfl | assumption) (by ktr_room) (by ktr_units) (by omega) ?_; k_whole); intro _ _ _ _); (try k_steps)) | ((k_here; (with_reducible show wpAny _ _ (call (Value.ref 124) _ _) _ _ _); k_dflt (refine' refused_no (by k_asm) (by k_asm) (by k_asm) (by k_asm) (by k_asm) (by first | exact rfl | assumption) (by ktr_room) (by ktr_units) (by k_mem) (by (refine DatAll.mono ?_ (by with_reducible assumption)); kqd_sub) (by omega) (by exact rfl) (by assumption) (by assumption) ?_; k_whole); intro _ _ _ _); (try k_steps)) | ((k_here; (with_reducible show wpAny _ _ (call (Value.ref 70) _ _) _ _ _); k_dflt (refine' rof_ok (by k_asm) (by k_asm) (by k_asm) (by k_asm) (by k_asm) (by first | exact rfl | assumption) (by ktr_room) (by ktr_units) (by k_mem) (by (refine DatAll.mono ?_ (by with_reducible assumption)); kqd_sub) (by omega) (by exact rfl) (by assumption) (by assumption) ?_; k_whole); intro _ _ _ _ _ _ _ _ _); (try k_steps)) | ((k_here; (with_reducible show wpAny _ _ (call (Value.ref 63) _ _) _ _ _); k_dflt (refine' gaps_spec (by k_asm) (by k_asm) (by k_asm) (by k_asm) (by k_asm) (by first | exact rfl | assumption) (by ktr_room) (by ktr_units) (by k_mem) (by (refine DatAll.mono ?_ (by with_reducible assumption)); kqd_sub) (by omega) ?_; k_whole); intro _ _ _ _ _ _ _ _ _ _ _ _); (try k_steps)) | ((k_here; (with_reducible show wpAny _ _ (compareOp CmpOp.NotEq (Value.ref _) (Value.ref _)) _ _ _); k_dflt (refine' ne_same ?N ?a ?Da ?sa ?b ?Db ?sb ?hu ?_; (case N => k_asm); (case a => k_mem); (case b => k_mem); (case Da => with_reducible assumption); (case Db => with_reducible assumption); (case sa => kqd_sub); (case sb => kqd_sub); (case hu => ke_room))); (try k_steps)))
  rename_i T1 f1 fvs1 k1 t1 t2 tl1 hA tkA D1 hB hC hE hF hid ekA f2 fvs2 nf2 tl2 hG2 tkB D2 hH F3 N3
  have N4 := news_sub ((f1, listOf (List.toArray fvs1) k1) :: (c3, o3) :: (c2, o2) :: (c1, o1) :: (f, listOf (List.toArray (vs' ++ [Value.ref t])) nf) :: (tl1 ++ tl)) N3 (by
    refine List.forall_mem_cons.mpr ⟨by k_mem, List.forall_mem_cons.mpr ⟨by k_mem, List.forall_mem_cons.mpr ⟨by k_mem, List.forall_mem_cons.mpr ⟨by k_mem, List.forall_mem_cons.mpr ⟨by k_mem, List.forall_mem_append.mpr ⟨fun q hq => by k_mem, fun q hq => by k_mem⟩⟩⟩⟩⟩⟩)
  clear N3 D2
  refine wpR_execsA ?_
  k_fold
  k_steps
  repeat' (first | ((k_here; (with_reducible show wpAny _ _ (subscriptTail _ _ (Value.ref _) (Value.int _ _)) _ _ _); k_dflt (refine' item_neg1 (by k_asm) (by k_mem) (by assumption) ?_ (by with_unfolding_all rfl))); (try k_steps)) | ((k_here; (with_reducible show wpAny _ _ (call (Value.ref 124) _ _) _ _ _); k_dflt (refine' refused_1 (by k_asm) (by k_asm) (by k_asm) (by k_asm) (by k_asm) (by k_asm) (by k_asm) (by first | exact rfl | assumption) (by ktr_room) (by ktr_units) (by omega) ?_; k_whole); intro _ _ _ _); (try k_steps)) | ((k_here; (with_reducible show wpAny _ _ (call (Value.ref 124) _ _) _ _ _); k_dflt (refine' refused_no (by k_asm) (by k_asm) (by k_asm) (by k_asm) (by k_asm) (by first | exact rfl | assumption) (by ktr_room) (by ktr_units) (by k_mem) (by (refine DatAll.mono ?_ (by with_reducible assumption)); kqd_sub) (by omega) (by exact rfl) (by assumption) (by assumption) ?_; k_whole); intro _ _ _ _); (try k_steps)) | ((k_here; (with_reducible show wpAny _ _ (call (Value.ref 70) _ _) _ _ _); k_dflt (refine' rof_ok (by k_asm) (by k_asm) (by k_asm) (by k_asm) (by k_asm) (by first | exact rfl | assumption) (by ktr_room) (by ktr_units) (by k_mem) (by (refine DatAll.mono ?_ (by with_reducible assumption)); kqd_sub) (by omega) (by exact rfl) (by assumption) (by assumption) ?_; k_whole); intro _ _ _ _ _ _ _ _ _); (try k_steps)) | ((k_here; (with_reducible show wpAny _ _ (call (Value.ref 63) _ _) _ _ _); k_dflt (refine' gaps_spec (by k_asm) (by k_asm) (by k_asm) (by k_asm) (by k_asm) (by first | exact rfl | assumption) (by ktr_room) (by ktr_units) (by k_mem) (by (refine DatAll.mono ?_ (by with_reducible assumption)); kqd_sub) (by omega) ?_; k_whole); intro _ _ _ _ _ _ _ _ _ _ _ _); (try k_steps)) | ((k_here; (with_reducible show wpAny _ _ (compareOp CmpOp.NotEq (Value.ref _) (Value.ref _)) _ _ _); k_dflt (refine' ne_same ?N ?a ?Da ?sa ?b ?Db ?sb ?hu ?_; (case N => k_asm); (case a => k_mem); (case b => k_mem); (case Da => with_reducible assumption); (case Db => with_reducible assumption); (case sa => kqd_sub); (case sb => kqd_sub); (case hu => ke_room))); (try k_steps)))
  try (first | ((k_here; (with_reducible show wpAny _ _ (call (Value.ref 124) _ _) _ _ _); k_dflt (refine' refused_1 (by k_asm) (by k_asm) (by k_asm) (by k_asm) (by k_asm) (by k_asm) (by k_asm) (by first | exact rfl | assumption) (by ktr_room) (by ktr_units) (by omega) ?_; k_whole); intro _ _ _ _)) | ((k_here; (with_reducible show wpAny _ _ (call (Value.ref 124) _ _) _ _ _); k_dflt (refine' refused_no (by k_asm) (by k_asm) (by k_asm) (by k_asm) (by k_asm) (by first | exact rfl | assumption) (by ktr_room) (by ktr_units) (by k_mem) (by (refine DatAll.mono ?_ (by with_reducible assumption)); kqd_sub) (by omega) (by exact rfl) (by assumption) (by assumption) ?_; k_whole); intro _ _ _ _)) | ((k_here; (with_reducible show wpAny _ _ (call (Value.ref 70) _ _) _ _ _); k_dflt (refine' rof_ok (by k_asm) (by k_asm) (by k_asm) (by k_asm) (by k_asm) (by first | exact rfl | assumption) (by ktr_room) (by ktr_units) (by k_mem) (by (refine DatAll.mono ?_ (by with_reducible assumption)); kqd_sub) (by omega) (by exact rfl) (by assumption) (by assumption) ?_; k_whole); intro _ _ _ _ _ _ _ _ _)) | ((k_here; (with_reducible show wpAny _ _ (call (Value.ref 63) _ _) _ _ _); k_dflt (refine' gaps_spec (by k_asm) (by k_asm) (by k_asm) (by k_asm) (by k_asm) (by first | exact rfl | assumption) (by ktr_room) (by ktr_units) (by k_mem) (by (refine DatAll.mono ?_ (by with_reducible assumption)); kqd_sub) (by omega) ?_; k_whole); intro _ _ _ _ _ _ _ _ _ _ _ _)))
  k_steps
  repeat' (first | ((k_here; (with_reducible show wpAny _ _ (subscriptTail _ _ (Value.ref _) (Value.int _ _)) _ _ _); k_dflt (refine' item_neg1 (by k_asm) (by k_mem) (by assumption) ?_ (by with_unfolding_all rfl))); (try k_steps)) | ((k_here; (with_reducible show wpAny _ _ (call (Value.ref 124) _ _) _ _ _); k_dflt (refine' refused_1 (by k_asm) (by k_asm) (by k_asm) (by k_asm) (by k_asm) (by k_asm) (by k_asm) (by first | exact rfl | assumption) (by ktr_room) (by ktr_units) (by omega) ?_; k_whole); intro _ _ _ _); (try k_steps)) | ((k_here; (with_reducible show wpAny _ _ (call (Value.ref 124) _ _) _ _ _); k_dflt (refine' refused_no (by k_asm) (by k_asm) (by k_asm) (by k_asm) (by k_asm) (by first | exact rfl | assumption) (by ktr_room) (by ktr_units) (by k_mem) (by (refine DatAll.mono ?_ (by with_reducible assumption)); kqd_sub) (by omega) (by exact rfl) (by assumption) (by assumption) ?_; k_whole); intro _ _ _ _); (try k_steps)) | ((k_here; (with_reducible show wpAny _ _ (call (Value.ref 70) _ _) _ _ _); k_dflt (refine' rof_ok (by k_asm) (by k_asm) (by k_asm) (by k_asm) (by k_asm) (by first | exact rfl | assumption) (by ktr_room) (by ktr_units) (by k_mem) (by (refine DatAll.mono ?_ (by with_reducible assumption)); kqd_sub) (by omega) (by exact rfl) (by assumption) (by assumption) ?_; k_whole); intro _ _ _ _ _ _ _ _ _); (try k_steps)) | ((k_here; (with_reducible show wpAny _ _ (call (Value.ref 63) _ _) _ _ _); k_dflt (refine' gaps_spec (by k_asm) (by k_asm) (by k_asm) (by k_asm) (by k_asm) (by first | exact rfl | assumption) (by ktr_room) (by ktr_units) (by k_mem) (by (refine DatAll.mono ?_ (by with_reducible assumption)); kqd_sub) (by omega) ?_; k_whole); intro _ _ _ _ _ _ _ _ _ _ _ _); (try k_steps)) | ((k_here; (with_reducible show wpAny _ _ (compareOp CmpOp.NotEq (Value.ref _) (Value.ref _)) _ _ _); k_dflt (refine' ne_same ?N ?a ?Da ?sa ?b ?Db ?sb ?hu ?_; (case N => k_asm); (case a => k_mem); (case b => k_mem); (case Da => with_reducible assumption); (case Db => with_reducible assumption); (case sa => kqd_sub); (case sb => kqd_sub); (case hu => ke_room))); (try k_steps)))
  rename_i hP tkP l5 hQ9 F5 N5 l5x hR9 tkR F6 N6
  exact k _ _ _ t1 t2 tx f1 fvs1 k1 tl1 rfl rfl rfl rfl D1 F6 (news_sub _ N6 (List.forall_mem_cons.mpr ⟨by k_mem, fun q hq => by k_mem⟩))
end
end

/-! part Z8 -/
section
local macro_rules | `(tactic| walk_at "none 0") => `(tactic| fail "none")
set_option maxHeartbeats 1600000
section
variable {w : World} {p : Program} {loose : List Str} {mean : ExcName → Option Value} {mg mb : Str → Option Value}
 {dp un : Nat} {fa : Addr} {cd : Value} {A₀ : Around} {h₀ : Heap} {L l c1 c2 c3 : Addr} {m : Str → Option Value} {o1 o2 o3 : Obj} {news : List (Addr × Obj)} {s : Shared}
 {nm ql : Str} {params : Arguments} {body : List Stmt} {scope : Scope} {dV kV doc pm cdv ct oc : Value} {an od : Option Addr} {osl : Array (Option Value)}
 {Q : Flow → Shared → Prop} {E : Value → Shared → Prop}
local macro_rules | `(tactic| walk_at "binaryOp Add ref ref") => `(tactic| (k_here; (with_reducible show wpAny _ _ (binaryOp _ (Value.ref _) (Value.ref _)) _ _ _); k_dflt (refine' kmk_add_lit (by k_asm) (by k_asm) (by exact News.isList (by k_asm) (by k_mem)) (by exact News.isList (by k_asm) (by k_mem)) (by exact rfl) ?_ (by (simp only [List.toList_toArray, List.length_cons, List.length_nil, PySem.sizeLine_eq]; omega))); intro D' h' F' N' l1))
theorem law_6 (lk : PySem.Challenge.rw_no0056_01.row.prog.theDef (Str.ofString "law") = some (params, body, scope))
  {f1 : Addr} {fvs1 : List Value} {k1 : Nat} {tl1 : List (Addr × Obj)} {M lo hi : Int} {t1 t2 tx : Tok} {R : List (Int × Int)}
  (B : Below A₀ h₀ [] h₀) (F : Fr h₀ L s.heap m) (X : (Mine.hd.heap_39 w.params).In h₀) (m1 : m (Str.ofString "low") = some (.int (lastb lo R) tx)) (m2 : m (Str.ofString "pairs") = some (.ref f1)) (m3 : m (Str.ofString "first") = some (.int (hi - lo) t2)) (m4 : m (Str.ofString "largest") = some (.int hi t1))
  (N : News h₀ L s.heap ((f1, listOf (List.toArray fvs1) k1) :: tl1)) (T : Top p loose mean mg mb h₀) (hd : dp + 40 < recursionLimit) (hu : un + 320 < cLine)
  (hDs : Dsc M ((lo, hi) :: R)) (hR : R.length ≤ 5) (D1 : DatAll tl1 fvs1 (pd (gp lo R)))
  (k : ∀ h' tk' m' news', Fr h₀ L h' m' → News h₀ L h' news' → Q (.ret (.bool true)) { s with heap := h', toks := tk' }) :
  wpR (model (PySem.Challenge.rw_no0056_01.row.prog) w) (ktrTop dp un (some []) ql scope L fa cd [(Str.ofString "room", c3), (Str.ofString "delay", c2), (Str.ofString "ranges_here", c1)] []) (execs (body.drop 12) (envX ql scope L fa cd [(Str.ofString "room", c3), (Str.ofString "delay", c2), (Str.ofString "ranges_here", c1)])) Q E s := by
  revert X
  w_top off
  k_fill
  intro X
  refine' litEq (o' := (_, _, _)) ?h lk ?_
  case h => with_unfolding_all rfl
  intro e
  cases e
  have hlo := hDs.1
  have hlh := hDs.2.1
  have hlow := dsc_low hDs.2.2.2
  have hl1 := pl_len D1
  rw [gp_len] at hl1
  have F2 := fr_put4 F m1 m2 m3 m4
  clear F
  refine wpR_execsA ?_
  show wpAny _ _ (exec _ _) _ _ _
  k_fold
  k_steps
  rename_i D3 hA l3 lE hB FB NB lB D4 hC F4 N4 l4
  refine' refused_2 (R := R) (lo := lo) (z := lastb lo R) (vs0 := fvs1 ++ [.ref D3]) B F4 X N4 T X T rfl ?hd ?hu List.mem_cons_self (pl_snoc (D1.mono fun q hq => ?d1) ?d2) rfl ?hr rfl hlo hlow (fun h9 tk9 F9 N9 => ?_)
  case hd => ktr_room
  case hu => ktr_units
  case d1 => k_mem
  case d2 => exact List.mem_cons_of_mem _ (List.mem_cons_of_mem _ List.mem_cons_self)
  case hr => omega
  clear N4 F4
  k_steps
  rename_i l6 h6 F6 N6 l61
  refine' refused_no (R := []) (lo := 0) (vs0 := []) B F6 X N6 T rfl ?hd ?hu List.mem_cons_self .nil (by decide) ?hf (by decide) (fun q hq => absurd hq List.not_mem_nil) (fun h8 tk8 F8 N8 => ?_)
  case hd => ktr_room
  case hu => ktr_units
  case hf => omega
  clear F6 N6
  k_steps
  exact k _ _ _ _ F8 N8
end
end

/-! part Z9 -/
section
set_option maxHeartbeats 1600000
/-! the plain law: lengths -/
theorem enc_vs (n : Int) : ((enc n).length : Int) = vs n := by
  unfold enc vs
  repeat' split
  all_goals simp [beL_len]
theorem vs_pos (n : Int) : 1 ≤ vs n := by
  unfold vs
  repeat' split
  all_goals decide
theorem vs_mono {a b : Int} (h : a ≤ b) : vs a ≤ vs b := by
  unfold vs
  repeat' split
  all_goals omega
def wsum : List (Int × Int) → Int
  | [] => 0
  | (g, l) :: P => (vs g + vs l) + wsum P
theorem encs_w : ∀ P : List (Int × Int), ((encs P).length : Int) = wsum P
  | [] => rfl
  | (g, l) :: P => by
    have h1 := enc_vs g
    have h2 := enc_vs l
    have h3 := encs_w P
    simp only [encs, wsum, List.length_append]
    omega
theorem gp_take : ∀ (R : List (Int × Int)) (b : Int) (j : Nat), gp b (R.take j) = (gp b R).take j
  | [], _, j => by simp [gp]
  | (u, v) :: R, b, 0 => by simp [gp]
  | (u, v) :: R, b, j + 1 => by simp [gp, gp_take R u j]
theorem packed_w (d lo hi : Int) (R : List (Int × Int)) : ((packed d lo hi R).length : Int) = vs hi + vs d + vs (hi - lo) + vs (R.length : Int) + wsum (gp lo R) := by
  have h1 := enc_vs hi
  have h2 := enc_vs d
  have h3 := enc_vs (R.length : Int)
  have h4 := enc_vs (hi - lo)
  have h5 := encs_w (gp lo R)
  simp only [packed, List.length_append]
  omega
/-- the sizes after the first -/
def lst2 : Int → Int → List (Int × Int) → List Int
  | _, _, [] => []
  | size, many, (g, l) :: P => (size + (vs g + vs l) + vs many) :: lst2 (size + (vs g + vs l)) (many + 1) P
theorem lst2_gt : ∀ (P : List (Int × Int)) (size many : Int), ∀ e ∈ lst2 size many P, size + vs many < e
  | [], _, _, e, he => absurd he List.not_mem_nil
  | (g, l) :: P, size, many, e, he => by
    have h1 := vs_pos g
    have h2 := vs_pos l
    have h3 := vs_mono (show many ≤ many + 1 by omega)
    unfold lst2 at he
    rcases List.mem_cons.mp he with rfl | he
    · omega
    · have := lst2_gt P _ _ e he
      omega
theorem fitM_count (room : Int) : ∀ (P : List (Int × Int)) (size many : Int), fitM room size many P = many + (((lst2 size many P).filter fun k => decide (k ≤ room)).length : Int)
  | [], size, many => by simp [fitM, lst2]
  | (g, l) :: P, size, many => by
    rw [fitM_cons]
    unfold lst2
    split
    · rename_i hc
      rw [List.filter_eq_nil_iff.mpr]
      · simp
      · intro e he
        have h3 := vs_mono (show many ≤ many + 1 by omega)
        rcases List.mem_cons.mp he with rfl | he
        · simp; omega
        · have := lst2_gt P _ _ e he
          simp; omega
    · rename_i hc
      rw [fitM_count room P, List.filter_cons, if_pos (by simp; omega), List.length_cons]
      omega
theorem lst2_len : ∀ (P : List (Int × Int)) (size many : Int), (lst2 size many P).length = P.length
  | [], _, _ => rfl
  | (g, l) :: P, size, many => by simp [lst2, lst2_len P]
theorem lst2_get : ∀ (P : List (Int × Int)) (size many : Int) (i : Nat), i < P.length → (lst2 size many P)[i]? = some (size + wsum (P.take (i + 1)) + vs (many + (i : Int)))
  | [], _, _, i, h => absurd h (Nat.not_lt_zero _)
  | (g, l) :: P, size, many, 0, h => by simp [lst2, wsum]
  | (g, l) :: P, size, many, i + 1, h => by
    simp only [lst2, List.getElem?_cons_succ]
    rw [lst2_get P _ _ i (by simpa using h)]
    simp only [List.take_succ_cons, wsum]
    rw [show many + 1 + (i : Int) = many + ((i + 1 : Nat) : Int) by omega]
    congr 1
    omega
theorem szs_get (d lo hi : Int) (R : List (Int × Int)) {j : Nat} (h : j ≤ R.length) : (szs d lo hi R)[j]? = some (vs hi + vs d + vs (hi - lo) + vs (j : Int) + wsum ((gp lo R).take j)) := by
  unfold szs
  rw [List.getElem?_map, List.getElem?_range (by omega)]
  simp only [Option.map_some]
  rw [packed_w, gp_take, List.length_take, Nat.min_eq_left h]
theorem szs_eq (d lo hi : Int) (R : List (Int × Int)) : szs d lo hi R = (vs hi + vs d + vs (hi - lo) + 1) :: lst2 (vs hi + vs d + vs (hi - lo)) 1 (gp lo R) := by
  refine List.ext_getElem? fun j => ?_
  rcases Nat.lt_or_ge R.length j with hj | hj
  · rw [List.getElem?_eq_none (by simp [szs]; omega), List.getElem?_eq_none (by simp [lst2_len, gp_len]; omega)]
  · rw [szs_get d lo hi R hj]
    cases j with
    | zero => simp [wsum, vs]
    | succ i =>
      rw [List.getElem?_cons_succ, lst2_get _ _ _ _ (by rw [gp_len]; omega)]
      rw [show (1 : Int) + (i : Int) = ((i + 1 : Nat) : Int) by omega]
      congr 1
      omega
theorem due_fit (d lo hi room : Int) (R : List (Int × Int)) : ((szs d lo hi R).filter fun k => decide (k ≤ room)).length = fitN d lo hi room R := by
  rw [szs_eq]
  unfold fitN
  split
  · rename_i hc
    rw [List.filter_eq_nil_iff.mpr]
    · rfl
    · intro e he
      rcases List.mem_cons.mp he with rfl | he
      · simp; omega
      · have := lst2_gt _ _ _ e he
        have h1 : vs 1 = 1 := by decide
        simp; omega
  · rename_i hc
    rw [fitM_count, List.filter_cons, if_pos (by simp; omega), List.length_cons]
    omega
theorem wsum_take : ∀ (P : List (Int × Int)) (j : Nat), wsum (P.take j) ≤ wsum P
  | [], j => by simp
  | (g, l) :: P, 0 => by
    have h1 := vs_pos g
    have h2 := vs_pos l
    have h3 := wsum_take P 0
    simp only [List.take_zero, wsum] at h3 ⊢
    omega
  | (g, l) :: P, j + 1 => by
    have h3 := wsum_take P j
    simp only [List.take_succ_cons, wsum]
    omega
theorem last_fit (d lo hi : Int) (R : List (Int × Int)) : fitN d lo hi ((szs d lo hi R).getD (-1 + ((szs d lo hi R).length : Int)).toNat 0) R = R.length + 1 := by
  have hl : (szs d lo hi R).length = R.length + 1 := by simp [szs]
  rw [hl, show (-1 + ((R.length + 1 : Nat) : Int)).toNat = R.length by omega, ← due_fit, List.filter_eq_self.mpr, hl]
  intro e he
  obtain ⟨j, hj⟩ := List.getElem?_of_mem he
  have hj2 := (List.getElem?_eq_some_iff.mp hj).1
  rw [hl] at hj2
  rw [szs_get d lo hi R (by omega)] at hj
  rw [List.getD_eq_getElem?_getD, szs_get d lo hi R (Nat.le_refl _)]
  have h1 := vs_mono (show (j : Int) ≤ (R.length : Int) by omega)
  have h2 := wsum_take (gp lo R) j
  have h3 : (gp lo R).take R.length = gp lo R := by rw [← gp_len lo R, List.take_length]
  rw [h3]
  simp only [Option.some.injEq] at hj
  simp only [Option.getD_some, decide_eq_true_eq]
  omega
end

/-! part Z10 -/
section
set_option maxHeartbeats 1600000
/-! the plain law: the numbers read back -/
def ib (l : List UInt8) : List Int := l.map fun c => (c.toNat : Int)
theorem ib_app (a b : List UInt8) : ib (a ++ b) = ib a ++ ib b := List.map_append
theorem beL_nat (u k : Nat) : beL (u : Int) (k + 1) = beL ((u / 256 : Nat) : Int) k ++ [(u % 256).toUInt8] := by
  show beL ((u : Int).fdiv 256) k ++ [((u : Int).fmod 256).toNat.toUInt8] = _
  rw [Int.fdiv_eq_ediv_of_nonneg _ (by decide), Int.fmod_eq_emod_of_nonneg _ (by decide)]
  rw [show (u : Int) / 256 = ((u / 256 : Nat) : Int) by omega, show ((u : Int) % 256).toNat = u % 256 by omega]
theorem ib_beL (u k : Nat) : ib (beL (u : Int) (k + 1)) = ib (beL ((u / 256 : Nat) : Int) k) ++ [((u % 256 : Nat) : Int)] := by
  rw [beL_nat, ib_app]
  congr 1
  have h : (u % 256).toUInt8.toNat = u % 256 := by simp
  show [((((u % 256).toUInt8).toNat : Nat) : Int)] = _
  rw [h]
theorem be_head : ∀ (k u : Nat), ib (beL (u : Int) (k + 1)) = ((u / 256 ^ k % 256 : Nat) : Int) :: ib (beL (u : Int) k)
  | 0, u => by
    rw [ib_beL]
    simp [ib, beL]
  | k + 1, u => by
    rw [ib_beL, be_head k, ib_beL u k, Nat.div_div_eq_div_mul, ← Nat.pow_succ']
    rfl
theorem be_fold : ∀ (k u : Nat) (t : Nat), (ib (beL (u : Int) k)).foldl (fun (t o : Int) => t * 256 + o) (t : Int) = ((t * 256 ^ k + u % 256 ^ k : Nat) : Int)
  | 0, u, t => by simp [ib, beL, Nat.mod_one]
  | k + 1, u, t => by
    rw [ib_beL, List.foldl_append, be_fold k]
    simp only [List.foldl_cons, List.foldl_nil]
    rw [Nat.pow_succ', Nat.mod_mul]
    have e : t * (256 * 256 ^ k) = 256 * (t * 256 ^ k) := by rw [Nat.mul_left_comm]
    rw [e]
    omega
theorem code_one {c k u : Nat} {ks ns : List Int} (hc : ((k + 1 : Nat) : Int) = [1, 2, 4, 8].getD c 0) (hc4 : c < 4) (hu : u < 64 * 256 ^ k) (h : Code ks ns) : Code (ib (beL (((c * (64 * 256 ^ k) + u : Nat) : Nat) : Int) (k + 1)) ++ ks) ((u : Int) :: ns) := by
  have hp : 0 < 256 ^ k := Nat.pow_pos (by decide)
  generalize hv : c * (64 * 256 ^ k) + u = v
  have e1 : v / 256 ^ k = c * 64 + u / 256 ^ k := by
    rw [← hv, ← Nat.mul_assoc, Nat.mul_comm _ (256 ^ k), Nat.mul_add_div hp]
  have e2 : u / 256 ^ k < 64 := (Nat.div_lt_iff_lt_mul hp).mpr hu
  have e3 : v % 256 ^ k = u % 256 ^ k := by
    rw [← hv, ← Nat.mul_assoc, Nat.mul_comm _ (256 ^ k), Nat.mul_add_mod]
  have e4 : v / 256 ^ k % 256 = c * 64 + u / 256 ^ k := by rw [e1]; exact Nat.mod_eq_of_lt (by omega)
  rw [be_head, List.cons_append, e4]
  have f1 : ((c * 64 + u / 256 ^ k : Nat) : Int).fdiv 64 = (c : Int) := by
    rw [Int.fdiv_eq_ediv_of_nonneg _ (by decide)]
    generalize u / 256 ^ k = q at e2
    clear e1 e4 e3 hv hu hc h
    omega
  have f2 : ((c * 64 + u / 256 ^ k : Nat) : Int).fmod 64 = ((u / 256 ^ k : Nat) : Int) := by
    rw [Int.fmod_eq_emod_of_nonneg _ (by decide)]
    generalize u / 256 ^ k = q at e2
    clear e1 e4 e3 hv hu hc h f1
    omega
  refine Code.cons (Int.natCast_nonneg _) (by clear f1 f2 e1 e4 e3 hv hu hc h; generalize u / 256 ^ k = q at e2 ⊢; omega) ?_ ?_ h
  · rw [f1, Int.toNat_natCast, ← hc]
    simp [ib, beL_len]
  · rw [f2, be_fold, e3]
    congr 1
    rw [Nat.mul_comm]
    exact Nat.div_add_mod u (256 ^ k)
theorem code_enc {n : Int} {ks ns : List Int} (h0 : 0 ≤ n) (h1 : n < 4611686018427387904) (h : Code ks ns) : Code (ib (enc n) ++ ks) (n :: ns) := by
  obtain ⟨u, rfl⟩ := Int.eq_ofNat_of_zero_le h0
  unfold enc
  split
  · have := code_one (c := 0) (k := 0) (u := u) (by decide) (by decide) (by omega) h
    simpa using this
  · split
    · have := code_one (c := 1) (k := 1) (u := u) (by decide) (by decide) (by omega) h
      rw [show (16384 : Int) + ((u : Nat) : Int) = ((1 * (64 * 256 ^ 1) + u : Nat) : Int) by omega]
      exact this
    · split
      · have := code_one (c := 2) (k := 3) (u := u) (by decide) (by decide) (by omega) h
        rw [show (2147483648 : Int) + ((u : Nat) : Int) = ((2 * (64 * 256 ^ 3) + u : Nat) : Int) by omega]
        exact this
      · have := code_one (c := 3) (k := 7) (u := u) (by decide) (by decide) (by omega) h
        rw [show (13835058055282163712 : Int) + ((u : Nat) : Int) = ((3 * (64 * 256 ^ 7) + u : Nat) : Int) by omega]
        exact this
theorem code_encs : ∀ {P : List (Int × Int)}, (∀ q ∈ P, (0 ≤ q.1 ∧ q.1 < 4611686018427387904) ∧ 0 ≤ q.2 ∧ q.2 < 4611686018427387904) → Code (ib (encs P)) (flat P)
  | [], _ => .nil
  | (g, z) :: P, h => by
    obtain ⟨⟨a, b⟩, c, d⟩ := h _ List.mem_cons_self
    have := code_enc a b (code_enc c d (code_encs fun q hq => h q (List.mem_cons_of_mem _ hq)))
    simp only [encs, ib_app, flat]
    exact this
theorem code_packed {d lo hi : Int} {R : List (Int × Int)} (hd0 : 0 ≤ d) (hd1 : d < 4611686018427387904) (hh0 : 0 ≤ hi) (hh1 : hi < 4611686018427387904) (hf0 : 0 ≤ hi - lo) (hf1 : hi - lo < 4611686018427387904) (hR : R.length ≤ 5)
    (hg : ∀ q ∈ gp lo R, (0 ≤ q.1 ∧ q.1 < 4611686018427387904) ∧ 0 ≤ q.2 ∧ q.2 < 4611686018427387904) :
    Code (KBw.bInts (packed d lo hi R).toArray) (hi :: d :: (R.length : Int) :: (hi - lo) :: flat (gp lo R)) := by
  have := code_enc hh0 hh1 (code_enc hd0 hd1 (code_enc (n := (R.length : Int)) (by omega) (by omega) (code_enc hf0 hf1 (code_encs hg))))
  have e : KBw.bInts (packed d lo hi R).toArray = ib (enc hi) ++ (ib (enc d) ++ (ib (enc (R.length : Int)) ++ (ib (enc (hi - lo)) ++ ib (encs (gp lo R))))) := by
    show ib (packed d lo hi R) = _
    simp only [packed, ib_app, List.append_assoc]
  rw [e]
  exact this
end

/-! part Z11 -/
section
set_option maxHeartbeats 8000000
section
variable {w : World} {p : Program} {loose : List Str} {mean : ExcName → Option Value} {mg mb : Str → Option Value}
 {dp un : Nat} {fa : Addr} {cd : Value} {A₀ : Around} {h₀ : Heap} {L l c1 c2 c3 : Addr} {m : Str → Option Value} {o1 o2 o3 : Obj} {s : Shared}
 {ql : Str} {params : Arguments} {body : List Stmt} {scope : Scope}
 {Q : Flow → Shared → Prop} {E : Value → Shared → Prop}
theorem law_walk (lk : PySem.Challenge.rw_no0056_01.row.prog.theDef (Str.ofString "law") = some (params, body, scope))
  {vs0 : List Value} {ns0 : List Int} (B : Below A₀ h₀ [] h₀) (F : Fr h₀ L s.heap (fun y => if y = Str.ofString "script" then some (.ref l) else none)) (X : (Mine.hd.heap_39 w.params).In h₀)
  (N : News h₀ L s.heap [(c3, o3), (c2, o2), (c1, o1)]) (d1 : o1.data = .cell none) (d2 : o2.data = .cell none) (d3 : o3.data = .cell none) (T : Top p loose mean mg mb h₀) (hd : dp + 40 < recursionLimit) (hu : un + 320 < cLine)
  (hl : h₀.IsList l vs0.toArray) (hI : IntsAre vs0 ns0) (hlen : ¬ ((63 : Nat) : Int) < (ns0.length : Int)) (n12 : @Ne Nat c1 c2) (n13 : @Ne Nat c1 c3) (n23 : @Ne Nat c2 c3)
  (k : ∀ h' tk' m' news', Fr h₀ L h' m' → News h₀ L h' news' → Q (.ret (.bool true)) { s with heap := h', toks := tk' }) :
  wpR (model (PySem.Challenge.rw_no0056_01.row.prog) w) (ktrTop dp un (some []) ql scope L fa cd [(Str.ofString "room", c3), (Str.ofString "delay", c2), (Str.ofString "ranges_here", c1)] []) (execs body (envX ql scope L fa cd [(Str.ofString "room", c3), (Str.ofString "delay", c2), (Str.ofString "ranges_here", c1)])) Q E s := by
  refine law_1 lk B F X N d1 d2 d3 T hd hu hl hI hlen n12 n13 n23 fun R M f fvs nf tl d room td tr o1 o2 o3 m1 h1 tk1 hDs hM hR1 hR6 hD hd0 hd1 hr0 hr1 F1 N1 e1 e2 e3 => ?_
  rcases R with _ | ⟨⟨lo, hi⟩, R⟩
  · exact absurd hR1 (by decide)
  have hR : R.length ≤ 5 := by simpa using hR6
  have hlo := hDs.1
  have hlh := hDs.2.1
  have hhM := hDs.2.2.1
  have hg := dsc_gp hDs.2.2.2 (by omega)
  refine law_2 lk B F1 X N1 e1 e2 e3 T hd hu hDs hM hR hD hd0 hd1 fun D ys h2 tk2 hyl hys hoff F2 N2 => ?_
  refine law_3 (ny := ys.length) lk B F2 X rfl N2 e1 e2 e3 T hd hu hDs hM hR hD hd0 hd1 (szs_ints hyl hys) (due_fit d lo hi room R) (last_fit d lo hi R) fun h3 tk3 m3 F3 N3 => ?_
  refine law_4 lk B F3 X N3 e1 e2 e3 T hd hu hDs hM hR hD hd0 hd1 (code_packed hd0 (by omega) (by omega) (by omega) (by omega) (by omega) hR hg) fun h4 tk4 m4 F4 N4 => ?_
  refine law_5 lk B F4 X N4 e1 e2 e3 T hd hu hDs hM hR hD fun h5 tk5 m5 t1 t2 tx f1 fvs1 k1 tl1 a1 a2 a3 a4 D1 F5 N5 => ?_
  exact law_6 lk B F5 X a1 a2 a3 a4 N5 T hd hu hDs hR D1 fun h6 tk6 m6 nx F6 N6 => k h6 tk6 m6 nx F6 N6
end
theorem top : PySem.Challenge.rw_no0056_01.Holds := hd (by
  w_top off
  k_fill
  intro w s₀ s₁ mg mb G Y fa o pm cd doc dV kV ho hd hcd hD hmg hg args vals as hpre hlay hrd hwl hlo
  have KX := kIn_of Y
  have X := (Ground.X G).1
  have V := (Ground.X G).2
  try w_nolog (first | (have GL := glob_more (Ground.glob G (by first | k_qdec | decide +kernel) (by first | k_qdec | decide +kernel)) V) | (have GL := glob_more (Ground.glob G (by decide +kernel) (by decide +kernel)) V))
  refine Ground.open G ?_
  intro T B D TE TW
  try (refine guard_noD D (by decide +kernel) ?_; clear D)
  obtain ⟨_, _, M⟩ := bmod_of_top T
  have TA := at_of_top T
  try (obtain ⟨_, _, he, B0⟩ := based_of_top T rfl hmg ho hd; have he' : cd = _ := he; subst he'; clear he)
  clear hmg
  wrow_args hpre hlay hrd hwl hlo
  refine enter_callR ?_
  w_top on
  refine codeR_mono ?_ (fun _ _ g => GoodW.toG g)
  have K0 := below_caller (Top.heap T)
  have he := Dflts.none hD rfl
  subst he
  have he := Dflts.noKw hD
  subst he
  refine callR_cells (by decide) ho (fd_plain hd) (Top.nolimit T) hcd rfl (kinds_of (by kinds_ok)) (by decide) fun h₁ tk₁ cells F N0 X0 => ?_
  cells_open X0
  clear hd TA hD hcd ho
  rename_i z8 z9 w8 hs w7 w6 hL1 hr1 hl2 q1 q2 q3 l vs0 w3 hL ra w1 r0 hI hr hc1 hc0 o3 o2 o1 d3 d2 d1
  have F' : Fr s₁.heap s₁.heap.objs.size h₁ (fun y => if y = Str.ofString "script" then some (.ref l) else none) := by
    with_unfolding_all exact F
  have d1' : o1.data = .cell none := d1.trans (by with_unfolding_all rfl)
  have d2' : o2.data = .cell none := d2.trans (by with_unfolding_all rfl)
  have d3' : o3.data = .cell none := d3.trans (by with_unfolding_all rfl)
  clear F d1 d2 d3 X0
  refine law_walk (h₀ := s₁.heap) (params := _) (scope := _) (by with_unfolding_all rfl) K0 F' KX N0 d1' d2' d3' T ?hd ?hu hL hI hc1 ?n12 ?n13 ?n23 ?kk
  case hd => decide +kernel
  case hu => (have hcL9 := cLine_is); (show 4 + 3 + 320 < cLine); omega
  case n12 => (show @Ne Nat _ _); omega
  case n13 => (show @Ne Nat _ _); omega
  case n23 => (show @Ne Nat _ _); omega
  case kk =>
    intro h' tk' m' nx F1 N1
    dsimp only
    clear F' N0 d1' d2' d3'
    wrow_close)
end
end
end Mine
theorem PySem.Challenge.cw_no0056_01_holds : PySem.Challenge.rw_no0056_01.Holds :=
  Mine.top
