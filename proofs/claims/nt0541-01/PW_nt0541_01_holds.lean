import PyProof.Rows.All
import Wide.All
import OpenK.AllK
import Wide.FinOn
import Lean
import PySem.Challenge.RW_nt0541_01
set_option Elab.async false
set_option maxRecDepth 100000
section
open PySem PySem.W PyProof.Rows
set_option Elab.async false
set_option maxRecDepth 100000
namespace Mine
open PySem.Sem (wp)

/-- built-ins that may hold a bytearray while they run -/
def heldIds : List String := ["bytearray.__contains__", "bytearray.__mod__", "bytearray.__rmod__", "_struct.pack_into.held", "bytearray.find.held"] ++ Builtin.Bytes.decodersThatHold
def noHold : Code → Bool
  | .builtin id _ => !heldIds.contains id
  | _ => true
def CleanB (l : List (Code × Pos)) : Prop := ∀ x ∈ l, noHold x.1 = true
def Clean (Γ : Ctx) : Prop := noHold Γ.code = true ∧ CleanB Γ.below

def wpG {α : Type} (M : Model) (A : Around) (t : Sem α) (Q : α → Shared → Prop) (E : Value → Shared → Prop) (s : Shared) : Prop :=
  ∀ Γ p, Γ.In A → Clean Γ → wp M Γ t (fun a _ s' => Q a s') (fun e _ s' => E e s') p s
def codeG (M : Model) (A : Around) (c : Code) (R : Result → Shared → Prop) (s : Shared) : Prop :=
  ∀ Γ p, Γ.code = c → Γ.Below A → CleanB Γ.below → wpCode M Γ R p s

section
variable {α β : Type} {M : Model} {A : Around} {E : Value → Shared → Prop} {s : Shared}

theorem G_any {t : Sem α} {Q : α → Shared → Prop} (h : wpAny M A t Q E s) : wpG M A t Q E s := fun Γ p hΓ _ => h Γ p hΓ
theorem G_code {c : Code} {R : Result → Shared → Prop} (h : codeAny M A c R s) : codeG M A c R s := fun Γ p hc hΓ _ => h Γ p hc hΓ
theorem G_pure {a : α} {Q : α → Shared → Prop} (h : Q a s) : wpG M A (pure a) Q E s := fun _ _ _ _ => h
theorem G_mono {t : Sem α} {Q Q' : α → Shared → Prop} {E' : Value → Shared → Prop} (h : wpG M A t Q E s) (hQ : ∀ a s, Q a s → Q' a s) (hE : ∀ e s, E e s → E' e s) : wpG M A t Q' E' s :=
  fun Γ p hΓ hc => Sem.wp_mono M Γ t (fun a _ s => hQ a s) (fun e _ s => hE e s) p s (h Γ p hΓ hc)
theorem G_bind {m : Sem α} {f : α → Sem β} {Q : β → Shared → Prop} (h : wpG M A m (fun a s' => wpG M A (f a) Q E s') E s) : wpG M A (m >>= f) Q E s := by
  intro Γ p hΓ hc
  rw [Sem.wp_bind']
  exact Sem.wp_mono M Γ m (fun a p' s' h' => h' Γ p' hΓ hc) (fun _ _ _ h' => h') p s (h Γ p hΓ hc)
theorem G_bindA {m : Sem α} {f : α → Sem β} {Q : β → Shared → Prop} (h : wpAny M A m (fun a s' => wpG M A (f a) Q E s') E s) : wpG M A (m >>= f) Q E s := G_bind (G_any h)
theorem G_onRaise {m : Sem α} {k : Value → Sem Unit} {Q : α → Shared → Prop}
    (h : wpG M A m Q (fun e s' => wpAny M A (k e) (fun _ s'' => E e s'') E s') s) : wpG M A (m.onRaise k) Q E s := by
  intro Γ p hΓ hc
  rw [Sem.wp_onRaise]
  exact Sem.wp_mono M Γ m (fun _ _ _ h' => h') (fun e p' s' h' => h' Γ p' hΓ) p s (h Γ p hΓ hc)
theorem G_attempt {m : Sem α} {Q : Except Value α → Shared → Prop} (h : wpG M A m (fun a => Q (.ok a)) (fun e => Q (.error e)) s) : wpG M A m.attempt Q E s := by
  intro Γ p hΓ hc; rw [Sem.wp_attempt]; exact h Γ p hΓ hc
theorem G_holding {vs : List Value} {m : Sem α} {Q : α → Shared → Prop} (h : wpG M A m Q E s) : wpG M A (holding vs m) Q E s := by
  intro Γ p hΓ hc; rw [Sem.wp_holding]; exact h Γ p hΓ hc
theorem G_keep {vs : List Value} {m : Sem α} {Q : α → Shared → Prop} (h : wpG M A m Q E s) : wpG M A (m.keep vs) Q E s := by
  intro Γ p hΓ hc; rw [Sem.wp_keep]; exact h Γ p hΓ hc
theorem G_operate {vs : List Value} {m : Sem Value} {Q : Value → Shared → Prop} (h : wpG M A m Q E s) : wpG M A (operate vs m) Q E s := by
  intro Γ p hΓ hc; rw [Sem.wp_operate]; exact h Γ p hΓ hc
theorem G_standAt {pos : Pos} {Q : Unit → Shared → Prop} (h : Q () s) : wpG M A (standAt pos) Q E s := fun _ _ _ _ => h
theorem G_point {Q : Unit → Shared → Prop} (h : Q () s) : wpG M A point Q E s := fun _ _ _ _ => h
theorem G_eq {t t' : Sem α} {Q : α → Shared → Prop} (e : t = t') (h : wpG M A t' Q E s) : wpG M A t Q E s := e ▸ h

theorem clean_enter {Γ : Ctx} (h : Clean Γ) (c : Code) (hd : Option Value) (p : Pos) : CleanB (Γ.enter c hd p).below := by
  intro x hx
  rcases List.mem_cons.mp (show x ∈ (Γ.code, p) :: Γ.below from hx) with rfl | hx
  · exact h.1
  · exact h.2 x hx
theorem G_run {c : Code} {h : Option Value} {Q : Flow → Shared → Prop}
    (hc : codeG M (A.mark h) c (fun r s' => match r with | .ok f => Q f s' | .error e => E e s') s) (hnb : h ≠ some byPass := by intro x; cases x) : wpG M A (run c h) Q E s := by
  intro Γ p hΓ hcl
  rw [Sem.wp_run]; exact hc _ p rfl (hΓ.enter c h p hnb) (clean_enter hcl c h p)
theorem G_call {f : Value} {pos : List Value} {kw : List (Str × Value)} {Q : Value → Shared → Prop}
    (hc : codeG M A (.call f ⟨pos, kw⟩) (fun r s' => match r with | .ok (.ret v) => Q v s' | .ok _ => False | .error e => E e s') s) : wpG M A (call f pos kw) Q E s := by
  intro Γ p hΓ hcl
  show wp M Γ (runValue (.call f ⟨pos, kw⟩)) _ _ p s
  rw [Sem.wp_runValue]; exact hc _ p rfl (hΓ.enter _ none p (by intro x; cases x)) (clean_enter hcl _ none p)
theorem codeG_mono {c : Code} {R R' : Result → Shared → Prop} (h : codeG M A c R s) (hR : ∀ r s, R r s → R' r s) : codeG M A c R' s :=
  fun Γ p hc hΓ hcl => wpCode_mono hR (h Γ p hc hΓ hcl)
theorem codeG_tree {c : Code} {R : Result → Shared → Prop} (hn : noHold c = true)
    (h : wpG M (A.under c) (M.den c) (fun fin s' => match fin with | .done f => R (.ok f) s' | .again c' => c'.quiet = true ∧ codeG M A c' R s') (fun e s' => R (.error e) s') s) : codeG M A c R s := by
  intro Γ p hc hΓ hcl
  rw [wpCode_iff_wp, hc]
  refine Sem.wp_mono M Γ _ (fun fin p' s' h' => ?_) (fun _ _ _ h' => h') p s (h Γ p (hc ▸ hΓ.in) ⟨by rw [hc]; exact hn, hcl⟩)
  cases fin with
  | done f => exact h'
  | again c' => exact ⟨h'.1, h'.2 (Γ.goto c') p' rfl (hΓ.goto c') hcl⟩
theorem codeG_loop {c : Code} {R : Result → Shared → Prop} (hn : noHold c = true) (hq : c.quiet = true) (I : Nat → Shared → Prop)
    (turn : ∀ n s, I n s → wpG M (A.under c) (M.den c)
      (fun fin s' => match fin with | .done f => R (.ok f) s' | .again c' => (c' = c ∧ ∃ m, m < n ∧ I m s') ∨ (c'.quiet = true ∧ codeG M A c' R s')) (fun e s' => R (.error e) s') s)
    (n : Nat) (h : I n s) : codeG M A c R s := by
  induction n using Nat.strongRecOn generalizing s with
  | ind n ih =>
    refine codeG_tree hn (G_mono (turn n s h) (fun fin s' hf => ?_) fun _ _ h' => h')
    cases fin with
    | done f => exact hf
    | again c' =>
      rcases hf with ⟨rfl, m, hm, hI⟩ | hf
      · exact ⟨hq, ih m hm hI⟩
      · exact hf
/-- what the restriction is for -/
theorem G_exported {self : Value} {Q : Bool → Shared → Prop} (h : Q false s) : wpG M A (Builtin.Bytes.exported self) Q E s := by
  intro Γ p _ hcl
  have key : ∀ (l : List (Code × Pos)), CleanB l → (l.any fun
      | (.builtin "bytearray.__contains__" ⟨v :: _, _⟩, _) | (.builtin "bytearray.__mod__" ⟨v :: _, _⟩, _)
      | (.builtin "bytearray.__rmod__" ⟨_ :: v :: _, _⟩, _) | (.builtin "_struct.pack_into.held" ⟨v :: _, _⟩, _) => Builtin.Bytes.sameRef v self
      | (.builtin "bytearray.find.held" ⟨_ :: _ :: held, _⟩, _) => held.any (Builtin.Bytes.sameRef self)
      | (.builtin id ⟨v :: _, _⟩, _) => Builtin.Bytes.sameRef v self && Builtin.Bytes.decodersThatHold.contains id
      | _ => false) = false := by
    intro l hl
    rw [List.any_eq_false]
    intro x hx
    have hn := hl x hx
    have bad : ∀ (id : String) (args : Args), noHold (.builtin id args) = true → heldIds.contains id = false := fun id args e => by
      simpa [noHold] using e
    obtain ⟨c, q⟩ := x
    split
    · rename_i e; cases e; exact absurd (bad _ _ hn) (by decide)
    · rename_i e; cases e; exact absurd (bad _ _ hn) (by decide)
    · rename_i e; cases e; exact absurd (bad _ _ hn) (by decide)
    · rename_i e; cases e; exact absurd (bad _ _ hn) (by decide)
    · rename_i e; cases e; exact absurd (bad _ _ hn) (by decide)
    · rename_i e
      cases e
      have hd := bad _ _ hn
      unfold heldIds at hd
      rw [List.contains_append, Bool.or_eq_false_iff] at hd
      rw [hd.2]; simp
    · simp
  show Q _ s
  have hk := key ((Γ.code, p) :: Γ.below) (by
    intro x hx
    rcases List.mem_cons.mp hx with rfl | hx
    · exact hcl.1
    · exact hcl.2 x hx)
  exact (congrArg (fun b => Q b s) hk).mpr h
end
end Mine

end
section
open PySem PySem.W PySem.Calls PyProof.Rows PySem.Spec
set_option Elab.async false
set_option maxRecDepth 100000
set_option maxHeartbeats 4000000
namespace Mine
open PySem.Sem (wp)
theorem caller_clean : Clean ⟨.builtin "claim.caller" {}, none, none, [], none⟩ := ⟨by decide +kernel, fun x hx => nomatch hx⟩
theorem thread_endsG {prog : Program} {w : World} {t : Sem Fin} {s : Shared} {R : Result → Shared → Prop} (hreg : s.asleep)
    (h : wpG (model prog w) callerA t (fun fin s' => ∃ f, fin = .done f ∧ (R (.ok f) s' ∧ leftWithCleanup s'.gens = false)) (fun e s' => R (.error e) s' ∧ leftWithCleanup s'.gens = false) s) :
    ∃ n r s' s'', runN (denote table) prog w n s ⟨t, .builtin "claim.caller" {}, default, []⟩ = .halted (outcomeOf r) s' ∧
      schedN (denote table) prog w n (.single s ⟨t, .builtin "claim.caller" {}, default, []⟩) = .halted (outcomeOf r) s' ∧ s'.forget = s''.forget ∧ R r s'' := by
  have hwp : wp (model prog w) ⟨.builtin "claim.caller" {}, none, none, [], none⟩ t (Sem.finPost (model prog w) ⟨.builtin "claim.caller" {}, none, none, [], none⟩ (fun r s' => R r s' ∧ leftWithCleanup s'.gens = false)) (fun e _ s' => R (.error e) s' ∧ leftWithCleanup s'.gens = false) default s := by
    refine Sem.wp_mono _ _ t (fun fin p' s' h' => ?_) (fun _ _ _ h' => h') default s (h _ default caller_in caller_clean)
    obtain ⟨f, rfl, hf⟩ := h'
    exact hf
  obtain ⟨n, r, s₁, s₂, hs, hn, hfo, hR⟩ := wp_halts_full (M := model prog w) (R := R) hreg hwp
  exact ⟨n, r, s₂, s₁, hn, hs, hfo, hR⟩
theorem callFrom_G {c : ClaimW} {tree : List Value → Sem Fin} {w : World} {s : Shared} {free : Addr → Prop} {gens : Prop} {kept : Heap → Prop} (hz : s.asleep) (hgens : s.gens = #[])
    (hspec : ∀ args, c.pre args = true → WData.layableAll args = true →
      ∀ ord : List DictEntry → List DictEntry, (∀ l, (ord l).Perm l) →
      ∃ vs s₁, layAllW c.records (classAt s.heap) w.params ord args s = some (vs, s₁) ∧
        wpG (model c.prog w) callerA (tree vs) (fun fin s' => ∃ f, fin = .done f ∧ (c.Ends s args vs s₁ (.ok f) s' ∧ s'.os = s.os ∧ AllBare s'.gens ∧ kept s'.heap))
          (fun e s' => c.Ends s args vs s₁ (.error e) s' ∧ s'.os = s.os ∧ AllBare s'.gens ∧ kept s'.heap) s₁) :
    c.CallFrom (fun vs => ⟨tree vs, .builtin "claim.caller" {}, default, []⟩) w free gens kept s := by
  intro args hpre hlay ord hord
  obtain ⟨vs, s₁, hlaid, hcode⟩ := hspec args hpre hlay ord hord
  have hal := layAllW_rest _ _ _ hlaid
  obtain ⟨k, r, s', s'', hrun, hsched, hfo, hcase, hos, hkp⟩ := thread_endsG (prog := c.prog) (w := w) (t := tree vs) (s := s₁)
    (R := fun r s' => c.Ends s args vs s₁ r s' ∧ s'.os = s.os ∧ kept s'.heap)
    (Shared.asleep_of_life hal.2.2.2 hz)
    (G_mono hcode (by
      rintro fin s' ⟨f, e, h1, h2, h3, h4⟩
      exact ⟨f, e, ⟨h1, h2, h4⟩, leftWithCleanup_false_of_bare h3⟩) (by
      rintro e s' ⟨h1, h2, h3, h4⟩
      exact ⟨⟨h1, h2, h4⟩, leftWithCleanup_false_of_bare h3⟩))
  obtain ⟨eh, _, _, eo, _⟩ := Shared.forget_eq hfo
  have hcase := hcase.congr eh
  have hkp : kept s'.heap := by first | exact eh ▸ hkp | (rw [eh] at hkp; exact hkp) | (rw [← eh] at hkp; exact hkp)
  rw [← eo] at hos
  have hlife : s'.heap.life = s.heap.life := (runN_life _ _ _ hrun).trans hal.2.2.2
  refine ⟨vs, s₁, hlaid, k, _, s', hsched, ?_, (fun _ i x hx => by rw [hgens] at hx; simp at hx), hkp, by rw [hlife], Shared.rest_eq hos⟩
  rcases hcase with ⟨v, rfl, d1, d2, d3, d4, d5⟩ | ⟨e, ob, cls, rfl, d1, d2, d3, d4, d5⟩
  · exact .inl ⟨v, rfl, d1, d2, d3, fun b o y _ => d4 b o y, d5⟩
  · exact .inr ⟨e, ob, cls, rfl, d1, d2, d3, d4, fun b o y _ => d5 b o y⟩
theorem open_G {r : RowW} {run : Value → List Value → Sem Value} {tree : List Value → Sem Fin} {q : Program} {loose defs kps : List Str} {writes : Bool} {Xt : Shared → Bool} {XP : (Str → Option Value) → Heap → Prop} {α : Type} {Yf : Shared → α} {Ya : World → α} {YP : World → Heap → Prop} {N : Nat}
    (left : LeftO r.prog q loose Xt Yf Ya N) (hY : ∀ w s, Yf s = Ya w → YP w s.heap) (hYk : ∀ w h h', YP w h → (∀ b o, h.get? b = some o → h'.get? b = some o) → YP w h') (hX : ∀ s, Xt s = true → XP (s.heap.nsMap mainGlobals) s.heap) (hXk : ∀ mg h h', XP mg h → (∀ b o, h.get? b = some o → h'.get? b = some o) → XP mg h')
    (hRf : ∀ s, Xt s = true → RecFacts r.records s.heap) (hwr : (!writes || r.records.isEmpty) = true) (ok : (chainsOk q && opensWell r.prog && (frees r && r.within.isEmpty)) = true) (hb : r.prog.bare) (hw : r.promised)
    (ht : ∀ vs (w : World) (s : Shared) mg f (Q : Fin → Shared → Prop) (E : Value → Shared → Prop), s.heap.Ns mainGlobals mg → mg r.name = some f → wpG (model r.prog w) callerA (run f vs) (fun v s' => Q (.done (.ret v)) s') E s → wpG (model r.prog w) callerA (tree vs) Q E s)
    (pin : ∀ w s, s.heap.isNs mainGlobals = true → Ground q loose [] XP w s (s.heap.nsMap mainGlobals) (s.heap.nsMap builtinsNs) s.heap → ∀ n ∈ defs, isTheDefsW r.prog s.heap n)
    (call : ∀ (w : World) (s₀ s₁ : Shared) (mg mb : Str → Option Value), Ground q loose r.records XP w s₀ mg mb s₁.heap → YP w s₁.heap → ∀ (args : List WData) (vs : List Value) (as : List Addr),
      r.claim.pre args = true → WData.layableAll args = true → Laid r.records w s₀ s₁ args vs as → sysModules < s₀.heap.objs.size → ∃ f, mg r.name = some f ∧
        wpG (model r.prog w) callerA (run f vs) (fun v s' => GoodWG r.claim (classAt s₀.heap) (ExcName.means s₀.heap) args s₁ (.ok (.ret v)) s')
          (fun e s' => GoodWG r.claim (classAt s₀.heap) (ExcName.means s₀.heap) args s₁ (.error e) s') s₁) : r.claim.HoldsOpenBy (fun vs => ⟨tree vs, .builtin "claim.caller" {}, default, []⟩) defs kps writes := by
  obtain ⟨ok, k5⟩ := Bool.and_eq_true_iff.mp ok
  obtain ⟨hch, o1⟩ := Bool.and_eq_true_iff.mp ok
  obtain ⟨k5, k6⟩ := Bool.and_eq_true_iff.mp k5
  obtain ⟨hsame, hu, ha, hap, hm⟩ := frees_parts k5
  refine ⟨⟨hb, o1, by show r.makers.map _ = []; rw [hm]; rfl⟩, hw.witness, fun w => ⟨(left.behind hX hch w).1, fun s' hs' => ?_⟩⟩
  obtain ⟨s₀, hf, hg0, s, hT, hz, hgens, hg, G00, y⟩ := (left.behind (XP := fun mg h => XP mg h ∧ RecFacts r.records h) (fun s hs => ⟨hX s hs, hRf s hs⟩) hch w).2 s' hs'
  have G0 : Ground q loose [] XP w s (s.heap.nsMap mainGlobals) (s.heap.nsMap builtinsNs) s.heap := ⟨G00.T, G00.B, G00.D, G00.TE, G00.TD, G00.W, G00.X.1, G00.cls, G00.has, G00.apart, G00.once, G00.K⟩
  have RF := G00.X.2
  have hT' := hT
  refine ⟨s₀, hf, hg0, s, hT, pin w s hg G0, RF.1, RF.2.1, ?_⟩
  have hgens : s.gens = #[] := Array.eq_empty_of_size_eq_zero (beq_iff_eq.mp hgens)
  have G : Ground q loose r.records XP w s _ _ s.heap := RF.ground G0
  refine callFrom_G (c := r.claim) hz hgens fun args hpre hlay ord hord => ?_
  obtain ⟨⟨vs, s₁⟩, hlaid⟩ := Option.isSome_iff_exists.mp (layAllW_isSome (P := w.params) (ord := ord) G.has args r.args s (pre_splitW hpre).1)
  have keeps := layAllW_keeps _ _ _ hlaid
  have hal := layAllW_rest _ _ _ hlaid
  obtain ⟨as, hrd, hin, hold⟩ := reads_layAllW hord _ _ _ hlaid hlay s₁.heap (fun _ _ e => e)
  have L : Laid r.records w s s₁ args vs as := ⟨⟨ord, hord, hlaid⟩, hrd, hin, hold, keeps, hal.1.trans hgens, hal.2.2.1⟩
  have G₁ := G.keeps hXk keeps
  obtain ⟨f, hf, h⟩ := call w s s₁ _ _ G₁ (hYk _ _ _ (hY w s y) keeps) args vs as hpre hlay L G.low
  have hi := ident_freeW hu ha hap
  have hwi : r.claim.within = [] := List.isEmpty_iff.mp k6
  exact ⟨vs, s₁, hlaid, ht vs w s₁ _ f _ _ G₁.T.g hf (G_mono h (fun v s' g => ⟨_, rfl, have z := g.laid (c := r.claim) hsame hwi hi L; ⟨z.1, z.2.1, z.2.2, fun q => ⟨namesKept_of hT' hg kps keeps g.2.1.old, noTable hwr q⟩⟩⟩) fun e s' g => have z := g.laid (c := r.claim) hsame hwi hi L; ⟨z.1, z.2.1, z.2.2, fun q => ⟨namesKept_of hT' hg kps keeps g.2.1.old, noTable hwr q⟩⟩)⟩
/-- the walk that our head asks for -/
abbrev WalkOG (q : Program) (loose : List Str) (XP : (Str → Option Value) → Heap → Prop) (YP : World → Heap → Prop) (r : RowW) (d : DefRec) (kwd : List (Str × Expr)) (run : Value → List Value → Sem Value) : Prop :=
  ∀ (w : World) (s₀ s₁ : Shared) (mg mb : Str → Option Value), Ground q loose r.records XP w s₀ mg mb s₁.heap → YP w s₁.heap → ∀ (a : Addr) (o : Obj) (pm cd doc dV kV : Value), s₁.heap.get? a = some o →
    o.data = .func { docDef d.name d.params d.body d.scope pm cd doc with defaults := dV, kwdefaults := kV } → s₁.heap.CodeRec cd d.name → Dflts mg s₁.heap d.params kwd dV kV → mg d.name = some (.ref a) → s₁.gens = #[] →
    ∀ (args : List WData) (vals : List Value) (as : List Addr), r.claim.pre args = true → WData.layableAll args = true → ReadsAllW r.records (classAt s₀.heap) s₁.heap vals args as → WellAll w.params s₁.heap vals args → (∀ a ∈ as, (a == sysModules) = false) →
      wpG (model r.prog w) callerA (run (.ref a) vals) (fun v s' => GoodWG r.claim (classAt s₀.heap) (ExcName.means s₀.heap) args s₁ (.ok (.ret v)) s')
        (fun e s' => GoodWG r.claim (classAt s₀.heap) (ExcName.means s₀.heap) args s₁ (.error e) s') s₁
theorem PySem.W.holds_open {r : OpenRow} {q : Program} {loose : List Str} {Xt : Shared → Bool} {XP : (Str → Option Value) → Heap → Prop} {α : Type} {Yf : Shared → α} {Ya : World → α} {YP : World → Heap → Prop} {d : DefRec} {kwd : List (Str × Expr)} {N : Nat}
    (left : LeftO r.prog q loose Xt Yf Ya N) (hY : ∀ w s, Yf s = Ya w → YP w s.heap) (hYk : ∀ w h h', YP w h → (∀ b o, h.get? b = some o → h'.get? b = some o) → YP w h')
    (hX : ∀ s, Xt s = true → XP (s.heap.nsMap mainGlobals) s.heap) (hXk : ∀ mg h h', XP mg h → (∀ b o, h.get? b = some o → h'.get? b = some o) → XP mg h')
    (hdef : defOf q r.name = some (d, kwd)) (hp : r.prog.theDef r.name = some (d.params, d.body, d.scope)) (hk : kwWritten? d.params.kwonlyargs d.params.kw_defaults = some kwd) (hRf : ∀ s, Xt s = true → RecFacts r.records s.heap) (hwr : (!r.writes || r.records.isEmpty) = true)
    (k1 : r.wellSaid = true) (ok : (chainsOk q && opensWell r.prog && (frees r.toRowW && r.within.isEmpty)) = true) (hb : r.prog.bare) (hw : r.toRowW.promised)
    (call : WalkOG q loose XP YP r.toRowW d kwd fun f vs => _root_.PySem.call f vs) : r.Holds := by
  refine ⟨k1, hw, open_G (r := r.toRowW) (run := fun f vs => _root_.PySem.call f vs) (tree := fun vs => do match ← nsGet mainNs r.name with
      | some f => do ret (← _root_.PySem.call f vs)
      | none => unsupported "claim.caller:no-such-global") left hY hYk hX hXk hRf hwr ok hb hw
    (fun vs w s mg f Q E hg hf h => G_bindA (wpAny_nsGet hg (by rw [hf]; exact G_bind (G_mono h (fun _ _ x => G_pure x) fun _ _ x => x))))
    (fun w s hg G n hn => ?_) fun w s₀ s₁ mg mb G Y args vs as hpre hlay L low => ?_⟩
  · obtain rfl : n = r.name := by split at hn <;> simp_all
    exact pinned_of_view hg G hdef hp hk
  · obtain ⟨a, o, pm, cd, doc, dV, kV, h1, h2, h3, h4, h5⟩ := G.fn hdef
    exact ⟨.ref a, h1, call w s₀ s₁ mg mb G Y a o pm cd doc dV kV h2 h3 h4 h5 (defOf_name hdef ▸ h1) L.gens args vs as hpre hlay L.reads L.well (L.low low)⟩
end Mine

end
section
open PySem PySem.W PyProof.Rows
set_option Elab.async false
set_option maxRecDepth 100000
set_option maxHeartbeats 8000000
namespace Mine
open_top hd for PySem.Challenge.rw_nt0541_01
/-- open_top leaves the walk's top arms on for the rest of the file; off again -/
theorem quiet : True := by
  w_top off
  exact trivial
end Mine

end
section
set_option Elab.async false
namespace Mine

/-! the plain law -/
def stuffL : List UInt8 → List UInt8
  | [] => []
  | c :: r => if c = 255 then 255 :: 0 :: stuffL r else c :: stuffL r
theorem stuffL_append (a b : List UInt8) : stuffL (a ++ b) = stuffL a ++ stuffL b := by
  induction a with
  | nil => rfl
  | cons c r ih => simp only [List.cons_append, stuffL]; split <;> simp [ih]
theorem stuffL_one {c : UInt8} (h : c ≠ 255) : stuffL [c] = [c] := by simp [stuffL, h]
theorem stuffL_255 : stuffL [255] = [255, 0] := rfl
theorem stuffL_length (a : List UInt8) : (stuffL a).length ≤ 2 * a.length := by
  induction a with
  | nil => exact Nat.le_refl _
  | cons c r ih => simp only [stuffL]; split <;> (simp only [List.length_cons]; omega)

def unstuffL : List UInt8 → Option (List UInt8)
  | [] => some []
  | c :: r => if c = 255 then
      (match r with
        | [] => none
        | d :: r' => if d = 0 then (unstuffL r').map (255 :: ·) else none)
    else (unstuffL r).map (c :: ·)
theorem unstuffL_plain {c : UInt8} (h : c ≠ 255) (r : List UInt8) : unstuffL (c :: r) = (unstuffL r).map (c :: ·) := by
  cases r <;> simp [unstuffL, h]
theorem unstuffL_zero (r : List UInt8) : unstuffL (255 :: 0 :: r) = (unstuffL r).map (255 :: ·) := by simp [unstuffL]
theorem unstuffL_end : unstuffL [255] = none := by simp [unstuffL]
theorem unstuffL_mark {d : UInt8} (h : d ≠ 0) (r : List UInt8) : unstuffL (255 :: d :: r) = none := by simp [unstuffL, h]
theorem unstuffL_stuffL (a t : List UInt8) : unstuffL (stuffL a ++ t) = (unstuffL t).map (a ++ ·) := by
  induction a with
  | nil => simp [stuffL]
  | cons c r ih =>
    simp only [stuffL]
    split
    · rename_i h; subst h; simp only [List.cons_append]; rw [unstuffL_zero, ih]; simp [Option.map_map, Function.comp_def]
    · rename_i h; simp only [List.cons_append]; rw [unstuffL_plain h, ih]; simp [Option.map_map, Function.comp_def]
theorem unstuff_stuff (a : List UInt8) : unstuffL (stuffL a) = some a := by
  have := unstuffL_stuffL a []
  simpa [unstuffL] using this

/-- the scan of split_data: the interval so far (its zeros taken out), what is left -/
def scanL : Nat → List UInt8 → List UInt8 → Option (List (List UInt8) × List Int)
  | _, x, [] => some ([x], [])
  | 0, _, _ :: _ => none
  | n + 1, x, c :: r => if c = 255 then
      (match r with
        | [] => none
        | d :: r' => if d = 0 then scanL n (x ++ [255]) r' else
            match (d :: r').dropWhile (· == 255) with
            | [] => none
            | m :: q => if 208 ≤ m.toNat ∧ m.toNat ≤ 215 then (scanL n [] q).map fun p => (x :: p.1, ((m.toNat : Int) - 208) :: p.2) else none)
    else scanL n (x ++ [c]) r
theorem dropWhile_le (p : UInt8 → Bool) (l : List UInt8) : (l.dropWhile p).length ≤ l.length := by
  induction l with
  | nil => exact Nat.le_refl _
  | cons a r ih => simp only [List.dropWhile_cons]; split <;> simp only [List.length_cons] <;> omega
theorem scanL_fuel : ∀ (n m : Nat) (x l : List UInt8), l.length ≤ n → l.length ≤ m → scanL n x l = scanL m x l := by
  intro n
  induction n with
  | zero =>
    intro m x l h _
    have : l = [] := List.length_eq_zero_iff.mp (by omega)
    subst this
    cases m <;> rfl
  | succ n ih =>
    intro m x l h1 h2
    cases l with
    | nil => cases m <;> rfl
    | cons c r =>
      cases m with
      | zero => simp at h2
      | succ m =>
        simp only [List.length_cons] at h1 h2
        simp only [scanL]
        split
        · cases r with
          | nil => rfl
          | cons d r' =>
            simp only [List.length_cons] at h1 h2
            dsimp only
            split
            · exact ih m _ _ (by omega) (by omega)
            · have hd := dropWhile_le (· == 255) (d :: r')
              cases hq : (d :: r').dropWhile (· == 255) with
              | nil => rfl
              | cons e q =>
                rw [hq] at hd
                simp only [List.length_cons] at hd
                dsimp only
                rw [ih m [] q (by omega) (by omega)]
        · exact ih m _ _ (by omega) (by omega)
def scan (x l : List UInt8) : Option (List (List UInt8) × List Int) := scanL l.length x l
theorem scan_nil (x : List UInt8) : scan x [] = some ([x], []) := rfl
theorem scan_plain {c : UInt8} (h : c ≠ 255) (x r : List UInt8) : scan x (c :: r) = scan (x ++ [c]) r := by
  show scanL (r.length + 1) x (c :: r) = _
  simp only [scanL, if_neg h]; rfl
theorem scan_zero (x r : List UInt8) : scan x (255 :: 0 :: r) = scan (x ++ [255]) r := by
  show scanL (r.length + 1 + 1) x (255 :: 0 :: r) = _
  simp only [scanL, if_true]
  exact scanL_fuel _ _ _ _ (by omega) (by omega)
theorem scan_end (x : List UInt8) : scan x [255] = none := rfl
theorem scan_mark {d : UInt8} (h : d ≠ 0) (x r : List UInt8) : scan x (255 :: d :: r) = (match (d :: r).dropWhile (· == 255) with
    | [] => none
    | m :: q => if 208 ≤ m.toNat ∧ m.toNat ≤ 215 then (scan [] q).map fun p => (x :: p.1, ((m.toNat : Int) - 208) :: p.2) else none) := by
  show scanL ((d :: r).length + 1) x (255 :: d :: r) = _
  simp only [scanL, if_true, if_neg h]
  have hd := dropWhile_le (· == 255) (d :: r)
  cases hq : (d :: r).dropWhile (· == 255) with
  | nil => rfl
  | cons e q =>
    rw [hq] at hd
    simp only [List.length_cons] at hd
    dsimp only
    rw [scanL_fuel (d :: r).length q.length [] q (by simp only [List.length_cons]; omega) (Nat.le_refl _)]
    rfl
theorem scan_stuff (y x t : List UInt8) : scan x (stuffL y ++ t) = scan (x ++ y) t := by
  induction y generalizing x with
  | nil => simp [stuffL]
  | cons c r ih =>
    simp only [stuffL]
    split
    · rename_i h; subst h
      simp only [List.cons_append]
      rw [scan_zero, ih]; simp
    · rename_i h
      simp only [List.cons_append]
      rw [scan_plain h, ih]; simp

/-- the joined data: from the interval with the number k on, each behind its restart -/
def tailL (f : Nat) : Nat → List (List UInt8) → List UInt8
  | _, [] => []
  | k, y :: r => List.replicate f 255 ++ [255, UInt8.ofNat (208 + k % 8)] ++ stuffL y ++ tailL f (k + 1) r
def dataL (f : Nat) : List (List UInt8) → List UInt8
  | [] => []
  | y :: r => stuffL y ++ tailL f 0 r
def numsL : Nat → Nat → List Int
  | _, 0 => []
  | k, n + 1 => ((k % 8 : Nat) : Int) :: numsL (k + 1) n
theorem mark_fill (f : Nat) (m : UInt8) (h0 : m ≠ 0) (h1 : m ≠ 255) (x q : List UInt8) : scan x (List.replicate f 255 ++ (255 :: m :: q)) =
    if 208 ≤ m.toNat ∧ m.toNat ≤ 215 then (scan [] q).map fun p => (x :: p.1, ((m.toNat : Int) - 208) :: p.2) else none := by
  have hd : ∀ g : Nat, (List.replicate g 255 ++ m :: q).dropWhile (· == (255 : UInt8)) = m :: q := by
    intro g
    induction g with
    | zero => simp [h1]
    | succ g ih => simp [List.replicate_succ, ih]
  cases f with
  | zero =>
    simp only [List.replicate_zero, List.nil_append]
    rw [scan_mark h0]
    have := hd 0
    simp only [List.replicate_zero, List.nil_append] at this
    rw [this]
  | succ f =>
    have e : List.replicate (f + 1) (255 : UInt8) ++ (255 :: m :: q) = 255 :: (255 :: (List.replicate f 255 ++ m :: q)) := by
      rw [List.replicate_succ, List.cons_append]
      congr 1
      rw [show (255 : UInt8) :: m :: q = [255] ++ (m :: q) from rfl, ← List.append_assoc, ← List.replicate_succ', List.replicate_succ, List.cons_append]
    rw [e, scan_mark (by decide)]
    have := hd (f + 1)
    rw [List.replicate_succ, List.cons_append] at this
    rw [this]
theorem rst_toNat (k : Nat) : (UInt8.ofNat (208 + k % 8)).toNat = 208 + k % 8 := by
  simp only [UInt8.toNat_ofNat']; omega
theorem rst_ne (k : Nat) : UInt8.ofNat (208 + k % 8) ≠ 0 ∧ UInt8.ofNat (208 + k % 8) ≠ 255 := by
  constructor
  · intro h
    have := congrArg UInt8.toNat h
    rw [rst_toNat, show (0 : UInt8).toNat = 0 from rfl] at this
    omega
  · intro h
    have := congrArg UInt8.toNat h
    rw [rst_toNat, show (255 : UInt8).toNat = 255 from rfl] at this
    omega
theorem scan_tail (f : Nat) (r : List (List UInt8)) (k : Nat) (x t : List UInt8) : scan x (tailL f k r ++ t) =
    match r.getLast? with
    | none => scan x t
    | some z => (scan z t).map fun p => (x :: r.dropLast ++ p.1, numsL k r.length ++ p.2) := by
  induction r generalizing k x with
  | nil => simp [tailL]
  | cons y r ih =>
    simp only [tailL]
    have e : List.replicate f (255 : UInt8) ++ [255, UInt8.ofNat (208 + k % 8)] ++ stuffL y ++ tailL f (k + 1) r ++ t =
        List.replicate f 255 ++ (255 :: UInt8.ofNat (208 + k % 8) :: (stuffL y ++ (tailL f (k + 1) r ++ t))) := by simp
    rw [e, mark_fill f _ (rst_ne k).1 (rst_ne k).2, if_pos (by rw [rst_toNat]; omega), scan_stuff, List.nil_append, ih, rst_toNat]
    have e2 : ((208 + k % 8 : Nat) : Int) - 208 = ((k % 8 : Nat) : Int) := by omega
    cases r with
    | nil =>
      have e3 : (208 + (k : Int) % 8 - 208) = (k : Int) % 8 := by omega
      simp [numsL, e3, tailL]
    | cons z r =>
      simp only [List.getLast?_cons_cons]
      cases hz : (z :: r).getLast? with
      | none => simp at hz
      | some v =>
        simp only [Option.map_map, Function.comp_def, List.length_cons, numsL, e2]
        congr 1
theorem scan_data (f : Nat) (y : List UInt8) (r : List (List UInt8)) : scan [] (dataL f (y :: r)) = some (y :: r, numsL 0 r.length) := by
  have h := scan_tail f r 0 y []
  rw [List.append_nil] at h
  show scan [] (stuffL y ++ tailL f 0 r) = _
  rw [scan_stuff, List.nil_append, h]
  cases hz : r.getLast? with
  | none =>
    have : r = [] := by simpa using hz
    subst this; rfl
  | some v =>
    simp only [scan_nil, Option.map_some, List.append_nil]
    obtain ⟨ys, rfl⟩ := List.getLast?_eq_some_iff.mp hz
    simp
theorem scan_bad (f : Nat) (y : List UInt8) (r : List (List UInt8)) (t : List UInt8) (h : ∀ x, scan x t = none) : scan [] (dataL f (y :: r) ++ t) = none := by
  show scan [] (stuffL y ++ tailL f 0 r ++ t) = _
  rw [List.append_assoc, scan_stuff, List.nil_append, scan_tail]
  split <;> simp [h]
theorem bad1 (x : List UInt8) : scan x [255] = none := rfl
theorem bad2 (x : List UInt8) : scan x [255, 217] = none := rfl
theorem bad3 (x : List UInt8) : scan x [255, 255] = none := rfl
theorem bad4 (x : List UInt8) : scan x [255, 255, 0] = none := rfl
theorem bad5 (x : List UInt8) : scan x [255, 1, 2] = none := rfl
theorem ahead1 (t : List UInt8) : scan [] (7 :: 255 :: 217 :: t) = none := by rw [scan_plain (by decide), scan_mark (by decide)]; rfl
theorem ahead2 (t : List UInt8) : scan [] (7 :: 255 :: 1 :: t) = none := by rw [scan_plain (by decide), scan_mark (by decide)]; rfl
theorem ahead3 (t : List UInt8) : scan [] (7 :: 255 :: 255 :: 0 :: t) = none := by rw [scan_plain (by decide), scan_mark (by decide)]; rfl
theorem ahead4 (t : List UInt8) : scan [] (7 :: 255 :: 207 :: t) = none := by rw [scan_plain (by decide), scan_mark (by decide)]; rfl
theorem cut_bad (a t : List UInt8) (h : unstuffL t = none) : unstuffL (stuffL a ++ t) = none := by rw [unstuffL_stuffL, h]; rfl
theorem tailL_length (f k : Nat) (r : List (List UInt8)) (n : Nat) (h : ∀ y ∈ r, y.length ≤ n) : (tailL f k r).length ≤ r.length * (f + 2 + 2 * n) := by
  induction r generalizing k with
  | nil => simp [tailL]
  | cons y r ih =>
    have h1 := ih (k + 1) fun z hz => h z (.tail _ hz)
    have h2 := h y (.head _)
    have h3 := stuffL_length y
    simp only [tailL, List.length_append, List.length_replicate, List.length_cons, List.length_nil]
    rw [Nat.add_mul, Nat.one_mul]
    omega
theorem dataL_length (f : Nat) (r : List (List UInt8)) (n : Nat) (h : ∀ y ∈ r, y.length ≤ n) : (dataL f r).length ≤ r.length * (f + 2 + 2 * n) := by
  cases r with
  | nil => simp [dataL]
  | cons y r =>
    have h1 := tailL_length f 0 r n fun z hz => h z (.tail _ hz)
    have h2 := h y (.head _)
    have h3 := stuffL_length y
    simp only [dataL, List.length_append, List.length_cons]
    rw [Nat.add_mul, Nat.one_mul]
    omega
end Mine

end
section
set_option Elab.async false
namespace Mine
open PySem PySem.Builtin

/-! bytes.replace of one octet by two, as the model reckons it -/
def occL (b : Array UInt8) (n : Nat) : List Nat := (List.range n).filter fun i => b[i]? == some 255
theorem occL_succ (b : Array UInt8) (n : Nat) : occL b (n + 1) = if b[n]? = some 255 then occL b n ++ [n] else occL b n := by
  unfold occL
  rw [List.range_succ, List.filter_append]
  split
  · rename_i h; simp [h]
  · rename_i h; simp [h]
theorem extract_one (b : Array UInt8) (i : Nat) : (b.extract i (i + 1) == #[(255 : UInt8)]) = (b[i]? == some 255) := by
  by_cases h : i < b.size
  · have e : b.extract i (i + 1) = #[b[i]] := by
      apply Array.ext
      · simp; omega
      · intro j h1 h2
        have : j = 0 := by simp at h2; omega
        subst this
        simp
    rw [e]
    simp [h]
  · have e : b.extract i (i + 1) = #[] := by
      apply Array.ext
      · simp; omega
      · intro j h1 h2; simp at h2
    rw [e]
    have : b[i]? = none := by simp; omega
    rw [this]; decide
theorem occurrences_one (b : Array UInt8) : Bytes.occurrences b #[255] 0 b.size = occL b b.size := by
  unfold Bytes.occurrences
  have key : ∀ n : Nat, (((List.range n).map (· + 0)).foldl (fun (acc : List Nat × Nat) (i : Nat) =>
      if (decide (i ≥ acc.2) && b.extract i (i + (#[(255 : UInt8)] : Array UInt8).size) == #[255]) = true then (i :: acc.1, i + (#[(255 : UInt8)] : Array UInt8).size) else acc) ([], 0)).1.reverse = occL b n ∧
      (((List.range n).map (· + 0)).foldl (fun (acc : List Nat × Nat) (i : Nat) =>
      if (decide (i ≥ acc.2) && b.extract i (i + (#[(255 : UInt8)] : Array UInt8).size) == #[255]) = true then (i :: acc.1, i + (#[(255 : UInt8)] : Array UInt8).size) else acc) ([], 0)).2 ≤ n := by
    intro n
    induction n with
    | zero => exact ⟨rfl, Nat.le_refl _⟩
    | succ n ih =>
      rw [List.range_succ, List.map_append, List.foldl_append]
      simp only [List.map_cons, List.map_nil, List.foldl_cons, List.foldl_nil]
      generalize hacc : (((List.range n).map (· + 0)).foldl (fun (acc : List Nat × Nat) (i : Nat) =>
        if (decide (i ≥ acc.2) && b.extract i (i + (#[(255 : UInt8)] : Array UInt8).size) == #[255]) = true then (i :: acc.1, i + (#[(255 : UInt8)] : Array UInt8).size) else acc) ([], 0)) = acc at ih ⊢
      have hsz : (#[(255 : UInt8)] : Array UInt8).size = 1 := rfl
      rw [hsz, Nat.add_zero, extract_one, occL_succ]
      have hd : decide (n ≥ acc.2) = true := decide_eq_true ih.2
      rw [hd, Bool.true_and]
      by_cases h : b[n]? = some 255
      · rw [if_pos (by rw [h]; rfl), if_pos h]
        refine ⟨?_, Nat.le_refl _⟩
        rw [List.reverse_cons, ih.1]
      · rw [if_neg (by simpa using h), if_neg h]
        exact ⟨ih.1, by omega⟩
  have h2 : b.size + 1 - (0 + (#[(255 : UInt8)] : Array UInt8).size) = b.size := by
    show b.size + 1 - (0 + 1) = b.size
    omega
  rw [h2]
  exact (key b.size).1

theorem joined_snoc (sep x : Array UInt8) (ps : List (Array UInt8)) : Bytes.joined sep (ps ++ [x]) = (if ps.isEmpty then Bytes.joined sep ps else Bytes.joined sep ps ++ sep) ++ x := by
  unfold Bytes.joined
  rw [List.zipIdx_append, List.foldl_append]
  cases ps with
  | nil => simp
  | cons p r => simp
theorem joined_ext (sep x y : Array UInt8) (ps : List (Array UInt8)) : Bytes.joined sep (ps ++ [x ++ y]) = Bytes.joined sep (ps ++ [x]) ++ y := by
  rw [joined_snoc, joined_snoc, Array.append_assoc]
theorem joined_new (sep x : Array UInt8) (ps : List (Array UInt8)) : Bytes.joined sep (ps ++ [x] ++ [#[]]) = Bytes.joined sep (ps ++ [x]) ++ sep := by
  rw [joined_snoc]
  have : (ps ++ [x]).isEmpty = false := by cases ps <;> rfl
  rw [this]; simp
theorem extract_snoc (b : Array UInt8) (l n : Nat) (c : UInt8) (hl : l ≤ n) (h : b[n]? = some c) : b.extract l (n + 1) = b.extract l n ++ #[c] := by
  obtain ⟨hn, hc⟩ := Array.getElem?_eq_some_iff.mp h
  apply Array.toList_inj.mp
  simp only [Array.toList_extract, Array.toList_append, List.extract_eq_take_drop]
  have e : n + 1 - l = (n - l) + 1 := by omega
  rw [e, List.take_add_one]
  congr 1
  rw [List.getElem?_drop, show l + (n - l) = n by omega, Array.getElem?_toList, h]; rfl
theorem between_go (b : Array UInt8) : ∀ n, n ≤ b.size →
    ((occL b n).foldl (fun (acc : Array (Array UInt8) × Nat) p => (acc.1.push (b.extract acc.2 p), p + 1)) (#[], 0)).2 ≤ n ∧
    Bytes.joined #[255, 0] (((occL b n).foldl (fun (acc : Array (Array UInt8) × Nat) p => (acc.1.push (b.extract acc.2 p), p + 1)) (#[], 0)).1.toList ++
      [b.extract ((occL b n).foldl (fun (acc : Array (Array UInt8) × Nat) p => (acc.1.push (b.extract acc.2 p), p + 1)) (#[], 0)).2 n]) = (stuffL (b.toList.take n)).toArray := by
  intro n
  induction n with
  | zero => intro _; refine ⟨Nat.le_refl _, ?_⟩; simp [occL, Bytes.joined, stuffL]
  | succ n ih =>
    intro hn
    have ih := ih (by omega)
    obtain ⟨c, hc⟩ : ∃ c, b[n]? = some c := ⟨b[n], by simp⟩
    have ht : b.toList.take (n + 1) = b.toList.take n ++ [c] := by
      rw [List.take_add_one, Array.getElem?_toList, hc]; rfl
    rw [occL_succ, ht, stuffL_append]
    generalize hacc : ((occL b n).foldl (fun (acc : Array (Array UInt8) × Nat) p => (acc.1.push (b.extract acc.2 p), p + 1)) (#[], 0)) = acc at ih
    by_cases h : c = 255
    · subst h
      rw [if_pos hc, List.foldl_append, hacc]
      simp only [List.foldl_cons, List.foldl_nil, Array.toList_push]
      refine ⟨Nat.le_refl _, ?_⟩
      rw [show b.extract (n + 1) (n + 1) = #[] from Array.extract_eq_empty_of_le (by omega), joined_new, ih.2, stuffL_255]
      simp
    · rw [if_neg (by rw [hc]; simpa using h), hacc]
      refine ⟨by omega, ?_⟩
      rw [extract_snoc b _ n c ih.1 hc, joined_ext, ih.2, stuffL_one h]
      simp
theorem replace_stuff (b : Array UInt8) : Bytes.joined #[255, 0] (Bytes.between b 1 (Bytes.occurrences b #[255] 0 b.size)) = (stuffL b.toList).toArray := by
  have h := (between_go b b.size (Nat.le_refl _)).2
  rw [occurrences_one]
  unfold Bytes.between
  rw [show b.toList.take b.size = b.toList from by rw [← Array.length_toList]; exact List.take_length] at h
  rw [← h]
  simp only [Array.toList_push]
theorem none_stuff (b : Array UInt8) (h : (Bytes.occurrences b #[255] 0 b.size).isEmpty = true) : (stuffL b.toList).toArray = b := by
  have h2 := replace_stuff b
  rw [List.isEmpty_iff.mp h] at h2
  rw [← h2]
  unfold Bytes.between Bytes.joined
  simp
theorem occ_le (b : Array UInt8) : (Bytes.occurrences b #[255] 0 b.size).length ≤ b.size := by
  rw [occurrences_one]
  unfold occL
  have := List.length_filter_le (fun i => b[i]? == some (255 : UInt8)) (List.range b.size)
  simpa using this
end Mine

end
section
open PySem PySem.W PyProof.Rows
set_option Elab.async false
set_option maxRecDepth 100000
namespace Mine
open PySem.Sem (wp)

section
variable {M : Model} {A : Around} {E : Value → Shared → Prop} {s : Shared} {env : Env}

theorem G_nil {Q : Flow → Shared → Prop} (h : Q .next s) : wpG M A (execs [] env) Q E s := G_pure h
theorem G_cons {st : Stmt} {rest : List Stmt} {Q : Flow → Shared → Prop}
    (h : wpG M A (exec st env) (fun f s' => match f with | .next => wpG M A (execs rest env) Q E s' | f => Q f s') E s) : wpG M A (execs (st :: rest) env) Q E s := by
  rw [execs_cons]
  refine G_bind (G_mono h (fun f s' h' => ?_) fun _ _ x => x)
  cases f <;> first | exact h' | exact G_pure h'
theorem G_Expr {e : Expr} {pos : Pos} {Q : Flow → Shared → Prop} (h : wpG M A (eval e env) (fun v s' => (∀ a, v ≠ .ref a) ∧ Q .next s') E s)
    (hi : interactive env = false := by rfl) (hs : swapsWith e none pos.line env = pure false := by rfl) : wpG M A (exec (.Expr e pos) env) Q E s := by
  rw [exec_Expr env e pos hi hs]
  refine G_bind (G_standAt (G_bind (G_mono h (fun v s' h' => ?_) fun _ _ x => x)))
  rw [dropValue_plain h'.1]
  exact G_pure h'.2
theorem G_Assign {x : Str} {pos' pos : Pos} {value : Expr} {Q : Flow → Shared → Prop}
    (h : wpG M A (eval value env) (fun v s₁ => wpAny M A (storeName env x v) (fun _ => Q .next) E s₁) E s)
    (hs : swapsWith value (some (.Name x pos')) pos.line env = pure false := by rfl) : wpG M A (exec (.Assign [.Name x pos'] value pos) env) Q E s := by
  rw [exec_Assign_Name env x pos' value pos hs]
  refine G_bind (G_standAt (G_bind (G_mono h (fun v s' h' => ?_) fun _ _ x => x)))
  exact G_bind (G_standAt (G_bind (G_any (wpAny_bindName (wpAny_mono h' (fun _ _ q => G_pure q) fun _ _ x => x)))))
theorem G_Return {e : Expr} {pos : Pos} {Q : Flow → Shared → Prop} (h : wpG M A (eval e env) (fun v => Q (.ret v)) E s) : wpG M A (exec (.Return (some e) pos) env) Q E s := by
  rw [exec_Return_some]
  exact G_bind (G_standAt (G_bind (G_mono h (fun v s' h' => G_pure h') fun _ _ x => x)))
theorem G_If {test : Expr} {body orelse : List Stmt} {pos : Pos} {Q : Flow → Shared → Prop}
    (h : wpG M A (isTrue test env (eval test env)) (fun b s₂ => if b = true then wpG M A (execs body env) Q E s₂ else wpG M A (execs orelse env) Q E s₂) E s) :
    wpG M A (exec (.If test body orelse pos) env) Q E s := by
  rw [exec_If]
  refine G_bind (G_standAt (G_bind (G_mono h (fun b s' h' => ?_) fun _ _ x => x)))
  cases b <;> exact h'
theorem G_isTrue_Compare1 {l r : Expr} {op : CmpOp} {pos : Pos} {whole : Sem Value} {Q : Bool → Shared → Prop}
    (h : wpG M A (eval l env) (fun a s₁ => wpG M A (eval r env) (fun b s₂ => wpAny M A (compareOp op a b) (fun c s₃ => wpAny M A (truthy c) Q E s₃) E s₂) E s₁) E s)
    (hm : behindInMarks op r = false := by with_unfolding_all rfl) : wpG M A (isTrue (.Compare l [op] [r] pos) env whole) Q E s := by
  rw [isTrue_Compare1, markedBehindIn_of_false hm]
  refine G_bind (G_mono h (fun a s₁ h₁ => G_bind (G_holding (G_mono h₁ (fun b s₂ h₂ => ?_) fun _ _ x => x))) fun _ _ x => x)
  exact G_bind (G_standAt (G_bind (G_operate (G_any (wpAny_mono h₂ (fun c s₃ h₃ => G_holding (G_any h₃)) fun _ _ x => x)))))
theorem G_isTrue_plain {e : Expr} {whole : Sem Value} {Q : Bool → Shared → Prop} (h : wpG M A whole (fun v s₁ => wpAny M A (truthy v) Q E s₁) E s)
    (he : isTrue e env whole = (do let v ← whole; standAt e.pos; holding [v] (truthy v)) := by rfl) : wpG M A (isTrue e env whole) Q E s := by
  rw [he]
  exact G_bind (G_mono h (fun v s₁ h₁ => G_bind (G_standAt (G_holding (G_any h₁)))) fun _ _ x => x)
theorem G_isTrue_Not {x : Expr} {pos : Pos} {whole : Sem Value} {Q : Bool → Shared → Prop} (h : wpG M A (isTrue x env (eval x env)) (fun b s₁ => Q (!b) s₁) E s) :
    wpG M A (isTrue (.UnaryOp .Not x pos) env whole) Q E s := by
  rw [arm_isTrue_UnaryOp]
  exact G_bind (G_mono h (fun b s₁ h₁ => G_pure h₁) fun _ _ x => x)
theorem G_isTrue_Or2 {x y : Expr} {pos : Pos} {whole : Sem Value} {Q : Bool → Shared → Prop}
    (h : wpG M A (isTrue x env (eval x env)) (fun c s' => if c = true then Q true s' else wpG M A (isTrue y env (eval y env)) Q E s') E s) :
    wpG M A (isTrue (.BoolOp .Or [x, y] pos) env whole) Q E s := by
  rw [arm_isTrue_BoolOp, arm_allTrue_cons]
  refine G_bind (G_mono h (fun c s' h' => ?_) fun _ _ x => x)
  cases c with
  | true => exact G_pure h'
  | false =>
    simp only [Bool.false_eq_true, if_false] at h'
    show wpG M A (allTrue .Or [y] env) Q E s'
    rw [arm_allTrue_cons]
    refine G_bind (G_mono h' (fun c s' h' => ?_) fun _ _ x => x)
    cases c with
    | true => exact G_pure h'
    | false => exact G_pure h'
theorem G_spliced_nil {Q : List Value → Shared → Prop} (h : Q [] s) : wpG M A (spliced []) Q E s := G_pure h
theorem G_spliced_cons {x : Sem Value} {rest : List (Bool × Sem Value)} {Q : List Value → Shared → Prop}
    (h : wpG M A x (fun v s₁ => wpG M A (spliced rest) (fun vs s₂ => Q (v :: vs) s₂) E s₁) E s) : wpG M A (spliced ((false, x) :: rest)) Q E s := by
  rw [spliced]
  refine G_bind (G_mono h (fun v s₁ h₁ => ?_) fun _ _ x => x)
  simp only [Bool.false_eq_true, if_false]
  exact G_bind (G_pure (G_bind (G_holding (G_mono h₁ (fun vs s₂ h₂ => G_pure h₂) fun _ _ x => x))))
theorem G_evalArgs1 {f : Value} {x : Sem Value} {rest : List (Bool × Sem Value)} {Q : Args → Shared → Prop}
    (h : wpG M A (spliced ((false, x) :: rest)) (fun vs s' => Q ⟨vs, []⟩ s') E s) : wpG M A (evalArgs f true ((false, x) :: rest) []) Q E s := by
  unfold evalArgs
  show wpG M A (spliced ((false, x) :: rest) >>= _) Q E s
  refine G_bind (G_mono h (fun vs s' h' => ?_) fun _ _ x => x)
  refine G_holding ?_
  exact G_bind (G_pure (G_bind (G_pure (G_bind (G_pure (G_pure h'))))))
theorem G_evalArgs0 {f : Value} {Q : Args → Shared → Prop} (h : Q ⟨[], []⟩ s) : wpG M A (evalArgs f true [] []) Q E s := G_any (evalArgs_nil3 h)
/-- a call by places alone, the callee looked at where it is called -/
theorem G_callWith {pos : Pos} {f : Value} {first : List Value} {args : List (Bool × Sem Value)} {Q : Value → Shared → Prop} (hplain : args.any (·.1) = false)
    (h : wpG M A (evalArgs f true args []) (fun a s₁ => (∃ k, (k = Keeper.frame ∨ k = Keeper.machine ∨ k = Keeper.boundFrame) ∧ Looks M s₁.heap (keeperOf f) k) ∧ wpG M A (call f (first ++ a.pos) a.kw) Q E s₁) E s) :
    wpG M A (callWith pos f first args []) Q E s := by
  unfold callWith
  refine G_bind (G_holding (G_mono h (fun a s₁ h₁ => G_bind (G_standAt ?_)) fun _ _ x => x))
  obtain ⟨⟨k, hk, L⟩, hc⟩ := h₁
  simp only [hplain, List.any_nil, Bool.or_false]
  refine G_bind (G_any (L.here ?_))
  have tail : ∀ {t : Sem Value}, wpG M A t Q E s₁ → wpG M A (t >>= fun r => holding [r] point >>= fun _ => pure r) Q E s₁ :=
    fun ht => G_bind (G_mono ht (fun r s₂ hr => G_bind (G_holding (G_point (G_pure hr)))) fun _ _ x => x)
  have marked (mk : Value) : wpG M A (callMarked mk f (first ++ a.pos) a.kw) Q E s₁ := by unfold callMarked; exact G_keep hc
  rcases hk with rfl | rfl | rfl <;> dsimp only <;> first | exact tail hc | (split <;> first | exact tail hc | exact tail (marked _))
/-- a method called: the object, the method, the call -/
theorem G_MethodCall {o : Expr} {name : Str} {apos pos : Pos} {args : List Expr} {pl : Sem Bool} {Q : Value → Shared → Prop}
    (h : wpAny M A (eval o env) (fun ov s₁ => wpAny M A (getMethod ov name pl) (fun fx s₂ => wpG M A (callWith pos fx.1 fx.2 (backTo pos (starEach args env)) []) Q E s₂) E s₁) E s)
    (he : eval (.Call (.Attribute o name apos) args [] pos) env = (do
      let ov ← eval o env
      standAt apos.atName
      let (f, first) ← holding [ov] (getMethod ov name pl)
      callWith pos f first (backTo pos (starEach args env)) []) := by rfl) :
    wpG M A (eval (.Call (.Attribute o name apos) args [] pos) env) Q E s := by
  rw [he]
  refine G_bind (G_any (wpAny_mono h (fun ov s₁ h₁ => G_bind (G_standAt (G_bind (G_holding (G_any (wpAny_mono h₁ (fun fx s₂ h₂ => ?_) fun _ _ x => x)))))) fun _ _ x => x))
  exact h₂
/-- a name called -/
theorem G_NameCall {x : Str} {np pos : Pos} {args : List Expr} {Q : Value → Shared → Prop}
    (h : wpAny M A (eval (.Name x np) env) (fun f s₁ => wpG M A (callWith pos f [] (backTo pos (starEach args env)) []) Q E s₁) E s)
    (he : eval (.Call (.Name x np) args [] pos) env = (do
      let f ← eval (.Name x np) env
      callWith pos f [] (backTo pos (starEach args env)) []) := by rfl) :
    wpG M A (eval (.Call (.Name x np) args [] pos) env) Q E s := by
  rw [he]
  exact G_bind (G_any (wpAny_mono h (fun f s₁ h₁ => h₁) fun _ _ x => x))
theorem G_runOwn {c : Code} {h : Option Value} {Q : Flow → Shared → Prop}
    (hc : codeG M (A.mark h) c (fun r s' => match r with | .ok f => Q f s' | .error e => cameBackBy M A env E e s') s) (hnb : h ≠ some byPass := by intro x; cases x) :
    wpG M A (runOwn c env h) Q E s := by
  unfold runOwn
  exact G_onRaise (G_run hc hnb)
theorem G_noted {α : Type} {m : Sem α} {Q : α → Shared → Prop} (h : wpG M A m Q (notedBy M A env E) s) : wpG M A (m.onRaise fun x => do noteFrame x env; theTreesLotGoes x) Q E s :=
  G_onRaise (G_mono h (fun _ _ q => q) fun _ _ hx => wpAny_bind (wpAny_mono hx (fun _ _ e => wpAny_theTreesLotGoes e) fun _ _ e => e))
end

section
variable {prog : Program} {w : World} {A : Around} {E : Value → Shared → Prop} {s : Shared} {env : Env} {Q : Flow → Shared → Prop}
theorem A_mark_none (A : Around) : A.mark none = A := by cases A; rfl
theorem G_While {test : Expr} {body : List Stmt} {pos : Pos} (hE : PassesOwn (model prog w) A env E) (I : Nat → Shared → Prop)
    (turn : ∀ n s, I n s → wpG (model prog w) A (isTrue test env (eval test env)) (fun b s₂ =>
        if b = true then wpG (model prog w) A (execs body env) (fun f s₃ => match f with
            | .next | .cont => ∃ m, m < n ∧ I m s₃
            | .brk => Q .next s₃
            | .ret v => Q (.ret v) s₃) E s₂
        else Q .next s₂) E s) (n : Nat) (h : I n s) : wpG (model prog w) A (exec (.While test body [] pos) env) Q E s := by
  rw [exec_While]
  refine G_bind (G_standAt (G_runOwn ?_))
  rw [A_mark_none]
  refine codeG_loop rfl rfl I (fun n s hI => ?_) n h
  show wpG _ A ((whileTurn test body [] env).onRaise (fun x => do noteFrame x env; theTreesLotGoes x)) _ _ s
  refine G_noted (G_mono ?_ (fun _ _ x => x) fun e s' he => hE e s' he)
  simp only [whileTurn]
  refine G_bind (G_mono (turn n s hI) (fun b s₂ h₂ => ?_) fun _ _ h' => h')
  cases b with
  | false =>
    simp only [Bool.false_eq_true, if_false] at h₂ ⊢
    exact G_bind (G_nil (G_pure h₂))
  | true =>
    simp only [if_true] at h₂ ⊢
    refine G_bind (G_mono h₂ (fun f s₃ h₃ => ?_) fun _ _ h' => h')
    cases f with
    | next => exact G_pure (.inl ⟨rfl, h₃⟩)
    | cont => exact G_pure (.inl ⟨rfl, h₃⟩)
    | brk => exact G_pure h₃
    | ret v => exact G_pure h₃
theorem G_forLoop {R : Result → Shared → Prop} {x : Str} {px : Pos} {it : Value} {body : List Stmt} (I : Nat → Shared → Prop)
    (turn : ∀ n s, I n s → wpAny (model prog w) A (pyNext it) (fun r s₁ => match r with
      | none => R (.ok .next) s₁
      | some v => wpAny (model prog w) A (storeName env x v) (fun _ s₂ => wpG (model prog w) A (execs body env) (fun f s₃ => match f with
          | .next | .cont => ∃ m, m < n ∧ I m s₃
          | .brk => R (.ok .next) s₃
          | .ret v => R (.ok (.ret v)) s₃) (notedBy (model prog w) A env fun e s' => R (.error e) s') s₂) (notedBy (model prog w) A env fun e s' => R (.error e) s') s₁) (notedBy (model prog w) A env fun e s' => R (.error e) s') s)
    (n : Nat) (h : I n s) : codeG (model prog w) A (.forLoop (.Name x px) it body [] env) R s := by
  refine codeG_loop rfl rfl I (fun n s hI => ?_) n h
  show wpG _ _ ((forTurn (.Name x px) it body [] env).onRaise (fun x => do noteFrame x env; theTreesLotGoes x)) _ _ s
  refine G_noted ?_
  simp only [forTurn]
  refine G_bind (G_standAt (G_bind (G_any (wpAny_onRaise (wpAny_mono (turn n s hI) (fun r s₁ h₁ => ?_) fun _ _ h' => wpAny_standAt h')))))
  cases r with
  | none => exact G_pure (.inr ⟨rfl, G_code (codeAny_block (wpAny_execs_nil h₁))⟩)
  | some v =>
    refine G_bind (G_eq (rfl : _ = pure ()) (G_pure ?_))
    refine G_bind (G_any (wpAny_assign_Name (wpAny_mono h₁ (fun _ s₂ h₂ => G_bind (G_mono h₂ (fun f s₃ h₃ => ?_) fun _ _ h' => h')) fun _ _ h' => h')))
    cases f with
    | next => exact G_pure (.inl ⟨rfl, h₃⟩)
    | cont => exact G_pure (.inl ⟨rfl, h₃⟩)
    | brk => exact G_pure h₃
    | ret v => exact G_pure h₃
theorem G_For {x : Str} {px pos : Pos} {iter : Expr} {body : List Stmt}
    (h : wpAny (model prog w) A (eval iter env) (fun xv s₁ => wpAny (model prog w) A (pyIter xv) (fun it s₂ =>
      codeG (model prog w) A (.forLoop (.Name x px) it body [] env) (fun r s' => match r with | .ok f => Q f s' | .error e => cameBackBy (model prog w) A env E e s') s₂) E s₁) E s)
    (hs : ∀ v, foldedSetIterable iter env v = pure v := by intro _; rfl) :
    wpG (model prog w) A (exec (.For (.Name x px) iter body [] pos) env) Q E s := by
  rw [exec_For]
  refine G_bind (G_standAt (G_bind (G_any (wpAny_mono h (fun v s₁ h₁ => ?_) fun _ _ h' => h'))))
  refine G_bind (G_eq (hs v) (G_pure (G_bind (G_standAt (G_bind (G_holding (G_any (wpAny_mono h₁ (fun it s₂ h₂ => ?_) fun _ _ h' => h'))))))))
  exact G_runOwn (by rw [A_mark_none]; exact h₂)
/-- a try whose suite is walked with the restriction, its clauses without -/
theorem G_Try {body : List Stmt} {h₀ : ExceptHandler} {hs : List ExceptHandler} {pos : Pos}
    (h : wpG (model prog w) A (execs body env) (fun f s₁ => match f with | .next => Q .next s₁ | f => Q f s₁)
      (fun e s₁ => wpAny (model prog w) A (noteFrame e env) (fun _ s₂ => wpAny (model prog w) A (setFlight e none) (fun _ s₃ => wpAny (model prog w) A (handleBy e env (h₀ :: hs)) Q E s₃) E s₂) E s₁) s) :
    wpG (model prog w) A (exec (.Try body (h₀ :: hs) [] [] pos) env) Q E s := by
  rw [arm_exec_Try]
  refine G_bind (G_standAt ?_)
  unfold tryStmt
  simp only [List.isEmpty_nil, if_true, List.isEmpty_cons, Bool.false_and, Bool.false_eq_true, if_false]
  refine G_bind (G_attempt (G_mono h (fun f s₁ h₁ => ?_) fun e s₁ h₁ => ?_))
  · cases f <;> first | exact G_pure h₁ | exact G_nil h₁
  · exact G_bind (G_any (wpAny_mono h₁ (fun _ _ h₂ => G_bind (G_any (wpAny_mono h₂ (fun _ _ h₃ => G_any h₃) fun _ _ x => x))) fun _ _ x => x))
end

section
variable {prog : Program} {w : World} {A : Around} {E : Value → Shared → Prop} {R : Result → Shared → Prop} {s : Shared} {env : Env}
theorem codeG_func {body : List Stmt}
    (h : wpG (model prog w) (A.deeper env) (execs body env) (fun f s' => R (.ok (.ret (match f with | .ret v => v | _ => .none))) s')
      (fun e s' => wpAny (model prog w) (A.deeper env) (leaving env e) (fun _ s'' => R (.error e) s'') (fun e' s'' => R (.error e') s'') s') s) :
    codeG (model prog w) A (.func body env) R s := by
  refine codeG_tree rfl ?_
  show wpG _ (A.deeper env) (do point; match ← (execs body env).onRaise (leaving env) with | .ret v => ret v | _ => ret .none) _ _ s
  refine G_bind (G_point (G_bind (G_onRaise (G_mono h (fun f s' h' => ?_) fun _ _ h' => h'))))
  cases f <;> exact G_pure h'
theorem codeG_builtin_at {id : String} {args : Args} {b : Builtin} (hn : noHold (.builtin id args) = true) (hb : entryFor table id = some b)
    (h : wpG (model prog w) (A.under (.builtin id args)) (b args)
      (fun fin s' => match fin with | .done f => R (.ok f) s' | .again c' => c'.quiet = true ∧ codeG (model prog w) A c' R s') (fun e s' => R (.error e) s') s) :
    codeG (model prog w) A (.builtin id args) R s := by
  refine codeG_tree hn ?_
  show wpG _ _ (match entryFor table id with | some b => b args | none => unsupported ((withoutEnding? id "#data").getD id)) _ _ s
  rw [hb]; exact h
theorem codeG_call_builtin {id : String} {args : Args} {b : Builtin} (hn : heldIds.contains id = false) (hq : plainId id = true) (hb : entryFor table id = some b)
    (h : wpAny (model prog w) A.in1 (checkBuiltinCall id args) (fun _ s₁ => wpG (model prog w) A.in1 (b args)
      (fun fin s' => match fin with | .done f => R (.ok f) s' | .again c' => c'.quiet = true ∧ codeG (model prog w) A c' R s') (fun e s' => R (.error e) s') s₁)
      (fun e s' => R (.error e) s') s) : codeG (model prog w) A (.call (.builtin id) args) R s := by
  refine codeG_tree rfl ?_
  show wpG _ A.in1 (do checkBuiltinCall id args; again (.builtin id args)) _ _ s
  refine G_bind (G_any (wpAny_mono h (fun _ s₁ h₁ => G_pure (And.intro (plainId_quiet hq args) (codeG_builtin_at (by show (!heldIds.contains id) = true; rw [hn]; rfl) hb ?_))) fun _ _ h' => h'))
  rw [Around.under_plainId hq args]; exact h₁
theorem codeG_call_function {a : Addr} {args : Args} {o : Obj} {fd : FuncData} {body : List Stmt} (hroom : A.depth < recursionLimit)
    (ho : s.heap.get? a = some o) (hd' : o.data = .func fd) (hco : fd.scope.isCoroutine = false) (hgen : fd.scope.isGenerator = false) (hbody : fd.body = .stmts body) (hcd : s.heap.CodeRec fd.code fd.qualname)
    (h : wpAny (model prog w) A.in1 (bindArgs fd args) (fun binds s₁ =>
      wpAny (model prog w) A.in1 (newFunctionEnv fd.scope fd.globals fd.closure binds (fd.qualname ++ ".<locals>.") (some a) fd.code none fd.builtins)
        (fun env s₂ => s₂.heap.NoLimit ∧ codeG (model prog w) A (.func body env) R s₂) (fun e s' => R (.error e) s') s₁) (fun e s' => R (.error e) s') s) :
    codeG (model prog w) A (.call (.ref a) args) R s := by
  refine codeG_tree rfl ?_
  show wpG _ A.in1 (callAny (.ref a) args) _ _ s
  simp only [callAny]
  refine G_bindA (wpAny_load ho ?_)
  obtain ⟨c, oc, vs, tq, hc, hoc, hdc, hq⟩ := hcd
  simp only [hd', callFunction, hco, hgen, hbody, hc]
  rw [hc] at h
  refine G_bindA (m := field (.ref c) 1) (wpAny_field hoc hdc hq (G_bindA (wpAny_pure ?_)))
  refine G_bindA (wpAny_mono h (fun binds s₁ h₁ => G_bindA (wpAny_mono h₁ (fun env s₂ h₂ => G_bindA (wpAny_enterFrame h₂.1 hroom
    (G_pure (And.intro rfl h₂.2)))) fun _ _ h' => h')) fun _ _ h' => h')
end
end Mine

end
section
open PySem PySem.W PyProof.Rows
set_option Elab.async false
set_option maxRecDepth 100000
namespace Mine
open PySem.Sem (wp)

theorem ba_mro : mroOf (.type "bytearray") = pure [.type "bytearray", .type "object"] := by rw [mroOf_type]; kernel_rfl
theorem ba_lookup_new : typeLookup (.type "bytearray") "__new__" = pure (some (.builtin "bytearray.__new__")) := by rw [typeLookup_type, builtinLookup_eq_fast]; kernel_rfl
theorem ba_slot_init : Slot "bytearray" "__init__" "bytearray.__init__" :=
  .of (owner := "bytearray") (n := "__init__") (by rw [typeLookup_type, builtinLookup_eq_fast]; kernel_rfl) (by decide +kernel) (by decide +kernel) (by decide +kernel)
    (by first | exact .inl (by decide +kernel) | exact .inr (by decide +kernel)) (by rw [isSubtype_type]; kernel_rfl)
theorem ba_called : TypeCalled "bytearray" "bytearray.__new__" "bytearray.__init__" :=
  ⟨by decide +kernel, by decide +kernel, ⟨_, _, ba_mro⟩, madeBy_type ba_mro ba_lookup_new (by decide +kernel), by decide +kernel, by rw [isSubtype_type]; kernel_rfl, ba_slot_init⟩
theorem ba_typeCall : checkTypeCall "bytearray" ⟨[], []⟩ = pure () := by kernel_rfl
theorem ba_newCall : checkBuiltinCall "bytearray.__new__" ⟨[.type "bytearray"], []⟩ = pure () := by kernel_rfl
theorem ba_entry_new : entryFor table "bytearray.__new__" = some Builtin.«list.__new__» := entryFor_alias (id' := "list.__new__") (by kernel_rfl) rfl (by decide +kernel) (by kernel_rfl)
theorem ba_plain_new : plainId "bytearray.__new__" = true := by decide +kernel
set_option maxRecDepth 1000000 in
set_option maxHeartbeats 4000000 in
theorem ba_owner : ("bytearray.__new__".splitOn ".__new__").headD "" = "bytearray" := by simp +decide [String.splitOn, String.splitOnAux]
theorem ba_entry_init : entryFor table "bytearray.__init__" = some Builtin.«bytearray.__init__» := entryFor_of_tree (by kernel_rfl)
theorem ba_args_init (a : Value) : argsOk "bytearray.__init__" ⟨[a], []⟩ := by unfold argsOk; kernel_rfl
theorem ba_slot_append : Slot "bytearray" "append" "bytearray.append" :=
  .of (owner := "bytearray") (n := "append") (by rw [typeLookup_type, builtinLookup_eq_fast]; kernel_rfl) (by decide +kernel) (by decide +kernel) (by decide +kernel)
    (by first | exact .inl (by decide +kernel) | exact .inr (by decide +kernel)) (by rw [isSubtype_type]; kernel_rfl)
theorem ba_entry_append : entryFor table "bytearray.append" = some Builtin.«bytearray.append» := entryFor_of_tree (by kernel_rfl)
theorem ba_args_append (a b : Value) : argsOk "bytearray.append" ⟨[a, b], []⟩ := by unfold argsOk; kernel_rfl
theorem ba_type_append : typeOf (.builtin "bytearray.append") = pure (.type "method_descriptor") := by show builtinType _ = _; rw [builtinType_eq_fast]; kernel_rfl
theorem ba_slot_extend : Slot "bytearray" "extend" "bytearray.extend" :=
  .of (owner := "bytearray") (n := "extend") (by rw [typeLookup_type, builtinLookup_eq_fast]; kernel_rfl) (by decide +kernel) (by decide +kernel) (by decide +kernel)
    (by first | exact .inl (by decide +kernel) | exact .inr (by decide +kernel)) (by rw [isSubtype_type]; kernel_rfl)
theorem ba_entry_extend : entryFor table "bytearray.extend" = some Builtin.«bytearray.extend» := entryFor_of_tree (by kernel_rfl)
theorem ba_args_extend (a b : Value) : argsOk "bytearray.extend" ⟨[a, b], []⟩ := by unfold argsOk; kernel_rfl
theorem ba_type_extend : typeOf (.builtin "bytearray.extend") = pure (.type "method_descriptor") := by show builtinType _ = _; rw [builtinType_eq_fast]; kernel_rfl
theorem ba_no_bytes : typeLookup (.type "bytearray") "__bytes__" = pure none := by rw [typeLookup_type, builtinLookup_eq_fast]; kernel_rfl
theorem ba_no_index : typeLookup (.type "bytearray") "__index__" = pure none := by rw [typeLookup_type, builtinLookup_eq_fast]; kernel_rfl
theorem ba_buffer : typeLookup (.type "bytearray") "__buffer__" = pure (some (.builtin "bytearray.__buffer__")) := by rw [typeLookup_type, builtinLookup_eq_fast]; kernel_rfl
theorem ba_release : typeLookup (.type "bytearray") "__release_buffer__" = pure (some (.builtin "bytearray.__release_buffer__")) := by rw [typeLookup_type, builtinLookup_eq_fast]; kernel_rfl
theorem ba_getattribute : typeLookup (.type "bytearray") "__getattribute__" = pure (some (.builtin "bytearray.__getattribute__")) := by rw [typeLookup_type, builtinLookup_eq_fast]; kernel_rfl
theorem ba_no_getattr : typeLookup (.type "bytearray") "__getattr__" = pure none := by rw [typeLookup_type, builtinLookup_eq_fast]; kernel_rfl
theorem ba_bind_init : Builtin.Bytes.bindOptional "bytearray.__init__" "bytearray" ["source", "encoding", "errors"] [] [] = pure [none, none, none] := by kernel_rfl

abbrev baObj (b : Array UInt8) : Obj := { cls := .type "bytearray", data := .bytearray b }

section
variable {M : Model} {A : Around} {E : Value → Shared → Prop} {s : Shared} {D : Addr} {b : Array UInt8}
theorem ba_write {f : Array UInt8 → Array UInt8} {c : Array UInt8} {Q : Unit → Shared → Prop} (ho : s.heap.get? D = some (baObj b)) (e : f b = c) (hz : c.size ≤ sizeLine)
    (h : ∀ h', Heap.SameBut D s.heap h' → h'.get? D = some (baObj c) → Q () { s with heap := h' }) : wpAny M A (Builtin.Bytes.write (.ref D) f) Q E s := by
  subst e
  show wpAny M A (updateBytearray D f) Q E s
  unfold updateBytearray
  refine wpAny_bind (wpAny_load ho ?_)
  show wpAny _ _ (update D (Obj.mapBytearray f) >>= fun _ => lookBehind D) _ _ _
  refine wpAny_bind (wpAny_update ho ?_)
  have h₂ : (s.heap.update D (Obj.mapBytearray f)).get? D = some (baObj (f b)) := Heap.get?_update_self (Obj.mapBytearray f) ho rfl
  refine wpAny_lookBehind h₂ ?_ (h _ (Heap.SameBut.update ..) h₂)
  show (if (f b).size > sizeLine then some "bytearray:memory" else none) = none
  rw [if_neg (Nat.not_lt.mpr hz)]
theorem ba_checkResize {Q : Unit → Shared → Prop} (ho : s.heap.get? D = some (baObj b)) (h : Q () s) : wpG M A (Builtin.Bytes.checkResize (.ref D)) Q E s := by
  unfold Builtin.Bytes.checkResize
  have inner : wpG M A (Builtin.Bytes.exported (.ref D) <||> (do return (← Builtin.Bytes.exportsOf (.ref D)) > 0)) (fun r s' => r = false ∧ s' = s) E s := by
    unfold orM
    refine G_bind (G_exported ?_)
    show wpG M A (Builtin.Bytes.exportsOf (.ref D) >>= fun n => pure (decide (n > 0))) _ _ s
    unfold Builtin.Bytes.exportsOf
    refine G_bind (G_any (wpAny_bind (wpAny_load ho ?_)))
    exact wpAny_pure (G_pure ⟨rfl, rfl⟩)
  refine G_bind (G_mono inner (fun r s' hr => ?_) fun _ _ x => x)
  obtain ⟨rfl, rfl⟩ := hr
  simp only [Bool.false_eq_true, if_false]
  exact G_pure h
end
section
variable {prog : Program} {w : World} {A : Around} {E : Value → Shared → Prop} {s : Shared} {D : Addr} {b : Array UInt8}
theorem G_call_entry {T : String} {name : Str} {id : String} {bi : Builtin} {self : Value} {rest : List Value} {Q : Value → Shared → Prop} (hn : heldIds.contains id = false) (h : Slot T name id) (hT : s.TypeIs self T)
    (hb : entryFor table id = some bi) (hc : wpG (model prog w) A.in1 (bi ⟨self :: rest, []⟩) (fun fin s' => ∃ v, fin = .done (.ret v) ∧ Q v s') E s)
    (ha : argsOk id ⟨self :: rest, []⟩) : wpG (model prog w) A (call (.builtin id) (self :: rest)) Q E s := by
  refine G_call (codeG_call_builtin hn h.plain hb (h.check _ _ _ _ _ _ _ _ hT ha (G_mono hc (fun fin s' h' => ?_) fun _ _ h' => h')))
  obtain ⟨v, rfl, hv⟩ := h'; exact hv
theorem ba_append {c : Int} {u : Tok} {Q : Value → Shared → Prop} (ho : s.heap.get? D = some (baObj b)) (h0 : 0 ≤ c) (h1 : c < 256) (hz : b.size < sizeLine)
    (h : ∀ h', Heap.SameBut D s.heap h' → h'.get? D = some (baObj (b.push c.toNat.toUInt8)) → Q .none { s with heap := h' }) :
    wpG (model prog w) A (call (.builtin "bytearray.append") [.ref D, .int c u]) Q E s := by
  refine G_call_entry (by decide +kernel) ba_slot_append ⟨_, ho, rfl⟩ ba_entry_append ?_ (ba_args_append _ _)
  unfold Builtin.«bytearray.append»
  refine G_bindA (wpAny_of_eq (a := (Value.ref D, Value.int c u)) rfl ?_)
  refine G_bindA ?_
  · unfold Builtin.Bytes.byteValue
    refine wpAny_bind (wpAny_of_eq (rfl : asIndex (.int c u) = pure c) ?_)
    have hb : (decide (c < 0) || decide (c ≥ 256)) = false := by simp only [Bool.or_eq_false_iff, decide_eq_false_iff_not]; omega
    simp only [hb, Bool.false_eq_true, if_false]
    refine wpAny_pure ?_
    refine G_bind (ba_checkResize ho ?_)
    refine G_bindA (ba_write ho rfl (by rw [Array.size_push]; omega) fun h' hs hD => ?_)
    exact G_pure ⟨_, rfl, h h' hs hD⟩
end
end Mine

end
section
open PySem PySem.W PyProof.Rows
set_option Elab.async false
set_option maxRecDepth 100000
namespace Mine
open PySem.Sem (wp)
open PySem.Calls
set_option linter.deprecated false

theorem ba_plainAttrs : PlainAttrs "bytearray" :=
  ⟨⟨"bytearray.__getattribute__", ba_getattribute, by decide +kernel⟩, ba_no_getattr⟩

section
variable {M : Model} {A : Around} {E : Value → Shared → Prop} {s : Shared} {D : Addr} {b : Array UInt8}
theorem ba_typeIs (ho : s.heap.get? D = some (baObj b)) : s.TypeIs (.ref D) "bytearray" := ⟨_, ho, rfl⟩
theorem ba_ownRelease {Q : Bool → Shared → Prop} (ho : s.heap.get? D = some (baObj b)) (h : Q false s) : wpAny M A (Builtin.Bytes.ownRelease (.ref D)) Q E s := by
  have hT := ba_typeIs ho
  unfold Builtin.Bytes.ownRelease Builtin.Bytes.slotIsOwn
  refine wpAny_bind (wpAny_bind (wpAny_specialOf hT ba_release ?_))
  show wpAny M A (if (!"bytearray.__release_buffer__".endsWith ("." ++ "__release_buffer__")) = true then _ else _) _ _ _
  have e1 : (!"bytearray.__release_buffer__".endsWith ("." ++ "__release_buffer__")) = false := by decide +kernel
  rw [e1, if_neg Bool.false_ne_true]
  have e2 : ("bytearray.__release_buffer__".dropRight ("__release_buffer__".length + 1)) = "bytearray" := by decide +kernel
  show wpAny M A (isInstance (.ref D) (.type ("bytearray.__release_buffer__".dropRight ("__release_buffer__".length + 1)))) _ _ _
  rw [e2]
  exact wpAny_isInstance hT PySem.F.isi_self_bytearray (wpAny_pure h)
theorem ba_ownBuffer {Q : Bool → Shared → Prop} (ho : s.heap.get? D = some (baObj b)) (h : Q true s) : wpAny M A (Builtin.Bytes.slotIsOwn (.ref D) "__buffer__") Q E s := by
  have hT := ba_typeIs ho
  unfold Builtin.Bytes.slotIsOwn
  refine wpAny_bind (wpAny_specialOf hT ba_buffer ?_)
  show wpAny M A (if (!"bytearray.__buffer__".endsWith ("." ++ "__buffer__")) = true then _ else _) _ _ _
  have e1 : (!"bytearray.__buffer__".endsWith ("." ++ "__buffer__")) = false := by decide +kernel
  rw [e1, if_neg Bool.false_ne_true]
  have e2 : ("bytearray.__buffer__".dropRight ("__buffer__".length + 1)) = "bytearray" := by decide +kernel
  show wpAny M A (isInstance (.ref D) (.type ("bytearray.__buffer__".dropRight ("__buffer__".length + 1)))) _ _ _
  rw [e2]
  exact wpAny_isInstance hT PySem.F.isi_self_bytearray h
theorem ba_payload {Q : Array UInt8 → Shared → Prop} (ho : s.heap.get? D = some (baObj b)) (h : Q b s) : wpAny M A (Builtin.Bytes.payload (.ref D)) Q E s := by
  unfold Builtin.Bytes.payload Builtin.Bytes.payload?
  exact wpAny_bind (wpAny_bind (wpAny_load ho (wpAny_pure (wpAny_pure h))))
theorem ba_buffer? {id : String} {full : Bool} {Q : Option (Array UInt8) → Shared → Prop} (ho : s.heap.get? D = some (baObj b)) (h : Q (some b) s) : wpAny M A (Builtin.Bytes.buffer? id (.ref D) full) Q E s := by
  have hT := ba_typeIs ho
  unfold Builtin.Bytes.buffer?
  refine wpAny_bind (wpAny_specialOf hT ba_buffer ?_)
  refine wpAny_bind (ba_ownBuffer ho ?_)
  simp only [Bool.not_true, Bool.false_eq_true, if_false]
  refine wpAny_bind (wpAny_specialOf hT ba_buffer ?_)
  refine wpAny_bind (ba_ownRelease ho ?_)
  simp only [Bool.false_eq_true, if_false]
  exact wpAny_bind (ba_payload ho (wpAny_pure h))
theorem ba_method {name : Str} {id : String} {pl : Sem Bool} {Q : Value × List Value → Shared → Prop} (ho : s.heap.get? D = some (baObj b)) (slot : Slot "bytearray" name id) (hty : typeOf (.builtin id) = pure (.type "method_descriptor"))
    (h : Q (.builtin id, [.ref D]) s) : wpAny M A (getMethod (.ref D) name pl) Q E s :=
  getMethod_builtin (ba_typeIs ho) ba_plainAttrs slot hty (fun a e => by cases e; exact ⟨_, ho, rfl⟩) h
end

section
variable {prog : Program} {w : World} {A : Around} {E : Value → Shared → Prop} {s : Shared} {D : Addr} {b : Array UInt8}
theorem ba_init {Q : Value → Shared → Prop} (ho : s.heap.get? D = some (baObj b))
    (h : ∀ h', Heap.SameBut D s.heap h' → h'.get? D = some (baObj #[]) → Q .none { s with heap := h' }) :
    wpG (model prog w) A (call (.builtin "bytearray.__init__") [.ref D]) Q E s := by
  refine G_call_entry (by decide +kernel) ba_slot_init ⟨_, ho, rfl⟩ ba_entry_init ?_ (ba_args_init _)
  unfold Builtin.«bytearray.__init__»
  refine G_bindA (ba_ownRelease ho ?_)
  simp only [Bool.false_eq_true, if_false]
  refine G_bindA (wpAny_of_eq ba_bind_init ?_)
  dsimp only
  refine G_bindA (wpAny_of_eq (a := ()) rfl ?_)
  refine G_bindA (wpAny_of_eq (a := ()) rfl ?_)
  have inner : wpG (model prog w) A.in1 (Builtin.Bytes.exported (.ref D) <||> (do return (← Builtin.Bytes.exportsOf (.ref D)) > 0)) (fun r s' => r = false ∧ s' = s) E s := by
    unfold orM
    refine G_bind (G_exported ?_)
    show wpG _ _ (Builtin.Bytes.exportsOf (.ref D) >>= fun n => pure (decide (n > 0))) _ _ s
    unfold Builtin.Bytes.exportsOf
    refine G_bind (G_any (wpAny_bind (wpAny_load ho ?_)))
    exact wpAny_pure (G_pure ⟨rfl, rfl⟩)
  refine G_bind (G_mono inner (fun r s' hr => ?_) fun _ _ x => x)
  obtain ⟨rfl, rfl⟩ := hr
  simp only [Bool.false_eq_true, if_false]
  refine G_bindA (ba_write ho rfl (Nat.zero_le _) fun h' hs hD => ?_)
  exact G_any (wpAny_bind (wpAny_pure (wpAny_pure ⟨_, rfl, h h' hs hD⟩)))
end
end Mine

end
section
open PySem PySem.W PyProof.Rows
set_option Elab.async false
set_option maxRecDepth 100000
namespace Mine
open PySem.Sem (wp)
open PySem.Calls

section
variable {prog : Program} {w : World} {A : Around} {E : Value → Shared → Prop} {s : Shared} {D : Addr} {b : Array UInt8}
theorem ba_code_new {Q₁ : Value → Shared → Prop}
    (h : Q₁ (.ref s.heap.objs.size) { s with heap := s.heap.push (baObj #[]) }) :
    codeAny (model prog w) A (.call (.builtin "bytearray.__new__") ⟨[.type "bytearray"], []⟩) (wants Q₁ E) s := by
  refine codeAny_of_tree ?_
  show wpAny _ A.in1 (do checkBuiltinCall "bytearray.__new__" ⟨[.type "bytearray"], []⟩; again (.builtin "bytearray.__new__" ⟨[.type "bytearray"], []⟩)) _ _ s
  refine wpAny_bind (wpAny_of_eq ba_newCall (wpAny_pure ⟨plainId_quiet ba_plain_new _, codeAny_builtin_stack ba_entry_new rfl fun p st => ?_⟩))
  rw [Around.under_plainId ba_plain_new _]
  have hsub := PySem.F.isi_self_bytearray
  have hown := ba_owner
  obtain ⟨hp, g, d, tk, os⟩ := s
  simp only [hown]
  wp_walk
  exact h
theorem ba_new {Q : Value → Shared → Prop}
    (h : ∀ h', (∀ o b, s.heap.get? b = some o → h'.get? b = some o) → h'.get? s.heap.objs.size = some (baObj #[]) → Q (.ref s.heap.objs.size) { s with heap := h' }) :
    wpG (model prog w) A (call (.type "bytearray") []) Q E s := by
  obtain ⟨c, tl, hmro⟩ := ba_called.mro
  have hmade := ba_called.made
  have hsub := ba_called.sub
  refine G_call (codeG_tree rfl ?_)
  show wpG _ _ (callAny (.type "bytearray") _) _ _ _
  refine G_pure ⟨Code.quiet_builtin _ (by decide +kernel), codeG_builtin_at (by decide +kernel) F.entry_type_call ?_⟩
  rw [Around.under_plain (weight_type_call_type "bytearray" [] []) rfl]
  have h1 := ba_called.notType
  have h2 := ba_called.canCreate
  unfold Builtin.«type.__call__»
  dsimp only
  rw [if_neg (by rw [h1]; exact Bool.false_ne_true), if_neg (by rw [h2]; exact Bool.false_ne_true)]
  refine G_bindA (wpAny_of_eq ba_typeCall ?_)
  refine G_bindA (wpAny_of_eq hmro ?_)
  rw [if_neg (by exact Bool.false_ne_true)]
  refine G_bindA (wpAny_of_eq hmade ?_)
  refine G_bindA (wpAny_pure ?_)
  refine G_bindA (wpAny_holding (wpAny_call (codeAny_mono (ba_code_new (E := E) (Q₁ := fun v s' => v = .ref s.heap.objs.size ∧ s' = { s with heap := s.heap.push (baObj #[]) }) ⟨rfl, rfl⟩) fun r s' hr => ?_)))
  cases r with
  | error e => exact hr
  | ok fl =>
    cases fl with
    | ret obj =>
      obtain ⟨rfl, rfl⟩ := hr
      have ho : (s.heap.push (baObj #[])).get? s.heap.objs.size = some (baObj #[]) := Heap.get?_push_size _ rfl
      refine G_bindA (wpAny_isInstance (s := { s with heap := s.heap.push (baObj #[]) }) (ba_typeIs ho) PySem.F.isi_self_bytearray ?_)
      rw [if_neg (by exact Bool.false_ne_true)]
      refine G_bind (G_holding ?_)
      unfold callSpecial?
      refine G_bindA (wpAny_specialOf (s := { s with heap := s.heap.push (baObj #[]) }) (ba_typeIs ho) ba_slot_init.lookup ?_)
      simp only [ba_slot_init.bind]
      refine G_holding (G_bind (G_pure (G_bind ?_)))
      refine ba_init (s := { s with heap := s.heap.push (baObj #[]) }) ho fun h' hs hD => ?_
      refine G_pure ?_
      dsimp only
      rw [if_neg (by exact Bool.false_ne_true)]
      exact G_pure (h h' (fun o b e => (hs.2 b (Nat.ne_of_lt (Heap.lt_size e))).trans (Heap.get?_push_of_some _ e)) hD)
    | _ => exact hr.elim

theorem kx_specialBytes {b : Array UInt8} {t : Tok} {name : Str} {r : Option Value} {Q : Option Value → Shared → Prop} (h : typeLookup (.type "bytes") name = pure r) (hq : Q r s) : wpAny (model prog w) A (specialOf (.bytes b t) name) Q E s :=
  wpAny_of_eq (KBy.special_eq h) hq
theorem ba_extend {c : Array UInt8} {u : Tok} {Q : Value → Shared → Prop} (ho : s.heap.get? D = some (baObj b)) (hz : b.size + c.size ≤ sizeLine)
    (h : ∀ h', Heap.SameBut D s.heap h' → h'.get? D = some (baObj (b ++ c)) → Q .none { s with heap := h' }) :
    wpG (model prog w) A (call (.builtin "bytearray.extend") [.ref D, .bytes c u]) Q E s := by
  refine G_call_entry (by decide +kernel) ba_slot_extend ⟨_, ho, rfl⟩ ba_entry_extend ?_ (ba_args_extend _ _)
  unfold Builtin.«bytearray.extend»
  refine G_bindA (wpAny_of_eq (a := (Value.ref D, Value.bytes c u)) rfl ?_)
  dsimp only
  refine G_bindA (kx_specialBytes KBy.look_buffer ?_)
  rw [if_pos (by rfl)]
  refine G_bindA (wpAny_rule ?_)
  refine G_bindA (ba_payload ho ?_)
  refine G_bindA ?_
  unfold Builtin.Bytes.takeBufferQuiet?
  refine wpAny_bind (wpAny_attempt ?_)
  unfold Builtin.Bytes.takeBuffer?
  refine wpAny_bind (kx_specialBytes KBy.look_buffer ?_)
  refine wpAny_bind (wpAny_of_eq KBy.own_buffer ?_)
  rw [if_neg (by exact Bool.false_ne_true)]
  refine wpAny_bind (kx_specialBytes KBy.look_buffer ?_)
  refine wpAny_bind (wpAny_of_eq KBy.buffer_eq ?_)
  refine wpAny_pure (wpAny_pure ?_)
  show wpG _ _ (if (none : Option Value).isNone = true then _ else _) _ _ _
  rw [if_pos (by rfl)]
  have fin : wpG (model prog w) A.in1 (Builtin.Bytes.write (.ref D) (· ++ c) >>= fun _ => ret Value.none) (fun fin s' => ∃ v, fin = Fin.done (Flow.ret v) ∧ Q v s') E s := by
    refine G_bindA (ba_write ho rfl (by rw [Array.size_append]; exact hz) fun h' hs hD => ?_)
    exact G_pure ⟨_, rfl, h h' hs hD⟩
  show wpG _ _ (if (!c.isEmpty) = true then _ else _) _ _ _
  by_cases hc : (!c.isEmpty) = true
  · rw [if_pos hc]
    exact G_bind (ba_checkResize ho fin)
  · rw [if_neg hc]
    exact fin
end
end Mine

end
section
open PySem PySem.W PyProof.Rows
set_option Elab.async false
set_option maxRecDepth 100000
namespace Mine
open PySem.Sem (wp)
open PySem.Calls

section
variable {prog : Program} {w : World} {A : Around} {E : Value → Shared → Prop} {s : Shared} {D : Addr} {b : Array UInt8}
theorem ba_bytes_new {Q : Value → Shared → Prop} (ho : s.heap.get? D = some (baObj b)) (hz : b.size ≤ sizeLine)
    (hQ : ∀ t k, Q (.bytes b t) { s with toks := k }) :
    codeAny (model prog w) A (.call (.builtin "bytes.__new__") ⟨[.type "bytes", .ref D], []⟩) (wants Q E) s := by
  refine codeAny_of_tree ?_
  show wpAny _ A.in1 (do checkBuiltinCall "bytes.__new__" ⟨[.type "bytes", .ref D], []⟩; again (.builtin "bytes.__new__" ⟨[.type "bytes", .ref D], []⟩)) _ _ s
  refine wpAny_bind (wpAny_of_eq (F.bm_newCall _) (wpAny_pure ⟨plainId_quiet F.bm_plain _, codeAny_builtin F.bm_entry ?_⟩))
  rw [Around.under_plainId F.bm_plain _]
  have hT := ba_typeIs ho
  unfold Builtin.«bytes.__new__»
  refine wpAny_bind (wpAny_of_eq (a := true) rfl ?_)
  refine bm_if_false rfl ?_
  refine wpAny_bind (wpAny_of_eq F.bm_sub ?_)
  refine bm_if_false rfl ?_
  refine wpAny_bind (wpAny_of_eq (F.bm_bind _) ?_)
  refine wpAny_bind (wpAny_of_eq (a := ()) rfl ?_)
  refine wpAny_bind (wpAny_of_eq (a := ()) rfl ?_)
  refine bm_if_false rfl ?_
  refine wpAny_bind (wpAny_specialOf hT ba_no_bytes ?_)
  refine wpAny_bind (wpAny_bind ?_)
  show wpAny _ _ (load D >>= _) _ _ _
  refine wpAny_bind (wpAny_load ho ?_)
  refine wpAny_pure (wpAny_pure ?_)
  refine bm_if_false rfl ?_
  refine wpAny_bind (wpAny_specialOf hT ba_no_index ?_)
  refine bm_if_true rfl ?_
  first
    | show wpAny _ _ (Builtin.Bytes.buffer? "bytes.__new__" (.ref D) true >>= _) _ _ _
    | (refine wpAny_bind ?_; show wpAny _ _ (Builtin.Bytes.buffer? "bytes.__new__" (.ref D) true >>= _) _ _ _)
  refine wpAny_bind (ba_buffer? ho ?_)
  refine wpAny_bind (wpAny_rule ?_)
  refine wpAny_bind (wpAny_mkBytes ?_ hz)
  show wpAny _ _ (if (Value.type "bytes" == Value.type "bytes") = true then _ else _) _ _ _
  refine bm_if_true (by decide) ?_
  first
    | exact wpAny_pure (hQ _ _)
    | exact wpAny_bind (wpAny_pure (wpAny_pure (hQ _ _)))
    | exact wpAny_pure (wpAny_pure (hQ _ _))
theorem ba_toBytes {Q : Value → Shared → Prop} (ho : s.heap.get? D = some (baObj b)) (hz : b.size ≤ sizeLine)
    (hQ : ∀ t k, Q (.bytes b t) { s with toks := k }) : wpAny (model prog w) A (call (.type "bytes") [.ref D]) Q E s := by
  refine callType_codes (Q₁ := fun obj s₁ => s₁.TypeIs obj "bytes" ∧ Q obj s₁) F.bm_called (F.bm_typeCall _) F.entry_object_init
    (ba_bytes_new ho hz fun t k => ⟨PySem.W.typeIs_bytes _ _ _, hQ t k⟩) fun obj s₁ h₁ => ?_
  exact ⟨h₁.1, F.args_object_init_2 obj _, object_init_meets F.bm_called.init.lookup F.bm_called.made (by decide) prog w A.in1 _ s₁ ⟨h₁.1, rfl, h₁.2⟩⟩
end
end Mine

end
section
open PySem PySem.W PyProof.Rows
set_option Elab.async false
set_option maxRecDepth 100000
namespace Mine
open PySem.Sem (wp)
open PySem.Calls

theorem by_slot_replace : Slot "bytes" "replace" "bytes.replace" :=
  .of (owner := "bytes") (n := "replace") (by rw [typeLookup_type, builtinLookup_eq_fast]; kernel_rfl) (by decide +kernel) (by decide +kernel) (by decide +kernel)
    (by first | exact .inl (by decide +kernel) | exact .inr (by decide +kernel)) (by rw [isSubtype_type]; kernel_rfl)
theorem by_entry_replace : entryFor table "bytes.replace" = some Builtin.«bytes.replace» := entryFor_of_tree (by kernel_rfl)
theorem by_args_replace (a b c : Value) : argsOk "bytes.replace" ⟨[a, b, c], []⟩ := by unfold argsOk; kernel_rfl
theorem by_type_replace : typeOf (.builtin "bytes.replace") = pure (.type "method_descriptor") := by show builtinType _ = _; rw [builtinType_eq_fast]; kernel_rfl
section
variable {M : Model} {A : Around} {E : Value → Shared → Prop} {s : Shared} {b : Array UInt8} {t : Tok}
theorem by_method {name : Str} {id : String} {pl : Sem Bool} {Q : Value × List Value → Shared → Prop} (slot : Slot "bytes" name id) (hty : typeOf (.builtin id) = pure (.type "method_descriptor"))
    (h : Q (.builtin id, [.bytes b t]) s) : wpAny M A (getMethod (.bytes b t) name pl) Q E s :=
  getMethod_builtin (typeIs_bytes s b t) PySem.W.FB.plainAttrs_bytes slot hty (fun a e => by cases e) h
theorem by_like {id : String} {Q : Array UInt8 → Shared → Prop} (h : Q b s) : wpAny M A (Builtin.Bytes.bytesLike id (.bytes b t)) Q E s := by
  unfold Builtin.Bytes.bytesLike
  exact wpAny_bind (wpAny_of_eq KBy.buffer_eq (wpAny_pure h))
end
section
variable {prog : Program} {w : World} {A : Around} {E : Value → Shared → Prop} {s : Shared} {b : Array UInt8} {t u v : Tok}
theorem by_replace {Q : Value → Shared → Prop} (hz : 3 * b.size ≤ sizeLine) (h : ∀ t' k, Q (.bytes (stuffL b.toList).toArray t') { s with toks := k }) :
    wpAny (model prog w) A (call (.builtin "bytes.replace") [.bytes b t, .bytes #[255] u, .bytes #[255, 0] v]) Q E s := by
  refine wpAny_call_entry by_slot_replace (typeIs_bytes s b t) by_entry_replace ?_ (by_args_replace _ _ _)
  unfold Builtin.«bytes.replace» Builtin.Bytes.replaceM
  dsimp only
  refine wpAny_bind (wpAny_of_eq (a := (Value.bytes b t, [Value.bytes #[255] u, Value.bytes #[255, 0] v])) rfl ?_)
  dsimp only [List.headD, List.getD]
  refine wpAny_bind (by_like ?_)
  refine wpAny_bind (by_like ?_)
  refine wpAny_bind (wpAny_pure ?_)
  refine wpAny_bind (by_like ?_)
  refine wpAny_bind (by_like ?_)
  refine wpAny_bind (wpAny_of_eq (a := b) rfl ?_)
  rw [if_neg (show ¬ ((#[(255 : UInt8)] : Array UInt8).isEmpty = true) by decide), if_pos (show (-1 : Int) < 0 by decide)]
  by_cases hp : (Builtin.Bytes.occurrences b #[255] 0 b.size).isEmpty = true
  · rw [if_pos (by rw [hp]; rfl)]
    refine wpAny_bind (wpAny_rule ?_)
    have e := none_stuff b hp
    unfold Builtin.Bytes.Kind.same
    rw [if_pos (by decide)]
    refine wpAny_bind (wpAny_bind (wpAny_typeOf (typeIs_bytes s b t) ?_))
    rw [if_pos (by decide)]
    refine wpAny_pure (wpAny_pure ⟨_, rfl, ?_⟩)
    have h2 := h t s.toks
    rw [e] at h2
    exact h2
  · rw [if_neg (by simpa using hp)]
    have hlen := occ_le b
    have hst := stuffL_length b.toList
    have hbig : Builtin.Bytes.tooLong (b.size + (Builtin.Bytes.occurrences b #[255] 0 b.size).length * (#[(255 : UInt8), 0] : Array UInt8).size) = false := by
      unfold Builtin.Bytes.tooLong
      refine decide_eq_false ?_
      show ¬ (b.size + _ * 2 > sizeLine)
      omega
    rw [if_neg (by rw [hbig]; exact Bool.false_ne_true)]
    show wpAny _ _ (mkBytes _ >>= _) _ _ _
    rw [show (#[(255 : UInt8)] : Array UInt8).size = 1 from rfl, replace_stuff]
    refine wpAny_bind (wpAny_mkBytes (wpAny_pure ⟨_, rfl, h _ _⟩) ?_)
    rw [List.size_toArray]
    have : b.toList.length = b.size := Array.length_toList
    omega
end
end Mine

end
section
open PySem PySem.W PyProof.Rows PySem.Calls
set_option Elab.async false
set_option maxRecDepth 100000
namespace Mine
open PySem.Sem (wp)

section
variable {prog : Program} {w : World} {A₀ A : Around} {s : Shared} {base h₀ : Heap} {outer : List Env} {L : Addr} {m mg mb : Str → Option Value} {env : Env} {news : List (Addr × Obj)} {K : Frag} {p : Program} {loose : List Str} {mean : ExcName → Option Value}
  {R : Result → Shared → Prop} {name qual : Str} {params : Arguments} {body : List Stmt} {scope : Scope} {dV kV doc pm cdv ct oc : Value} {an od : Option Addr} {osl : Array (Option Value)} {f : Addr} {args : Args} {binds : List (Str × Value)}

theorem codeG_def (B : Below A₀ base outer h₀) (F : Fr h₀ L s.heap m) (X₀ : K.In h₀) (N : News h₀ L s.heap news) (T : Top p loose mean mg mb h₀) (hA : A.frames = some (env :: outer)) (hf : env.frame = some L) (hke : env.scope.kind = .function)
    (ho : K.lookup f = some ⟨oc, od, .func (fnOf name qual params body scope dV kV doc pm an cdv ct), osl⟩) (hcd : codeIn K cdv qual = true) (hroom : A.depth < recursionLimit)
    (hbind : BindsTo s (fnOf name qual params body scope dV kV doc pm an cdv ct) args binds) (hloc : ∀ y ∈ binds, scope.names.lookup y.1 = some .local)
    (h : ∀ g L' h₁, Fr h₀ L g m → Fr g L' h₁ (fun y => binds.reverse.lookup y) → News g L' h₁ news → Below A base (env :: outer) g → K.In g → Top p loose mean mg mb g →
      wpG (model prog w) (A.deeper (envOf qual scope L' f cdv)) (execs body (envOf qual scope L' f cdv))
        (fun fl s' => LeaveK h₀ L m g R (match fl with | .ret v => v | _ => .none) s')
        (fun e s' => wpAny (model prog w) (A.deeper (envOf qual scope L' f cdv)) (leaving (envOf qual scope L' f cdv) e) (fun _ s'' => R (.error e) s'') (fun e' s'' => R (.error e') s'') s')
        { s with heap := h₁, toks := s.toks + binds.length })
    (hcell : ∀ x ∈ scope.names, x.2 ≠ .cell) (hco : scope.isCoroutine = false := by rfl) (hgen : scope.isGenerator = false := by rfl) (hk : scope.kind = .function := by rfl) : codeG (model prog w) A (.call (.ref f) args) R s := by
  obtain ⟨FG, BG, st, lv⟩ := groundX (R := R) B F N hA hf hke
  refine codeG_call_function hroom ((X₀.keeps F.keep) _ _ ho) rfl hco hgen rfl (codeRec_of (X₀.keeps F.keep) hcd) (hbind _ _ _ _ ?_)
  refine wpAny_newFunctionEnv hcell hloc (fun h₁ hns hsb => ⟨(T.nolimit.keeps F.keep).fresh _ hsb, codeG_func ?_⟩) hk
  have hk₁ : ∀ b o, s.heap.get? b = some o → h₁.get? b = some o := fun b o e => hsb.extBut b o (Nat.ne_of_lt (Heap.lt_size e)) (Heap.get?_push_of_some _ e)
  exact G_mono (h _ s.heap.objs.size h₁ FG ⟨hns, fun b o e => hk₁ b o (of_hideAll _ e), Nat.le_of_eq (hideAll_size _ _)⟩
    (fun p hp => ⟨hk₁ _ _ (N p hp).1, Nat.ne_of_lt (Heap.lt_size (N p hp).1), hideAll_none _ (List.mem_map_of_mem hp)⟩) BG (X₀.keeps st) (T.keeps st)) (fun fl s' hl => lv _ _ hl) fun _ _ y => y
end


end Mine

end
section
open PySem PySem.W PyProof.Rows PySem.Calls PySem.Spec
set_option Elab.async false
set_option maxRecDepth 100000
namespace Mine
open PySem.Sem (wp)

section
variable {prog : Program} {w : World} {A : Around} {E : Value → Shared → Prop} {s : Shared} {h₀ : Heap} {L D : Addr} {m : Str → Option Value} {news news' : List (Addr × Obj)} {b : Array UInt8}
theorem fr_of {h h' : Heap} (F : Fr h₀ L h m) (hk : ∀ o b, h.get? b = some o → h'.get? b = some o) : Fr h₀ L h' m := F.keeps fun b o e => hk o b e
theorem news_of {h h' : Heap} (N : News h₀ L h news) (hk : ∀ o b, h.get? b = some o → h'.get? b = some o) : News h₀ L h' news := fun q hq => ⟨hk _ _ (N q hq).1, (N q hq).2⟩
theorem news_sub {h : Heap} (N : News h₀ L h news) (hs : ∀ p ∈ news', p ∈ news) : News h₀ L h news' := fun p hp => N p (hs p hp)
theorem fr_eq {h : Heap} {m' : Str → Option Value} (F : Fr h₀ L h m) (e : ∀ y, m y = m' y) : Fr h₀ L h m' := by
  have : m = m' := funext e
  exact this ▸ F
theorem news_new {h h' : Heap} {a : Addr} {o : Obj} (F : Fr h₀ L h m) (N : News h₀ L h news) (ha : h.get? a = none) (hk : ∀ o b, h.get? b = some o → h'.get? b = some o) (ho : h'.get? a = some o) : News h₀ L h' ((a, o) :: news) := by
  intro p hp
  rcases List.mem_cons.mp hp with rfl | hp
  · refine ⟨ho, fun q => ?_, ?_⟩
    · obtain ⟨oL, _, _, hL, _⟩ := F.ns
      dsimp only at q
      rw [q, hL] at ha; cases ha
    · cases q : h₀.get? a with
      | none => rfl
      | some o' => have := F.keep _ _ q; rw [ha] at this; cases this
  · exact news_of N hk p hp
theorem ba_new_N {Q : Value → Shared → Prop} (F : Fr h₀ L s.heap m) (N : News h₀ L s.heap news)
    (h : ∀ D h', Fr h₀ L h' m → News h₀ L h' ((D, baObj #[]) :: news) → (∀ p ∈ news, p.1 < D) → Q (.ref D) { s with heap := h' }) :
    wpG (model prog w) A (call (.type "bytearray") []) Q E s := by
  refine ba_new fun h' hk hD => h _ h' (fr_of F hk) (news_new F N (Heap.get?_none_of_le (Nat.le_refl _)) hk hD) fun p hp => Heap.lt_size (N p hp).1
theorem ba_upd {h' : Heap} {o o' : Obj} (F : Fr h₀ L s.heap m) (N : News h₀ L s.heap news) (U : Upd D o o' news news') (hs : Heap.SameBut D s.heap h') (ho : h'.get? D = some o') : Fr h₀ L h' m ∧ News h₀ L h' news' := by
  obtain ⟨pre, post, rfl, rfl, a, c⟩ := U.split
  have z := N (D, o) (List.mem_append.mpr (.inr (.head _)))
  exact ⟨F.change hs z.2.1 z.2.2, news_set N a c hs ho⟩
theorem upd_mem {o o' : Obj} (U : Upd D o o' news news') : (D, o) ∈ news := by
  obtain ⟨pre, post, rfl, rfl, _, _⟩ := U.split
  exact List.mem_append.mpr (.inr (.head _))
theorem ba_append_N {c : Int} {u : Tok} {Q : Value → Shared → Prop} (F : Fr h₀ L s.heap m) (N : News h₀ L s.heap news) (U : Upd D (baObj b) (baObj (b.push c.toNat.toUInt8)) news news') (h0 : 0 ≤ c) (h1 : c < 256) (hz : b.size < sizeLine)
    (h : ∀ h', Fr h₀ L h' m → News h₀ L h' news' → Q .none { s with heap := h' }) : wpG (model prog w) A (call (.builtin "bytearray.append") [.ref D, .int c u]) Q E s :=
  ba_append (N _ (upd_mem U)).1 h0 h1 hz fun h' hs hD => by
    obtain ⟨F', N'⟩ := ba_upd F N U hs hD
    exact h h' F' N'
theorem ba_extend_N {c : Array UInt8} {u : Tok} {Q : Value → Shared → Prop} (F : Fr h₀ L s.heap m) (N : News h₀ L s.heap news) (U : Upd D (baObj b) (baObj (b ++ c)) news news') (hz : b.size + c.size ≤ sizeLine)
    (h : ∀ h', Fr h₀ L h' m → News h₀ L h' news' → Q .none { s with heap := h' }) : wpG (model prog w) A (call (.builtin "bytearray.extend") [.ref D, .bytes c u]) Q E s :=
  ba_extend (N _ (upd_mem U)).1 hz fun h' hs hD => by
    obtain ⟨F', N'⟩ := ba_upd F N U hs hD
    exact h h' F' N'
end

def GStep (h₀ : Heap) (L : Addr) (wr : List Addr) (own : List (Addr × Obj)) (Jn : (Str → Option Value) → List (Addr × Obj) → Prop) (s₁ : Shared) (Q : Flow → Shared → Prop) (f : Flow) (s₂ : Shared) : Prop :=
  match f with
  | .ret v => Q (.ret v) s₂
  | .brk => Q .next s₂
  | _ => ∃ h' tk m' nx, s₂ = { s₁ with heap := h', toks := tk } ∧ Fr h₀ L h' m' ∧ News h₀ L h' (nx ++ own) ∧ (∀ p ∈ nx, p.1 ∉ wr) ∧ Jn m' nx

section
variable {prog : Program} {w : World} {A : Around} {E : Value → Shared → Prop} {s : Shared} {h₀ : Heap} {env : Env} {x : Str} {body : List Stmt} {Q : Flow → Shared → Prop}
/-- a for over an iterator of known course, the body walked with the restriction -/
def GLoop (prog : Program) (w : World) (A : Around) (h₀ : Heap) (env : Env) (x : Str) (body : List Stmt) (Q : Flow → Shared → Prop) (E : Value → Shared → Prop) (it : Value) (s₂ : Shared) : Prop :=
  ∃ (I : Addr) (fp wr : List Addr) (n : Nat) (P : Nat → Value → Prop) (St : Nat → Heap → Prop) (m : Str → Option Value) (news : List (Addr × Obj)) (J : Nat → (Str → Option Value) → List (Addr × Obj) → Prop),
    it = .ref I ∧ Walks prog w A I fp wr n P St ∧ env.locals ∉ fp ∧ (∀ b ∈ wr, h₀.get? b = none) ∧ (∀ p ∈ news, p.1 ∉ wr) ∧ St 0 s₂.heap ∧ Fr h₀ env.locals s₂.heap m ∧ News h₀ env.locals s₂.heap news ∧ J 0 m news ∧
    (∀ i v m₁ nx h tk own, i < n → P i v → J i m₁ nx → (∀ p ∈ nx, p.1 ∉ wr) → (∀ p ∈ own, p.1 ∈ fp) →
      Fr h₀ env.locals h (fun y => if y = x then some v else m₁ y) → News h₀ env.locals h (nx ++ own) →
      wpG (model prog w) A (execs body env) (GStep h₀ env.locals wr own (J (i + 1)) { s₂ with heap := h, toks := tk } Q) E { s₂ with heap := h, toks := tk }) ∧
    ∀ h' tk m' nx, Fr h₀ env.locals h' m' → News h₀ env.locals h' nx → J n m' nx → Q .next { s₂ with heap := h', toks := tk }
theorem G_ForW {px pos : Pos} {iter : Expr} (hx : env.kindOf x = some .local)
    (hp : (env.scope.kind == .class || (env.scope.kind == .module && env.locals != env.globals)) = false) (hE : PassesOwn (model prog w) A env E)
    (h : wpAny (model prog w) A (eval iter env) (fun xv s₁ => wpAny (model prog w) A (pyIter xv) (fun it s₂ => GLoop prog w A h₀ env x body Q E it s₂) E s₁) E s)
    (hs : ∀ v, foldedSetIterable iter env v = pure v := by intro _; rfl) :
    wpG (model prog w) A (exec (.For (.Name x px) iter body [] pos) env) Q E s := by
  refine G_For (wpAny_mono h (fun xv s₁ h₁ => wpAny_mono h₁ (fun it s₂ h₂ => ?_) fun _ _ e => e) fun _ _ e => e) hs
  obtain ⟨I, fp, wr, n, P, St, m, news, J, rfl, W, hLf, hwr, hnw, hst, F, N, h0, step, hQ⟩ := h₂
  have hLw : env.locals ∉ wr := fun h => hLf (W.sub _ h)
  have old : ∀ b o, h₀.get? b = some o → b ∉ wr := fun b o e hb => by rw [hwr b hb] at e; cases e
  have hE' : ∀ e s', E e s' → notedBy (model prog w) A env (fun e s' => (match (Except.error e : Result) with | .ok f => Q f s' | .error e => cameBackBy (model prog w) A env E e s')) e s' := fun e s' he => hE e s' he
  refine G_forLoop
    (fun k s' => ∃ h' tk m' nx i, s' = { s₂ with heap := h', toks := tk } ∧ St i h' ∧ Fr h₀ env.locals h' m' ∧ News h₀ env.locals h' nx ∧ (∀ p ∈ nx, p.1 ∉ wr) ∧ J i m' nx ∧ i ≤ n ∧ k = n + 1 - i) ?_ (n + 1)
    ⟨s₂.heap, s₂.toks, m, news, 0, rfl, hst, F, N, hnw, h0, Nat.zero_le _, rfl⟩
  rintro k s' ⟨h', tk, m', nx, i, rfl, hst', F', N', hnw', hJ, hi, rfl⟩
  have next : ∀ h₁ : Heap, (∀ b o, b ∉ wr → h'.get? b = some o → h₁.get? b = some o) → Fr h₀ env.locals h₁ m' ∧ News h₀ env.locals h₁ nx := fun h₁ hk₁ =>
    ⟨⟨F'.ns.at' fun o e => hk₁ _ o hLw e, fun b o e => hk₁ b o (old b o e) (F'.keep b o e), F'.above⟩, fun p hp => ⟨hk₁ _ _ (hnw' p hp) (N' p hp).1, (N' p hp).2⟩⟩
  by_cases hlt : i < n
  · refine W.item i _ _ _ hlt hst' fun v h₁ tk₁ hP hst₁ hk₁ => ?_
    obtain ⟨F₁, N₁⟩ := next h₁ hk₁
    refine wpAny_storeName_local hx F₁.ns (fun h₂ hn₂ hs₂ => ?_) hp
    have F₂ := F₁.set hn₂ hs₂
    have Nown : News h₀ env.locals h₂ (ownOf h₀ fp h₂) := news_ownOf hLf
    refine G_mono (step i v m' nx h₂ _ (ownOf h₀ fp h₂) hlt hP hJ hnw' ownOf_sub F₂ ((N₁.set hs₂).append Nown)) (fun f s₃ h₃ => ?_) hE'
    have go : (∃ h₃' tk₃ m₂ nx₂, s₃ = { s₂ with heap := h₃', toks := tk₃ } ∧ Fr h₀ env.locals h₃' m₂ ∧ News h₀ env.locals h₃' (nx₂ ++ ownOf h₀ fp h₂) ∧ (∀ p ∈ nx₂, p.1 ∉ wr) ∧ J (i + 1) m₂ nx₂) →
        ∃ m, m < n + 1 - i ∧ ∃ h' tk m' nx i, s₃ = { s₂ with heap := h', toks := tk } ∧ St i h' ∧ Fr h₀ env.locals h' m' ∧ News h₀ env.locals h' nx ∧ (∀ p ∈ nx, p.1 ∉ wr) ∧ J i m' nx ∧ i ≤ n ∧ m = n + 1 - i := by
      rintro ⟨h₃', tk₃, m₂, nx₂, rfl, F₃, N₃, ha₃, hJ₃⟩
      refine ⟨n + 1 - (i + 1), by omega, h₃', tk₃, m₂, nx₂, i + 1, rfl, ?_, F₃, fun p hp => N₃ p (List.mem_append_left _ hp), ha₃, hJ₃, hlt, rfl⟩
      refine W.frame _ _ _ hst₁ fun b hb o e => ?_
      have e₂ : h₂.get? b = some o := (hs₂.2 b fun q => hLf (q ▸ hb)).trans e
      cases hn : h₀.get? b with
      | some o₀ =>
        have : o₀ = o := by have := F₂.keep b o₀ hn; rw [e₂] at this; exact (Option.some.inj this).symm
        exact this ▸ F₃.keep b o₀ hn
      | none => exact (N₃ _ (List.mem_append_right _ (mem_ownOf hb hn e₂))).1
    cases f with
    | ret v => exact h₃
    | brk => exact h₃
    | cont => exact go h₃
    | next => exact go h₃
  · have hin : i = n := by omega
    subst hin
    refine W.done _ _ _ hst' fun h₁ tk₁ hk₁ => ?_
    obtain ⟨F₁, N₁⟩ := next h₁ hk₁
    exact hQ h₁ tk₁ m' nx F₁ N₁ hJ
/-- over the octets of a bytes -/
theorem GLoop_bytes {b : Array UInt8} {tb : Tok} {m : Str → Option Value} {news : List (Addr × Obj)} (J : Nat → (Str → Option Value) → List (Addr × Obj) → Prop) (hh : A.handled = none)
    (F : Fr h₀ env.locals s.heap m) (N : News h₀ env.locals s.heap news) (h0 : J 0 m news)
    (turn : ∀ i c t m₁ nx h tk own I, b[i]? = some c → J i m₁ nx → (∀ p ∈ nx, p.1 ≠ I) → (∀ p ∈ own, p.1 = I) → (∀ p ∈ news, p.1 < I) →
      Fr h₀ env.locals h (fun y => if y = x then some (.int (c.toNat : Int) t) else m₁ y) → News h₀ env.locals h (nx ++ own) →
      wpG (model prog w) A (execs body env) (GStep h₀ env.locals [I] own (J (i + 1)) { s with heap := h, toks := tk } Q) E { s with heap := h, toks := tk })
    (done : ∀ h tk m' nx, Fr h₀ env.locals h m' → News h₀ env.locals h nx → J b.size m' nx → Q .next { s with heap := h, toks := tk }) :
    wpAny (model prog w) A (pyIter (.bytes b tb)) (fun it s₂ => GLoop prog w A h₀ env x body Q E it s₂) E s := by
  refine KBw.pyIter_bytes ?_
  have W := KBw.walks (prog := prog) (w := w) hh s.heap.objs.size b tb
  refine ⟨_, _, _, b.size, _, _, m, news, J, rfl, W, ?_, ?_, ?_, ⟨_, Heap.get?_push_size _ rfl, rfl, rfl⟩, F.push _, (fun p hp => ⟨Heap.get?_push_of_some _ (N p hp).1, (N p hp).2⟩), h0, ?_, fun h' tk m' nx F' N' hJ => done h' tk m' nx F' N' hJ⟩
  · intro hm
    exact absurd F.ns.lt ((List.mem_singleton.mp hm) ▸ Nat.lt_irrefl _)
  · intro b' hb
    rw [List.mem_singleton.mp hb]
    exact next_is_new F
  · intro p hp hI
    exact absurd (Heap.lt_size (N p hp).1) ((List.mem_singleton.mp hI) ▸ Nat.lt_irrefl _)
  · rintro i v m₁ nx h tk own hi ⟨c, u, hc, rfl⟩ hJ hne hown F₁ N₁
    exact turn i c u m₁ nx h tk own _ hc hJ (fun p hp q => hne p hp (List.mem_singleton.mpr q)) (fun p hp => List.mem_singleton.mp (hown p hp)) (fun p hp => Heap.lt_size (N p hp).1) F₁ N₁
end
end Mine

end
section
open PySem PySem.W PyProof.Rows PySem.Calls PySem.Spec
set_option Elab.async false
set_option maxRecDepth 100000
namespace Mine
open PySem.Sem (wp)

section
variable {prog : Program} {w : World} {A : Around} {E : Value → Shared → Prop} {s : Shared} {h₀ : Heap} {L a D : Addr} {m : Str → Option Value} {news news' : List (Addr × Obj)} {b : Array UInt8} {cn : Str} {cs : Scope} {ccd : Value} {cl : List (Str × Addr)} {x : Str}
theorem G_baMethod {meth : Str} {id : String} {np ap cp pos : Pos} {e : Expr} {Q : Flow → Shared → Prop} (slot : Slot "bytearray" meth id) (hty : typeOf (.builtin id) = pure (.type "method_descriptor"))
    (F : Fr h₀ L s.heap m) (hm : m x = some (.ref D)) (N : News h₀ L s.heap news) (hmem : (D, baObj b) ∈ news)
    (h : wpG (model prog w) A (eval e (envX cn cs L a ccd cl)) (fun v s₁ => wpG (model prog w) A (call (.builtin id) [.ref D, v]) (fun v s' => (∀ a, v ≠ .ref a) ∧ Q .next s') E s₁) E s)
    (hk : cs.kind = .function := by rfl) (hx : (envX cn cs L a ccd cl).kindOf x = some .local := by rfl) (hd : (x == ("__debug__" : Str)) = false := by decide)
    (he : starEach [e] (envX cn cs L a ccd cl) = [(false, eval e (envX cn cs L a ccd cl))] := by rfl)
    (hmc : eval (.Call (.Attribute (.Name x np) meth ap) [e] [] cp) (envX cn cs L a ccd cl) = (do
      let ov ← eval (.Name x np) (envX cn cs L a ccd cl)
      standAt ap.atName
      let (f, first) ← holding [ov] (getMethod ov meth (do return (← importBound (.Name x np) (envX cn cs L a ccd cl)).getD true))
      callWith cp f first (backTo cp (starEach [e] (envX cn cs L a ccd cl))) []) := by rfl)
    (hi : interactive (envX cn cs L a ccd cl) = false := by rfl) (hs : swapsWith (.Call (.Attribute (.Name x np) meth ap) [e] [] cp) none pos.line (envX cn cs L a ccd cl) = pure false := by rfl) :
    wpG (model prog w) A (exec (.Expr (.Call (.Attribute (.Name x np) meth ap) [e] [] cp) pos) (envX cn cs L a ccd cl)) Q E s := by
  refine G_Expr (G_MethodCall ?_ hmc) hi hs
  refine nameX_L F hm ?_ hk hx hd
  refine ba_method (N _ hmem).1 slot hty ?_
  rw [he]
  refine G_callWith rfl (G_evalArgs1 (G_spliced_cons (G_mono h (fun v s₁ h₁ => ?_) fun _ _ z => z)))
  exact G_spliced_nil ⟨⟨.machine, .inr (.inl rfl), Looks.of_pure rfl⟩, h₁⟩
theorem G_baNew {np np' cp pos : Pos} {Q : Flow → Shared → Prop} (F : Fr h₀ L s.heap m) (N : News h₀ L s.heap news)
    (hn : ∀ Q', Q' (.type "bytearray") s → wpAny (model prog w) A (eval (.Name (Str.ofString "bytearray") np) (envX cn cs L a ccd cl)) Q' E s)
    (h : ∀ D h' tk, Fr h₀ L h' (fun y => if y = x then some (.ref D) else m y) → News h₀ L h' ((D, baObj #[]) :: news) → (∀ p ∈ news, p.1 < D) → Q .next { s with heap := h', toks := tk })
    (hk : cs.kind = .function := by rfl) (hx : (envX cn cs L a ccd cl).kindOf x = some .local := by rfl)
    (hmc : eval (.Call (.Name (Str.ofString "bytearray") np) [] [] cp) (envX cn cs L a ccd cl) = (do
      let f ← eval (.Name (Str.ofString "bytearray") np) (envX cn cs L a ccd cl)
      callWith cp f [] (backTo cp (starEach [] (envX cn cs L a ccd cl))) []) := by rfl)
    (hs : swapsWith (.Call (.Name (Str.ofString "bytearray") np) [] [] cp) (some (.Name x np')) pos.line (envX cn cs L a ccd cl) = pure false := by rfl) :
    wpG (model prog w) A (exec (.Assign [.Name x np'] (.Call (.Name (Str.ofString "bytearray") np) [] [] cp) pos) (envX cn cs L a ccd cl)) Q E s := by
  refine G_Assign (G_NameCall (hn _ ?_) hmc) hs
  refine G_callWith rfl (G_evalArgs0 ⟨⟨.machine, .inr (.inl rfl), Looks.of_pure rfl⟩, ?_⟩)
  refine ba_new_N F N fun D h' F' N' hD => ?_
  exact storeX_L (s := { s with heap := h' }) F' N' (fun h'' F'' N'' => h D h'' _ F'' N'' hD) hk hx
/-- return bytes(found) -/
theorem W_baReturn {np fp cp : Pos} {Q : Value → Shared → Prop} (F : Fr h₀ L s.heap m) (hm : m x = some (.ref D)) (N : News h₀ L s.heap news) (hmem : (D, baObj b) ∈ news) (hz : b.size ≤ sizeLine)
    (hn : ∀ Q', Q' (.type "bytes") s → wpAny (model prog w) A (eval (.Name (Str.ofString "bytes") fp) (envX cn cs L a ccd cl)) Q' E s)
    (h : ∀ t tk, Q (.bytes b t) { s with toks := tk })
    (hk : cs.kind = .function := by rfl) (hx : (envX cn cs L a ccd cl).kindOf x = some .local := by rfl) (hd : (x == ("__debug__" : Str)) = false := by decide)
    (hmc : eval (.Call (.Name (Str.ofString "bytes") fp) [.Name x np] [] cp) (envX cn cs L a ccd cl) = (do
      let f ← eval (.Name (Str.ofString "bytes") fp) (envX cn cs L a ccd cl)
      callWith cp f [] (backTo cp (starEach [.Name x np] (envX cn cs L a ccd cl))) []) := by rfl) :
    wpAny (model prog w) A (eval (.Call (.Name (Str.ofString "bytes") fp) [.Name x np] [] cp) (envX cn cs L a ccd cl)) Q E s := by
  rw [hmc]
  refine wpAny_bind (hn _ ?_)
  refine PySem.callWith_type rfl (evalArgs_plain (spliced_cons (nameX_L F hm (spliced_nil ?_) hk hx hd)))
  exact ba_toBytes (N _ hmem).1 hz fun t k => h t k
end
end Mine

end
section
open PySem PySem.W PyProof.Rows PySem.Calls
set_option Elab.async false
set_option maxRecDepth 100000
set_option maxHeartbeats 1000000
namespace Mine
open PySem.Sem (wp)
open Builtin Builtin.ObjectAttr
def bm44 : List Value := [.ref 31, .type "Exception", .type "BaseException", .type "object"]
abbrev clsObj (k0 k1 k2 k3 k5 : Option Value) : Obj := excClassObj "CodeError" "CodeError" 44 43 [.ref 31] bm44 true [] [] false none none k0 k1 k2 k3 k5 "Exception.__new__"
structure Cls (M : Model) (h : Heap) : Prop where
  at_ : ∃ k0 k1 k2 k3 k5, h.get? 44 = some (clsObj k0 k1 k2 k3 k5)
  call : Looks M h (specialOf (.ref 44) "__call__") (some (.builtin "type.__call__"))
  typ : Looks M h (isInstance (.ref 44) (.type "type")) true
  init : Looks M h (typeLookup (.ref 44) "__init__") (some (.ref 28))
  bindI : ∀ self, Looks M h (bindSpecial (.ref 28) self) (.ref 28, [self])
  setter : Looks M h (typeLookup (.ref 44) "__setattr__") (some (.builtin "object.__setattr__"))
  msg : Looks M h (typeLookup (.ref 44) "message") none
theorem cls_of {w : World} {h : Heap} (X : (Mine.hd.heap_39 w.params).In h) : Cls (model PySem.Challenge.rw_nt0541_01.row.prog w) h := by
  revert X
  k_fill
  intro X
  refine ⟨?_, looks_specialIn X (by k_is), looks_instIn X (by k_is), looks_findIn X (by k_is), fun self => bind_fn X self (by k_is), looks_findIn X (by k_is), looks_findIn X (by k_is)⟩
  exact ⟨_, _, _, _, _, X _ _ (by k_is)⟩
theorem Cls.keeps {M : Model} {h h' : Heap} (Y : Cls M h) (k : ∀ b o, h.get? b = some o → h'.get? b = some o) : Cls M h' := by
  obtain ⟨⟨k0, k1, k2, k3, k5, e⟩, a, b, c, d, f, i⟩ := Y
  exact ⟨⟨k0, k1, k2, k3, k5, k _ _ e⟩, a.keeps k, b.keeps k, c.keeps k, fun x => (d x).keeps k, f.keeps k, i.keeps k⟩

def tupObj (l : List Value) : Obj := { cls := .type "tuple", data := .seq l.toArray }
def excObj (t : Addr) (d : Option Addr) : Obj := { cls := .ref 44, dict := d, data := .fields #[.ref t, .none, .none, .none, .bool false, .none] }

section
variable {prog : Program} {w : World} {A : Around} {E : Value → Shared → Prop} {R : Result → Shared → Prop} {h : Heap} {g : Array GenState} {d : Drawn} {t : Nat} {os : OsState} {k0 k1 k2 k3 k5 : Option Value} {rest : List Value}
theorem exc_new (hC : h.get? 44 = some (clsObj k0 k1 k2 k3 k5))
    (hq : R (.ok (.ret (.ref (h.objs.size + 1)))) ⟨(h.push (tupObj rest)).push (excObj h.objs.size none), g, d, t, os⟩) (hrest : rest.length ≤ sizeLine) :
    codeAny (model prog w) A (.builtin "Exception.__new__" ⟨.ref 44 :: rest, []⟩) R ⟨h, g, d, t, os⟩ := by
  have F := PySem.F.excBase_Exception
  have hends := F.ends
  have hcB : (Value.ref 44 :: bm44).contains (.type "Exception") = true := by decide
  have hcA : (Value.ref 44 :: bm44).contains (.type "AttributeError") = false := by decide
  have hcN : (Value.ref 44 :: bm44).contains (.type "NameError") = false := by decide
  refine codeAny_builtinAt F.entry ?_
  unfold Builtin.«BaseException.__new__»
  refine PySem.wpAt_bind ?_
  show PySem.wpAt _ _ _ (stack >>= _) _ _ _
  refine PySem.wpAt_bind (PySem.wpAt_stack fun p below => PySem.wpAt_of_wpAny ?_)
  wp_walk
  refine PySem.wpAt_of_wpAny ?_
  rw [F.owner]
  repeat (first | with_reducible refine wpAny_madeHere_exc F.canon hC ?_ | with_reducible refine wpAny_loadPart_at hC ?_ | (with_reducible refine wpAny_isSubtype_exc hC ?_; first | rw [hcB] | rw [hcA] | rw [hcN]) | wp_step)
  show R _ _
  rw [Heap.size_push]
  exact hq
theorem make_exc (Y : Cls (model prog w) h) (hrest : rest.length ≤ sizeLine)
    (hq : codeAny (model prog w) (A.under (.builtin "type.__call__" ⟨.ref 44 :: rest, []⟩)) (.call (.ref 28) ⟨.ref (h.objs.size + 1) :: rest, []⟩) (InitBack (h.objs.size + 1) R)
      ⟨(h.push (tupObj rest)).push (excObj h.objs.size none), g, d, t, os⟩) :
    codeAny (model prog w) A (.call (.ref 44) ⟨rest, []⟩) R ⟨h, g, d, t, os⟩ := by
  obtain ⟨k0, k1, k2, k3, k5, hC⟩ := Y.at_
  refine codeAny_of_tree ?_
  show wpAny _ _ (callAny (.ref 44) _) _ _ _
  refine nd_load hC ?_
  show wpAny _ _ (callAny.viaDunder (.ref 44) _) _ _ _
  unfold callAny.viaDunder
  refine wpAny_bind (Y.call.here ?_)
  dsimp only
  rw [tc_bind]
  refine wpAny_bind (wpAny_pure (wpAny_bind (wpAny_pure ?_)))
  refine wpAny_pure (a := Fin.again (.call (.builtin "type.__call__") ⟨.ref 44 :: rest, []⟩)) (And.intro rfl ?_)
  refine codeAny_call_builtin_at (Code.quiet_builtin _ (by decide +kernel)) entry_typeCall (check_slot tc_kind tc_split Y.typ (tc_args _ _ _) ?_)
  unfold Builtin.«type.__call__»
  repeat (first | with_reducible refine wpAny_loadPart_at hC ?_ | with_reducible refine wpAny_madeBy_exc hC ?_ | wp_step)
  refine codeAny_call_builtin_code (Code.quiet_builtin _ PySem.F.excBase_Exception.quiet) (wpAny_check_new_subU (bmB := bm44) PySem.F.excBase_Exception (by decide) .base hC ?_)
  refine exc_new hC ?_ hrest
  show wpAny _ _ _ _ _ _
  have k : ∀ b o, h.get? b = some o → ((h.push (tupObj rest)).push (excObj h.objs.size none)).get? b = some o := fun b o e => Heap.get?_push_of_some _ (Heap.get?_push_of_some _ e)
  have hC₁ := k _ _ hC
  have hget : ((h.push (tupObj rest)).push (excObj h.objs.size none)).get? (h.objs.size + 1) = some (excObj h.objs.size none) := by heap_get
  have hcC : (Value.ref 44 :: bm44).contains (.ref 44) = true := by decide
  have i1 := Y.init.keeps k
  have b1 := (Y.bindI (.ref (h.objs.size + 1))).keeps k
  have t1 : Looks (model prog w) ((h.push (tupObj rest)).push (excObj h.objs.size none)) (typeOf (.ref (h.objs.size + 1))) (.ref 44) := (Looks.ld (part := some .none) hget).andThen .now
  unfold isInstance callSpecial? specialOf
  repeat (first | with_reducible refine wpAny_loadPart_at hget ?_ | (with_reducible refine wpAny_isSubtype_exc hC₁ ?_; rw [hcC]) | with_reducible refine wpAny_call ?_ | lk | wp_step)
  refine codeAny_mono hq fun r s' z => ?_
  rcases r with e | (v | _ | _ | _) <;> first | exact z | exact z.elim | skip
  obtain ⟨rfl, z⟩ := z
  exact wpAny_pure (wpAny_pure z)
end
end Mine

end
section
open PySem PySem.W PyProof.Rows PySem.Calls
set_option Elab.async false
set_option maxRecDepth 100000
set_option maxHeartbeats 1000000
namespace Mine
open PySem.Sem (wp)
open Builtin Builtin.ObjectAttr
section
variable {prog : Program} {w : World} {A : Around} {E : Value → Shared → Prop} {R : Result → Shared → Prop} {h : Heap} {g : Array GenState} {d : Drawn} {t : Nat} {os : OsState} {rest : List Value} {e q : Addr} {v : Value}
theorem Cls.sub {M : Model} (Y : Cls M h) {b : Value} (hb : (Value.ref 44 :: bm44).contains b = true) : Looks M h (isSubtype (.ref 44) b) true := by
  obtain ⟨k0, k1, k2, k3, k5, hC⟩ := Y.at_
  intro A Q E s k q
  obtain ⟨hp, g, d, t, os⟩ := s
  exact wpAny_isSubtype_exc (k _ _ hC) (by rw [hb]; exact q)
theorem Cls.mro {M : Model} (Y : Cls M h) : Looks M h (mroOf (.ref 44)) (.ref 44 :: bm44) := by
  obtain ⟨k0, k1, k2, k3, k5, hC⟩ := Y.at_
  intro A Q E s k q
  obtain ⟨hp, g, d, t, os⟩ := s
  exact wpAny_mroOf_exc (k _ _ hC) q
theorem exc_type {M : Model} {dd : Option Addr} (he : h.get? e = some (excObj q dd)) : Looks M h (typeOf (.ref e)) (.ref 44) := (Looks.ld (part := some .none) he).andThen .now
theorem exc_isA {M : Model} {dd : Option Addr} (Y : Cls M h) (he : h.get? e = some (excObj q dd)) {b : Value} (hb : (Value.ref 44 :: bm44).contains b = true) : Looks M h (isInstance (.ref e) b) true :=
  (exc_type he).andThen (Y.sub hb)
theorem exc_init {Q : Value → Shared → Prop} (Y : Cls (model prog w) h) (he : h.get? e = some (excObj q none)) (hrest : rest.length ≤ sizeLine)
    (hq : ∀ h', (∀ b o, b ≠ e → h.get? b = some o → h'.get? b = some o) → h'.get? e = some (excObj h.objs.size none) → Q .none ⟨h', g, d, t, os⟩) :
    wpAny (model prog w) A (call (.builtin "Exception.__init__") (.ref e :: rest)) Q E ⟨h, g, d, t, os⟩ := by
  have F := PySem.F.excBase_Exception
  obtain ⟨k0, k1, k2, k3, k5, hC⟩ := Y.at_
  have chk : ∀ (A : Around) (E : Value → Shared → Prop) (Q : Unit → Shared → Prop), Q () ⟨h, g, d, t, os⟩ → wpAny (model prog w) A (checkBuiltinCall "Exception.__init__" ⟨.ref e :: rest, []⟩) Q E ⟨h, g, d, t, os⟩ := by
    intro A E Q hq
    have hshort := F.noStar
    simp only [checkBuiltinCall, F.initKind, F.initSplit, F.initRow]
    have hcB : (Value.ref 44 :: bm44).contains (.type "Exception") = true := by decide
    have hcls : (excObj q none).cls = .ref 44 := rfl
    repeat (first | (with_reducible refine wpAny_loadPart_at he ?_; rw [hcls]) | with_reducible refine wpAny_loadPart_at hC ?_ | (with_reducible refine wpAny_isSubtype_exc hC ?_; rw [hcB]) | wp_step)
    refine wpAny_onRaise ?_
    rw [show ∀ (a b : String) (n : Nat), Bind.check ⟨.positional, "*", "Exception", .self, [⟨"args", .varPos, false⟩]⟩ a b n (List.map (fun x => x.fst) ({ pos := Value.ref e :: rest } : Args).kw) = pure () from
      fun a b n => check_star_args _ _ _ _ _ _]
    exact wpAny_pure hq
  refine wpAny_call (codeAny_call_builtin F.init.plain F.initEntry (chk _ _ _ ?_))
  unfold Builtin.«BaseException.__init__»
  wp_walk
  have hx₁ : (h.push (tupObj rest)).get? e = some (excObj q none) := Heap.get?_push_of_some _ he
  refine hq _ (fun b o hb hbo => ?_) ?_
  · exact (Heap.get?_update_ne _ _ _ _ hb).trans (Heap.get?_push_of_some _ hbo)
  · exact Heap.get?_update_self _ hx₁ rfl
theorem exc_set {Q : Unit → Shared → Prop} (Y : Cls (model prog w) h) (he : h.get? e = some (excObj q none))
    (hq : ∀ h' dx tk', (∀ b o, b ≠ e → h.get? b = some o → h'.get? b = some o) → h'.get? e = some (excObj q (some dx)) → Q () ⟨h', g, d, tk', os⟩) :
    wpAny (model prog w) A (setAttr (.ref e) "message" v) Q E ⟨h, g, d, t, os⟩ := by
  have SF := PySem.F.store_object
  have tE := exc_type (M := model prog w) he
  obtain ⟨k0, k1, k2, k3, k5, hC⟩ := Y.at_
  refine wpAny_bind (wpAny_mkText (wpAny_bind (wpAny_bind (wpAny_bind (Looks.here (s := ⟨h, g, d, t + 1, os⟩) tE (Looks.here (s := ⟨h, g, d, t + 1, os⟩) Y.setter (wpAny_holding ?_)))))))
  rw [SF.slot.bind]
  refine wpAny_bind (wpAny_pure (wpAny_bind (wpAny_call ?_)))
  refine codeAny_call_builtin SF.slot.plain SF.entry (@check_slot (model prog w) _ _ ⟨h, g, d, t + 1, os⟩ "object.__setattr__" "object" "__setattr__" (.ref e) [.str "message" t, v] [] _ SF.kind SF.split (exc_isA Y he (by decide)) (SF.args _ _ _) ?_)
  show wpAny _ _ (Builtin.«object.__setattr__» ⟨[.ref e, .str "message" t, v], []⟩) _ _ _
  rw [osa_eq, refuse_eq]
  refine wpAny_bind (wpAny_bind (Looks.here (s := ⟨h, g, d, t + 1, os⟩) tE (wpAny_bind (Looks.here (s := ⟨h, g, d, t + 1, os⟩) Y.mro ?_))))
  have hpass : refuseLoop (.ref e) "__setattr__" (.ref 44 :: bm44) = pure () := by
    unfold bm44
    rw [refuseLoop_ref, refuseLoop_ref]
    exact PySem.F.store_Exception.passes _
  rw [hpass]
  refine wpAny_pure (wpAny_bind (Looks.here (s := ⟨h, g, d, t + 1, os⟩) tE (wpAny_bind (Looks.here (s := ⟨h, g, d, t + 1, os⟩) Y.msg (wpAny_bind (wpAny_pure ?_))))))
  show wpAny _ _ (storeInOwnDict (.ref e) (.ref 44) (.str "message" t) "message" v false) _ _ _
  have hes : e ≠ h.objs.size := Nat.ne_of_lt (Heap.lt_size he)
  have hx₁ : (h.push emptyDict).get? e = some (excObj q none) := Heap.get?_push_of_some _ he
  refine wpAny_bind (wpAny_pure (wpAny_bind (wpAny_bind (wpAny_loadPart he (wpAny_bind (wpAny_bind (wpAny_load hC (wpAny_pure ?_))))))))
  refine wpAny_bind (wpAny_alloc' ?_)
  refine wpAny_bind (wpAny_update' hx₁ ?_)
  refine wpAny_pure ?_
  have hgd : ((h.push emptyDict).update e fun o => { cls := o.cls, dict := some h.objs.size, data := o.data, slots := o.slots }).get? h.objs.size = some emptyDict :=
    (Heap.get?_update_ne _ _ _ _ hes.symm).trans (Heap.get?_push_at rfl rfl)
  have hnd : ((h.push emptyDict).update e fun o => { cls := o.cls, dict := some h.objs.size, data := o.data, slots := o.slots }).Ns h.objs.size (fun _ => none) :=
    ⟨_, #[], _, hgd, rfl, fun e he => absurd he (by simp), fun _ => rfl⟩
  show wpAny _ _ (storeInDict h.objs.size (.str "message" t) "message" v) _ _ _
  unfold storeInDict newKeyGuard
  refine wpAny_bind (wpAny_pure (wpAny_bind (wpAny_nsSet1 (Heap.Ns1.of_empty hnd) fun h' hn' hs => ?_)))
  obtain ⟨oD, esD, epD, hoD, hdD, hcD⟩ := hn'.count (Within.cons "message" v Within.nil)
  refine wpAny_bind (wpAny_lookBehind hoD (by rw [hdD]; exact pastItsLine_dict (Nat.le_trans hcD (by rw [List.length_cons, List.length_nil, sizeLine_eq]; omega))) ?_)
  wp_walk
  refine hq h' h.objs.size _ (fun b o hb hbo => ?_) ?_
  · exact (hs.2 b (Nat.ne_of_lt (Heap.lt_size hbo))).trans ((Heap.get?_update_ne _ _ _ _ hb).trans (Heap.get?_push_of_some _ hbo))
  · exact (hs.2 e hes).trans (Heap.get?_update_self _ hx₁ rfl)
end
end Mine

end
section
open PySem PySem.W PyProof.Rows PySem.Calls
set_option Elab.async false
set_option maxRecDepth 100000
set_option maxHeartbeats 4000000
set_option pp.structureInstances false
set_option pp.maxSteps 30000
namespace Mine
open PySem.Sem (wp)
theorem exc_keep {g h h' : Heap} {L e : Addr} {m : Str → Option Value} {o o' : Obj} {tl news : List (Addr × Obj)} (F : Fr g L h m) (N : News g L h ((e, o) :: tl ++ news)) (hn : ∀ p ∈ news, p.1 ≠ e) (hk : ∀ b o, b ≠ e → h.get? b = some o → h'.get? b = some o) (he : h'.get? e = some o') :
    Fr g L h' m ∧ News g L h' ((e, o') :: news) := by
  have D := N (e, o) (by simp)
  obtain ⟨oL, es, ep, hL, r⟩ := F.ns
  refine ⟨⟨⟨oL, es, ep, hk _ _ (fun q => D.2.1 q.symm) hL, r⟩, fun b x q => hk _ _ (fun z => ?_) (F.keep b x q), F.above⟩, fun p hp => ?_⟩
  · have := D.2.2; dsimp only at this; rw [← z, q] at this; cases this
  · rcases List.mem_cons.mp hp with rfl | q
    · exact ⟨he, D.2⟩
    · have P := N p (by simp [q]); exact ⟨hk _ _ (hn p q) P.1, P.2⟩
theorem code_error {w : World} {p₀ : Program} {loose₀ : List Str} {mean : ExcName → Option Value} {mg mb : Str → Option Value} {dp un : Nat} {gd : Option (List Code)} {cn : Str} {cs : Scope} {a : Addr} {ccd : Value} {cl : List (Str × Addr)} {outer : List Env} {A₀ : Around} {base h₀ : Heap} {L : Addr} {m : Str → Option Value} {news : List (Addr × Obj)} {s : Shared} {Q E : Value → Shared → Prop}
    (B : Below A₀ base outer h₀) (F : Fr h₀ L s.heap m) (X : (Mine.hd.heap_39 w.params).In h₀) (N : News h₀ L s.heap news) (T : Top p₀ loose₀ mean mg mb h₀) (hk : cs.kind = .function)
    (hd : dp + 3 < recursionLimit) (hu : un + 24 < cLine) {msg : Str} {t : Tok}
    (hret : ∀ e t d h' tk', Fr h₀ L h' m → News h₀ L h' ((e, excObj t (some d)) :: news) → (∀ p ∈ news, p.1 ≠ e) → Q (.ref e) { s with heap := h', toks := tk' }) :
    wpAny (model PySem.Challenge.rw_nt0541_01.row.prog w) (ktrTop dp un gd cn cs L a ccd cl outer) (call (.ref 44) [.str msg t]) Q E s := by
  have Y := cls_of (X.keeps F.keep)
  revert X
  k_fill
  intro X
  obtain ⟨hp, g₀, d₀, t₀, os₀⟩ := s
  refine wpAny_call (make_exc Y (by size_fits) ?_)
  have N₁ := (N.push F (tupObj [.str msg t])).push (F.push _) (excObj hp.objs.size none)
  rw [Heap.size_push] at N₁
  have F₁ := (F.push (tupObj [.str msg t])).push (excObj hp.objs.size none)
  have hne : hp.objs.size + 1 ≠ hp.objs.size := by omega
  have hnn : ∀ p ∈ news, p.1 < hp.objs.size := fun p hm => Heap.lt_size (N p hm).1
  have hnl : ∀ p ∈ news, p.1 ≠ hp.objs.size + 1 := fun p hm => Nat.ne_of_lt (Nat.lt_succ_of_lt (hnn p hm))
  generalize hp.objs.size + 1 = e at *
  generalize hp.objs.size = q at *
  k_dflt (refine' code_def (s := ⟨(hp.push (tupObj [.str msg t])).push (excObj q none), g₀, d₀, t₀, os₀⟩) B F₁ X N₁ T ?kA ?kF ?kK ?k6 ?k7 ?k8 ?k9 ?kB ?_ ?c2 ?c3 ?c4 ?c5; (case kA => exact rfl); (case kF => exact rfl); (case kK => exact hk); (case k6 => k_is); (case k7 => k_is); (case k8 => ktr_room); (case k9 => exact BindsTo.of_eq (binds := [(Str.ofString "self", Value.ref e), (Str.ofString "message", Value.str msg t)]) rfl); (case kB => exact locs rfl); (case c5 => decide); (case c2 => exact rfl); (case c3 => exact rfl); (case c4 => exact rfl))
  clear X B F N T
  intro g L' h₁ FG F' N' B' X' T'
  dsimp only
  iterate 5 walk1
  refine method_type (T := "Exception") (name := "__init__") (v := .builtin "Exception.__init__") (by assumption) X' (by kernel_rfl) (by decide +kernel) (by k_is) (by decide +kernel) ?_
  dsimp only
  iterate 6 walk1
  have Y₁ := cls_of (X'.keeps F'.keep)
  refine exc_init Y₁ (N' _ (.head _)).1 (by size_fits) fun h₂ hk₂ he₂ => ?_
  obtain ⟨F₂, N₂⟩ := exc_keep (tl := [(q, tupObj [.str msg t])]) F' N' hnl hk₂ he₂
  iterate 5 walk1
  have Y₂ := cls_of (X'.keeps F₂.keep)
  refine exc_set Y₂ (N₂ _ (.head _)).1 fun h₃ dx tk₃ hk₃ he₃ => ?_
  obtain ⟨F₃, N₃⟩ := exc_keep (tl := []) F₂ N₂ hnl hk₃ he₃
  dsimp only
  walk1
  refine leaveK_ F₃ N₃ fun kF kN => ?_
  exact ⟨rfl, hret _ _ _ _ _ kF kN hnl⟩
end Mine

end
section
open PySem PySem.W PyProof.Rows PySem.Calls PySem.Spec
set_option Elab.async false
set_option maxRecDepth 100000
set_option maxHeartbeats 1000000
set_option pp.structureInstances false
set_option pp.maxSteps 30000
namespace Mine
open PySem.Sem (wp)
section
variable {M : Model} {A : Around} {E : Value → Shared → Prop} {s : Shared} {h : Heap}
theorem Cls.keeper (Y : Cls M h) : Looks M h (keeperOf (.ref 44)) .machine := by
  obtain ⟨k0, k1, k2, k3, k5, hC⟩ := Y.at_
  intro A Q E s k q
  obtain ⟨hp, g, d, t, os⟩ := s
  exact wpAny_keeperOf_exc (k _ _ hC) q
theorem raise_made {env : Env} {x : Sem Value} {Q : Flow → Shared → Prop} (hh : A.handled = none)
    (h : wpG M A x (fun v s₁ => ∃ e t d, v = .ref e ∧ Cls M s₁.heap ∧ s₁.heap.get? e = some (excObj t d) ∧ E (.ref e) s₁) E s) :
    wpG M A (raiseStmt env (some x) none) Q E s := by
  have hcB : (Value.ref 44 :: bm44).contains (.type "BaseException") = true := by decide
  unfold raiseStmt
  refine G_bind (G_mono h (fun v s₁ h₁ => G_any ?_) fun _ _ x => x)
  obtain ⟨e, t, dd, rfl, Y, he, hE⟩ := h₁
  obtain ⟨k0, k1, k2, k3, k5, hC⟩ := Y.at_
  obtain ⟨hp, g, d, tk, os⟩ := s₁
  have hcls : (excObj t dd).cls = .ref 44 := rfl
  have hdat : (excObj t dd).data = .fields #[.ref t, .none, .none, .none, .bool false, .none] := rfl
  repeat (first | (with_reducible refine wpAny_loadPart_at he ?_; rw [hcls]) | with_reducible refine wpAny_loadPart_at hC ?_ | (with_reducible refine wpAny_isSubtype_exc hC ?_; rw [hcB]) | wp_step)
  exact wpAny_raiseNew_none hh hE
theorem leave_newX {base g : Heap} {outer : List Env} {L a e : Addr} {m : Str → Option Value} {name : Str} {scope : Scope} {cd : Value} {cl : List (Str × Addr)} {news : List (Addr × Obj)} {t : Addr} {dd : Option Addr} {Q : Unit → Shared → Prop}
    (K : Below A base outer g) (F : Fr g L s.heap m) (N : News g L s.heap ((e, excObj t dd) :: news)) (hn : ∀ p ∈ news, p.1 ≠ e)
    (hQ : ∀ h', RaisedN base outer e (.ref 44) news h' → g.UpToSlots h' → Q () { s with heap := h' }) (hk : scope.kind = .function := by rfl) :
    wpAny M (A.deeper (envX name scope L a cd cl)) (leaving (envX name scope L a cd cl) (.ref e)) Q E s := by
  have K' := pushX K F (env := envX name scope L a cd cl) rfl hk
  have hin : ∀ env ∈ (envX name scope L a cd cl :: outer), ∀ b, env.frame = some b → b ∈ e :: (envX name scope L a cd cl :: outer).filterMap (·.frame) := fun env he b hb => .tail _ (List.mem_filterMap.mpr ⟨env, he, hb⟩)
  have De := N (e, excObj t dd) (.head _)
  have st : base.StaysIn (hideAll s.heap (e :: (envX name scope L a cd cl :: outer).filterMap (·.frame))) := fun b o q => hideAll_get _ (K'.stays b o q) fun hm => by
    rcases List.mem_cons.mp hm with rfl | hm
    · have := K.stays _ _ q; rw [De.2.2] at this; cases this
    · rw [(K'.frames.mem hm).1] at q; cases q
  have hl : ∀ q ∈ news, (hideAll s.heap (e :: (envX name scope L a cd cl :: outer).filterMap (·.frame))).get? q.1 = some q.2 ∧ base.get? q.1 = none := fun q hq => by
    have Nq := N q (.tail _ hq)
    refine ⟨hideAll_get _ Nq.1 fun hm => ?_, fresh_of_stays K.stays Nq.2.2⟩
    rcases List.mem_cons.mp hm with z | hm
    · exact hn q hq z
    · obtain ⟨env, he, hf⟩ := List.mem_filterMap.mp hm
      rcases List.mem_cons.mp he with rfl | he
      · exact Nq.2.1 (Option.some.inj hf).symm
      · obtain ⟨o, ho, _⟩ := (K.frames.mem (List.mem_filterMap.mpr ⟨env, he, hf⟩)).2
        rw [Nq.2.2] at ho; cases ho
  have hen : (hideAll s.heap (e :: (envX name scope L a cd cl :: outer).filterMap (·.frame))).get? e = none := hideAll_none _ (.head _)
  refine wpAny_leaving_firstW (a0 := .ref t) K'.stack (funFrames_hide K'.frames hin) rfl De.1 (fun b o hb => of_hideAll _ hb) hen rfl rfl rfl fun h' hL => ?_
  obtain ⟨k1, ⟨_, _, k2⟩, k3, k4⟩ := hL
  exact hQ h' ⟨_, .ref t, st, hl, k1, hen, k2, k3⟩ ((Heap.UpToSlots.of_keeps F.keep).trans k4)
theorem leave_onX {base g g₂ : Heap} {outer : List Env} {L a e : Addr} {m : Str → Option Value} {name : Str} {scope : Scope} {cd : Value} {cl : List (Str × Addr)} {news : List (Addr × Obj)} {Q : Unit → Shared → Prop} {cls : Value}
    (K : Below A base outer g) (F : Fr g L g₂ m) (R : RaisedN base (envX name scope L a cd cl :: outer) e cls news s.heap) (hsm : g₂.UpToSlots s.heap)
    (hQ : ∀ h', RaisedN base outer e cls news h' → g.UpToSlots h' → Q () { s with heap := h' }) :
    wpAny M (A.deeper (envX name scope L a cd cl)) (leaving (envX name scope L a cd cl) (.ref e)) Q E s := by
  obtain ⟨B, a0, hB, hl, hfl⟩ := R
  exact wpAny_leaves_onW (Around.frames_deeper K.stack) rfl hfl fun h' x1 x2 => hQ h' ⟨B, a0, hB, hl, x1⟩ ((Heap.UpToSlots.of_keeps F.keep).trans (hsm.trans x2))
end
section
variable {A : Around} {E : Value → Shared → Prop} {s : Shared} {w : World} {mean : ExcName → Option Value} {mg mb : Str → Option Value} {base g : Heap} {L a e : Addr} {m : Str → Option Value} {name : Str} {scope : Scope} {cd : Value} {cl : List (Str × Addr)} {envL : Env} {news : List (Addr × Obj)}
  {b₀ : Stmt} {suite : List Stmt} {np pos : Pos} {Q : Flow → Shared → Prop} {K : Frag}
theorem caught_X (Y : Cls (model PySem.Challenge.rw_nt0541_01.row.prog w) base) (hm : mg "CodeError" = some (.ref 44)) (T : base.Ns mainGlobals mg)
    (hfr : A.frames = some [envX name scope L a cd cl, envL]) (FG : Fr base envL.locals g m) (hLf : envL.frame = some envL.locals)
    (R : RaisedN base [envX name scope L a cd cl, envL] e (.ref 44) news s.heap) (hsm : g.UpToSlots s.heap)
    (k : ∀ h', Fr base envL.locals h' m → News base envL.locals h' news →
      wpAny (model PySem.Challenge.rw_nt0541_01.row.prog w) (A.mark (some (.ref e))) (execs (b₀ :: suite) (envX name scope L a cd cl)) Q (fun _ _ => False) { s with heap := h' })
    (hk : scope.kind = .function := by rfl) (hx : (envX name scope L a cd cl).kindOf "CodeError" = some .globalImplicit := by rfl) :
    wpAny (model PySem.Challenge.rw_nt0541_01.row.prog w) A (noteFrame (.ref e) (envX name scope L a cd cl))
      (fun _ s₂ => wpAny (model PySem.Challenge.rw_nt0541_01.row.prog w) A (setFlight (.ref e) none) (fun _ s₃ =>
        wpAny (model PySem.Challenge.rw_nt0541_01.row.prog w) A (handleBy (.ref e) (envX name scope L a cd cl) [.ExceptHandler (some (.Name (Str.ofString "CodeError") np)) none (b₀ :: suite) pos]) Q E s₃) E s₂) E s := by
  obtain ⟨B, a0, hB, hl, hfl⟩ := R
  have hL : B.get? envL.locals = none := by
    obtain ⟨_, _, _, ⟨L', _, hf, hn', _⟩, _⟩ := hfl.2.2.1
    obtain rfl : envL.locals = L' := Option.some.inj (hLf.symm.trans hf)
    exact hn'
  refine wpAny_looks_onW hfr rfl hfl fun h₄ hheld₄ hsm₄ => ?_
  refine wpAny_landsW hheld₄ fun h₅ hheld hsm₅' => ?_
  have hsm₅ := hsm₄.trans hsm₅'
  have hheld' := flyingW_base hB hheld
  obtain ⟨ob, hob, hobc⟩ := hheld'.there
  have Y₅ := Y.keeps (h' := h₅) hheld'.1
  obtain ⟨k0, k1, k2, k3, k5, hC⟩ := Y₅.at_
  refine wpAny_handleBy_cons (codeAny_handlers_test (Name_function_global hk hx (loadGlobal_global (env := envX name scope L a cd cl) (T.keeps hheld'.1) hm ?_) (by decide))) (by intro q; cases q)
  refine wpAny_excMatches_sub_self hC hob hobc (by decide) ?_
  refine codeAny_handlers_suite ?_
  refine lands_againW hheld fun h₆ hfl₆ hsm₆ => ?_
  have F₆ := FG.of_stays (flyingW_base hB hfl₆).1 ((hsm.trans hsm₅).trans hsm₆)
  exact wpAny_mono (k h₆ F₆ fun q hq => ⟨hfl₆.1 _ _ (hl q hq).1, (fun z => by have := (hl q hq).1; rw [z, hL] at this; cases this), (hl q hq).2⟩) (fun _ _ z => z) fun _ _ z => z.elim
end
end Mine

end
section
open PySem PySem.W PyProof.Rows PySem.Calls PySem.Spec
set_option Elab.async false
set_option maxRecDepth 100000
set_option maxHeartbeats 1000000
set_option pp.structureInstances false
set_option pp.maxSteps 30000
namespace Mine
open PySem.Sem (wp)
theorem cls_name {w : World} {h : Heap} {mg : Str → Option Value} (X : (Mine.hd.heap_39 w.params).In h) (G : h.Ns mainGlobals mg) (_p : PySem.Challenge.rw_nt0541_01.row.prog = PySem.Challenge.rw_nt0541_01.row.prog := by rfl) : mg (Str.ofString "CodeError") = some (.ref 44) := by
  revert _p X
  k_fill
  intro X _
  exact mg_of X G (by k_is)
theorem raise_spec {w : World} {p₀ : Program} {loose₀ : List Str} {mean : ExcName → Option Value} {mg mb : Str → Option Value} {dp un : Nat} {gd : Option (List Code)} {cn : Str} {cs : Scope} {a : Addr} {ccd : Value} {cl : List (Str × Addr)} {outer : List Env} {A₀ : Around} {base h₀ : Heap} {L : Addr} {m : Str → Option Value} {news : List (Addr × Obj)} {s : Shared} {Q : Flow → Shared → Prop} {E : Value → Shared → Prop} {np kp cp pos : Pos} {kt : Nat}
    (B : Below A₀ base outer h₀) (F : Fr h₀ L s.heap m) (X : (Mine.hd.heap_39 w.params).In h₀) (N : News h₀ L s.heap news) (T : Top p₀ loose₀ mean mg mb h₀) (hk : cs.kind = .function)
    (hx : (envX cn cs L a ccd cl).kindOf (Str.ofString "CodeError") = some .globalImplicit)
    (hd : dp + 3 < recursionLimit) (hu : un + 24 < cLine)
    (hret : ∀ e t d h' tk', Fr h₀ L h' m → News h₀ L h' ((e, excObj t (some d)) :: news) → (∀ p ∈ news, p.1 ≠ e) → E (.ref e) { s with heap := h', toks := tk' })
    (hst : starEach [.Constant (.str "a marker within the data") kt kp] (envX cn cs L a ccd cl) = [(false, eval (.Constant (.str "a marker within the data") kt kp) (envX cn cs L a ccd cl))] := by rfl)
    (hmc : eval (.Call (.Name (Str.ofString "CodeError") np) [.Constant (.str "a marker within the data") kt kp] [] cp) (envX cn cs L a ccd cl) = (do
      let f ← eval (.Name (Str.ofString "CodeError") np) (envX cn cs L a ccd cl)
      callWith cp f [] (backTo cp (starEach [.Constant (.str "a marker within the data") kt kp] (envX cn cs L a ccd cl))) []) := by rfl) :
    wpG (model PySem.Challenge.rw_nt0541_01.row.prog w) (ktrTop dp un gd cn cs L a ccd cl outer) (exec (.Raise (some (.Call (.Name (Str.ofString "CodeError") np) [.Constant (.str "a marker within the data") kt kp] [] cp)) none pos) (envX cn cs L a ccd cl)) Q E s := by
  have hmg : mg (Str.ofString "CodeError") = some (.ref 44) := cls_name (w := w) X T.g
  have Y := cls_of (X.keeps F.keep)
  rw [arm_exec_Raise]
  refine G_bind (G_standAt (raise_made rfl ?_))
  refine G_bind (G_mono (Q := fun v s₁ => ∃ e t d, v = .ref e ∧ Cls (model PySem.Challenge.rw_nt0541_01.row.prog w) s₁.heap ∧ s₁.heap.get? e = some (excObj t d) ∧ E (.ref e) s₁) (E := E) ?_ (fun v s₃ h₃ => G_bind (G_standAt (G_pure h₃))) fun _ _ x => x)
  refine G_NameCall (Name_function_global hk hx (loadGlobal_global (env := envX cn cs L a ccd cl) (T.g.keeps F.keep) hmg ?_) (by decide)) hmc
  rw [hst]
  refine G_callWith rfl (G_evalArgs1 (G_spliced_cons ?_))
  refine G_any ?_
  rw [if_neg Bool.false_ne_true]; walk1
  refine G_spliced_nil ⟨⟨.machine, .inr (.inl rfl), Y.keeper⟩, ?_⟩
  refine G_any ?_
  show wpAny _ _ (call (.ref 44) [.str _ _]) _ _ _
  refine code_error (s := { s with toks := s.toks + 1 }) B F X N T hk hd hu fun e t d h' tk' F' N' hn => ?_
  exact ⟨e, t, some d, rfl, cls_of (X.keeps F'.keep), (N' _ (.head _)).1, hret e t d h' tk' F' N' hn⟩
end Mine

end
section
open PySem PySem.W PyProof.Rows PySem.Calls
set_option Elab.async false
set_option maxRecDepth 100000
set_option maxHeartbeats 4000000
set_option pp.structureInstances false
set_option pp.maxSteps 30000
namespace Mine
open PySem.Sem (wp)
theorem stuff_spec {w : World} {p₀ : Program} {loose₀ : List Str} {mean : ExcName → Option Value} {mg mb : Str → Option Value} {dp un : Nat} {gd : Option (List Code)} {cn : Str} {cs : Scope} {a : Addr} {ccd : Value} {cl : List (Str × Addr)} {outer : List Env} {A₀ : Around} {base h₀ : Heap} {L : Addr} {m : Str → Option Value} {news : List (Addr × Obj)} {s : Shared} {Q E : Value → Shared → Prop}
    (B : Below A₀ base outer h₀) (F : Fr h₀ L s.heap m) (X : (Mine.hd.heap_39 w.params).In h₀) (N : News h₀ L s.heap news) (T : Top p₀ loose₀ mean mg mb h₀) (hk : cs.kind = .function)
    (hd : dp + 3 < recursionLimit) (hu : un + 24 < cLine) {l : List UInt8} {t : Tok} (hl : l.length ≤ 100000)
    (hret : ∀ t h' tk', Fr h₀ L h' m → News h₀ L h' news → Q (.bytes (stuffL l).toArray t) { s with heap := h', toks := tk' }) :
    wpG (model PySem.Challenge.rw_nt0541_01.row.prog w) (ktrTop dp un gd cn cs L a ccd cl outer) (call (.ref 60) [.bytes l.toArray t]) Q E s := by
  revert X
  k_fill
  intro X
  refine G_call ?_
  k_dflt (refine' codeG_def B F X N T ?kA ?kF ?kK ?k6 ?k7 ?k8 ?k9 ?kB ?_ ?c5 ?c2 ?c3 ?c4; (case kA => exact rfl); (case kF => exact rfl); (case kK => exact hk); (case k6 => k_is); (case k7 => k_is); (case k8 => ktr_room); (case k9 => exact BindsTo.of_eq (binds := [(Str.ofString "octets", Value.bytes l.toArray t)]) rfl); (case kB => exact locs rfl); (case c5 => decide); (case c2 => exact rfl); (case c3 => exact rfl); (case c4 => exact rfl))
  clear X B F N T
  intro g L' h₁ FG F' N' B' X' T'
  dsimp only
  refine G_cons (G_baNew F' N' (fun Q' hq => by walk1; exact hq) ?_)
  intro D h₂ tk₂ F₂ N₂ hD
  dsimp only
  refine G_cons (G_ForW (h₀ := g) rfl rfl (by passes_own) ?_)
  refine nameX_L F₂ (v := .bytes l.toArray t) rfl ?_
  refine GLoop_bytes (fun i m' nx => m' "found" = some (.ref D) ∧ nx = (D, baObj (stuffL (l.take i)).toArray) :: news) rfl F₂ N₂ ⟨rfl, rfl⟩ ?_ ?_
  · rintro i c tc m₁ nx h₃ tk₃ own I hc ⟨hm, rfl⟩ hne hown hI F₃ N₃
    have hDI : D ≠ I := hne (D, _) (.head _)
    have hoff : ∀ p ∈ news ++ own, p.1 ≠ D := fun p hp => by
      rcases List.mem_append.mp hp with hp | hp
      · exact Nat.ne_of_lt (hD p hp)
      · rw [hown p hp]; exact hDI.symm
    have hic : l[i]? = some c := by simpa using hc
    have hil : i < l.length := by
      rcases Nat.lt_or_ge i l.length with h | h
      · exact h
      · rw [List.getElem?_eq_none h] at hic; cases hic
    have htk : l.take (i + 1) = l.take i ++ [c] := by rw [List.take_add_one, hic]; rfl
    have hlen := stuffL_length (l.take i)
    rw [List.length_take] at hlen
    have hc256 := c.toNat_lt
    have hcc : ((c.toNat : Int)).toNat.toUInt8 = c := by simp
    have hm' : (fun y => if y = Str.ofString "octet" then some (Value.int (c.toNat : Int) tc) else m₁ y) "found" = some (.ref D) := by
      show (if _ = _ then _ else _) = _
      rw [if_neg (by decide)]; exact hm
    refine G_cons (G_baMethod ba_slot_append ba_type_append F₃ hm' N₃ (.head _) (G_any (nameX_L F₃ (v := .int (c.toNat : Int) tc) (if_pos rfl) ?_)))
    refine ba_append_N F₃ N₃ (Upd.head hoff) (by omega) (by omega) (by rw [List.size_toArray, sizeLine_eq]; omega) fun h₄ F₄ N₄ => ⟨nofun, ?_⟩
    dsimp only
    rw [hcc] at N₄
    refine G_cons (G_If (G_any ?_))
    iterate 5 walk1
    by_cases h255 : c = 255
    · subst h255
      rw [if_pos (by decide)]
      refine G_cons (G_baMethod ba_slot_append ba_type_append F₄ hm' N₄ (.head _) (G_any ?_))
      walk1
      refine ba_append_N F₄ N₄ (Upd.head hoff) (by decide) (by decide) (by simp only [Array.size_push, List.size_toArray]; rw [sizeLine_eq]; omega) fun h₅ F₅ N₅ => ⟨nofun, ?_⟩
      refine G_nil (G_nil ?_)
      have e : ((stuffL (l.take i)).toArray.push 255).push (0 : Int).toNat.toUInt8 = (stuffL (l.take (i + 1))).toArray := by
        rw [htk, stuffL_append, stuffL_255]; apply Array.toList_inj.mp; simp
      rw [e] at N₅
      exact ⟨_, _, _, _, rfl, F₅, N₅, fun p hp q => by
        rcases List.mem_cons.mp hp with rfl | hp
        · exact hDI (List.mem_singleton.mp q)
        · exact hne p (.tail _ hp) (List.mem_singleton.mp q), hm', rfl⟩
    · rw [if_neg (by
        intro h
        have h2 : (c.toNat : Int) = 255 := by simpa using h
        exact h255 (UInt8.toNat_inj.mp (by show c.toNat = 255; omega)))]
      refine G_nil (G_nil ?_)
      have e : (stuffL (l.take i)).toArray.push c = (stuffL (l.take (i + 1))).toArray := by
        rw [htk, stuffL_append, stuffL_one h255]; apply Array.toList_inj.mp; simp
      rw [e] at N₄
      exact ⟨_, _, _, _, rfl, F₄, N₄, fun p hp q => by
        rcases List.mem_cons.mp hp with rfl | hp
        · exact hDI (List.mem_singleton.mp q)
        · exact hne p (.tail _ hp) (List.mem_singleton.mp q), hm', rfl⟩
  · rintro h₃ tk₃ m' nx F₃ N₃ ⟨hm, rfl⟩
    dsimp only
    refine G_cons (G_Return (G_any ?_))
    have e : l.take l.toArray.size = l := by rw [List.size_toArray]; exact List.take_length
    rw [e] at N₃
    have hlen := stuffL_length l
    refine W_baReturn F₃ hm N₃ (.head _) (by rw [List.size_toArray, sizeLine_eq]; omega) (fun Q' hq => by walk1; exact hq) fun t' tk' => ?_
    dsimp only
    refine leaveK_ F₃ N₃ fun kF kN => ?_
    exact hret _ _ _ kF (news_sub kN fun p hp => .tail _ hp)
end Mine

end
section
open PySem PySem.W PyProof.Rows PySem.Calls PySem.Spec
set_option Elab.async false
set_option maxRecDepth 100000
set_option maxHeartbeats 4000000
set_option pp.structureInstances false
set_option pp.maxSteps 30000
namespace Mine
open PySem.Sem (wp)
local macro_rules | `(tactic| walk_at "eval Name") => `(tactic| refine nameX_L (by assumption) (by assumption) ?_)
theorem setx {m : Str → Option Value} {x y : Str} {v : Option Value} {r : Option Value} (hne : (y == x) = false) (h : m y = r) : (fun z => if z = x then v else m z) y = r := by
  show (if y = x then v else m y) = r
  rw [if_neg (by intro e; rw [e] at hne; simp at hne)]; exact h
theorem store_op {M : Model} {A : Around} {E : Value → Shared → Prop} {s : Shared} {h₀ : Heap} {L a : Addr} {m : Str → Option Value} {cn : Str} {cs : Scope} {ccd : Value} {cl : List (Str × Addr)} {x : Str} {v : Value} {Q : Unit → Shared → Prop} {news : List (Addr × Obj)}
    (F : Fr h₀ L s.heap m) (N : News h₀ L s.heap news)
    (h : ∀ h' m₂, Fr h₀ L h' m₂ → News h₀ L h' news → m₂ x = some v → (∀ y, (y == x) = false → m₂ y = m y) → Q () { s with heap := h', toks := s.toks + 1 })
    (hk : cs.kind = .function := by rfl) (hx : (envX cn cs L a ccd cl).kindOf x = some .local := by rfl) : wpAny M A (storeName (envX cn cs L a ccd cl) x v) Q E s :=
  storeX_L F N (fun h' F' N' => h h' _ F' N' (if_pos rfl) fun y hy => if_neg (by intro e; rw [e] at hy; simp at hy)) hk hx
theorem drop_at {l : List UInt8} {i : Nat} (h : i < l.length) : l.drop i = l.getD i 0 :: l.drop (i + 1) := by
  rw [List.drop_eq_getElem_cons h, List.getD_eq_getElem?_getD, List.getElem?_eq_getElem h]; rfl
theorem tn1 (i : Nat) : (((i : Nat) : Int) + 1).toNat = i + 1 := by omega
theorem tn2 (i : Nat) : (((i : Nat) : Int) + 2).toNat = i + 2 := by omega
theorem getD_of {l : List UInt8} {i : Nat} {c : UInt8} (h : l[i]? = some c) : l.getD i 0 = c := by
  rw [List.getD_eq_getElem?_getD, h]; rfl
theorem of_getD {l : List UInt8} {i : Nat} (h : i < l.length) : l[i]? = some (l.getD i 0) := by
  rw [List.getD_eq_getElem?_getD, List.getElem?_eq_getElem h]; rfl
theorem lt_of_some {l : List UInt8} {i : Nat} {c : UInt8} (h : l[i]? = some c) : i < l.length := by
  rcases Nat.lt_or_ge i l.length with h' | h'
  · exact h'
  · rw [List.getElem?_eq_none h'] at h; cases h
theorem nat255 {c : UInt8} (h : ((c.toNat : Nat) : Int) = 255) : c = 255 := UInt8.toNat_inj.mp (by show c.toNat = 255; omega)
theorem restart_spec {w : World} {p₀ : Program} {loose₀ : List Str} {mean : ExcName → Option Value} {mg mb : Str → Option Value} {dp un : Nat} {gd : Option (List Code)} {cn : Str} {cs : Scope} {a : Addr} {ccd : Value} {cl : List (Str × Addr)} {outer : List Env} {A₀ : Around} {base h₀ : Heap} {L : Addr} {m : Str → Option Value} {news : List (Addr × Obj)} {s : Shared} {Q E : Value → Shared → Prop}
    (B : Below A₀ base outer h₀) (F : Fr h₀ L s.heap m) (X : (Mine.hd.heap_39 w.params).In h₀) (N : News h₀ L s.heap news) (T : Top p₀ loose₀ mean mg mb h₀) (hk : cs.kind = .function)
    (hd : dp + 3 < recursionLimit) (hu : un + 24 < cLine) {c : Int} {t : Tok}
    (hret : ∀ h' tk', Fr h₀ L h' m → News h₀ L h' news → Q (.bool (decide (208 ≤ c ∧ c ≤ 215))) { s with heap := h', toks := tk' }) :
    wpG (model PySem.Challenge.rw_nt0541_01.row.prog w) (ktrTop dp un gd cn cs L a ccd cl outer) (call (.ref 53) [.int c t]) Q E s := by
  revert X
  k_fill
  intro X
  refine G_call ?_
  k_dflt (refine' codeG_def B F X N T ?kA ?kF ?kK ?k6 ?k7 ?k8 ?k9 ?kB ?_ ?c5 ?c2 ?c3 ?c4; (case kA => exact rfl); (case kF => exact rfl); (case kK => exact hk); (case k6 => k_is); (case k7 => k_is); (case k8 => ktr_room); (case k9 => exact BindsTo.of_eq (binds := [(Str.ofString "code", Value.int c t)]) rfl); (case kB => exact locs rfl); (case c5 => decide); (case c2 => exact rfl); (case c3 => exact rfl); (case c4 => exact rfl))
  clear X B F N T
  intro g L' h₁ FG F' N' B' X' T'
  dsimp only
  refine G_cons (G_any ?_)
  repeat walk1
  all_goals dsimp only
  all_goals refine leaveK_ (by assumption) (by assumption) fun kF kN => ?_
  · have e : decide (208 ≤ c ∧ c ≤ 215) = decide (c ≤ 208 + 7) := by rw [decide_eq_decide]; omega
    have z := fun tk' => hret _ tk' kF kN
    rw [e] at z; exact z _
  · have e : decide (208 ≤ c ∧ c ≤ 215) = decide (208 ≤ c) := by rw [decide_eq_decide]; omega
    have z := fun tk' => hret _ tk' kF kN
    rw [e] at z; exact z _
theorem fill_spec {w : World} {p₀ : Program} {loose₀ : List Str} {mean : ExcName → Option Value} {mg mb : Str → Option Value} {dp un : Nat} {gd : Option (List Code)} {cn : Str} {cs : Scope} {a : Addr} {ccd : Value} {cl : List (Str × Addr)} {outer : List Env} {A₀ : Around} {base h₀ : Heap} {L : Addr} {m : Str → Option Value} {news : List (Addr × Obj)} {s : Shared} {Q E : Value → Shared → Prop}
    (B : Below A₀ base outer h₀) (F : Fr h₀ L s.heap m) (X : (Mine.hd.heap_39 w.params).In h₀) (N : News h₀ L s.heap news) (T : Top p₀ loose₀ mean mg mb h₀) (hk : cs.kind = .function)
    (hd : dp + 3 < recursionLimit) (hu : un + 24 < cLine) {l : List UInt8} {t u : Tok} {p : Int} {i k : Nat} (hp : p = i) (hl : l.length ≤ 100000) (hi : i ≤ 100000) (h255 : ∀ j < k, l[i + 1 + j]? = some 255) (hend : l[i + 1 + k]? ≠ some 255)
    (hret : ∀ t' h' tk', Fr h₀ L h' m → News h₀ L h' news → Q (.int (i + k : Nat) t') { s with heap := h', toks := tk' }) :
    wpG (model PySem.Challenge.rw_nt0541_01.row.prog w) (ktrTop dp un gd cn cs L a ccd cl outer) (call (.ref 74) [.bytes l.toArray t, .int p u]) Q E s := by
  revert X
  k_fill
  intro X
  refine G_call ?_
  k_dflt (refine' codeG_def B F X N T ?kA ?kF ?kK ?k6 ?k7 ?k8 ?k9 ?kB ?_ ?c5 ?c2 ?c3 ?c4; (case kA => exact rfl); (case kF => exact rfl); (case kK => exact hk); (case k6 => k_is); (case k7 => k_is); (case k8 => ktr_room); (case k9 => exact BindsTo.of_eq (binds := [(Str.ofString "data", Value.bytes l.toArray t), (Str.ofString "at", Value.int p u)]) rfl); (case kB => exact locs rfl); (case c5 => decide); (case c2 => exact rfl); (case c3 => exact rfl); (case c4 => exact rfl))
  clear X B F N T
  intro g L' h₁ FG F' N' B' X' T'
  dsimp only
  have hlen : l.toArray.size = l.length := by simp
  refine G_cons (G_While (by passes_own) (fun n s' => ∃ h' tk j m' t', s' = { s with heap := h', toks := tk } ∧ Fr g L' h' m' ∧ News g L' h' news ∧ m' "at" = some (.int (i + j : Nat) t') ∧ m' "data" = some (.bytes l.toArray t) ∧ j ≤ k ∧ n = k - j) ?_ k ?_)
  · rintro n s' ⟨h', tk, j, m', t', rfl, F₁, N₁, hat, hda, hj, rfl⟩
    have e1 : (((i + j : Nat) : Int) + 1).toNat = i + 1 + j := by omega
    refine G_any ?_
    dsimp only
    repeat walk1
    all_goals (try rw [if_neg Bool.false_ne_true])
    all_goals (try rw [e1] at *)
    · refine G_cons (G_Assign (G_any ?_))
      iterate 4 walk1
      refine storeX_L F₁ N₁ fun h₂ F₂ N₂ => ?_
      refine G_nil ?_
      dsimp only
      have hlt : j < k := by
        rcases Nat.lt_or_ge j k with q | q
        · exact q
        · exfalso
          have q2 : l.getD (i + 1 + j) 0 = 255 := nat255 (by assumption)
          obtain rfl : j = k := by omega
          exact hend (by rw [of_getD (by omega), q2])
      exact ⟨k - (j + 1), by omega, h₂, _, j + 1, _, _, rfl, F₂, N₂, if_pos rfl, setx (by decide) hda, by omega, rfl⟩
    all_goals (
      have hjk : j = k := by
        rcases Nat.lt_or_ge j k with q | q
        · exfalso
          have h1 := h255 j q
          have h2 := lt_of_some h1
          have h3 := getD_of h1
          first
            | omega
            | (rename_i hneq; exact hneq (by rw [h3]; rfl))
        · omega
      subst hjk
      dsimp only
      refine G_cons (G_any ?_)
      walk1
      walk1
      dsimp only
      refine leaveK_ F₁ N₁ fun kF kN => ?_
      exact hret _ _ _ kF kN)
  · exact ⟨_, _, 0, _, u, rfl, F', N', by subst hp; rfl, rfl, Nat.zero_le _, rfl⟩
end Mine

end
section
open PySem PySem.W PyProof.Rows PySem.Calls PySem.Spec
set_option Elab.async false
set_option maxRecDepth 100000
set_option maxHeartbeats 4000000
set_option pp.structureInstances false
set_option pp.maxSteps 30000
namespace Mine
open PySem.Sem (wp)
local macro_rules | `(tactic| walk_at "eval Name") => `(tactic| refine nameX_L (by assumption) (by assumption) ?_)
local macro_rules | `(tactic| walk_at "subscriptTail") => `(tactic| ((with_reducible show wpAny _ _ (subscriptTail _ _ (Value.bytes (List.toArray _) _) (Value.int _ _)) _ _ _); (refine KBy.item_N (by omega) (by omega) (by omega) ?_)))
theorem unstuff_spec {w : World} {p₀ : Program} {loose₀ : List Str} {mean : ExcName → Option Value} {mg mb : Str → Option Value} {dp un : Nat} {gd : Option (List Code)} {cn : Str} {cs : Scope} {a : Addr} {ccd : Value} {cl : List (Str × Addr)} {outer : List Env} {A₀ : Around} {base h₀ : Heap} {L : Addr} {m : Str → Option Value} {news : List (Addr × Obj)} {s : Shared} {Q E : Value → Shared → Prop}
    (B : Below A₀ base outer h₀) (F : Fr h₀ L s.heap m) (X : (Mine.hd.heap_39 w.params).In h₀) (N : News h₀ L s.heap news) (T : Top p₀ loose₀ mean mg mb h₀) (hk : cs.kind = .function)
    (hd : dp + 8 < recursionLimit) (hu : un + 40 < cLine) {l : List UInt8} {t : Tok} (hl : l.length ≤ 100000)
    (hret : ∀ o, unstuffL l = some o → ∀ t h' tk', Fr h₀ L h' m → News h₀ L h' news → Q (.bytes o.toArray t) { s with heap := h', toks := tk' })
    (hrai : unstuffL l = none → ∀ e g h' tk', Fr h₀ L g m → RaisedN base (envX cn cs L a ccd cl :: outer) e (.ref 44) news h' → g.UpToSlots h' → E (.ref e) { s with heap := h', toks := tk' }) :
    wpG (model PySem.Challenge.rw_nt0541_01.row.prog w) (ktrTop dp un gd cn cs L a ccd cl outer) (call (.ref 67) [.bytes l.toArray t]) Q E s := by
  revert X
  k_fill
  intro X
  refine G_call ?_
  k_dflt (refine' codeG_def B F X N T ?kA ?kF ?kK ?k6 ?k7 ?k8 ?k9 ?kB ?_ ?c5 ?c2 ?c3 ?c4; (case kA => exact rfl); (case kF => exact rfl); (case kK => exact hk); (case k6 => k_is); (case k7 => k_is); (case k8 => ktr_room); (case k9 => exact BindsTo.of_eq (binds := [(Str.ofString "octets", Value.bytes l.toArray t)]) rfl); (case kB => exact locs rfl); (case c5 => decide); (case c2 => exact rfl); (case c3 => exact rfl); (case c4 => exact rfl))
  clear X B F N T
  intro g L' h₁ FG F' N' B' X' T'
  dsimp only
  have hlen : l.toArray.size = l.length := by simp
  refine G_cons (G_baNew F' N' (fun Q' hq => by walk1; exact hq) ?_)
  intro D h₂ tk₂ F₂ N₂ hD
  dsimp only
  refine G_cons (G_Assign (G_any ?_))
  walk1
  refine storeX_L (s := { s with heap := h₂, toks := tk₂ + 1 }) F₂ N₂ fun h₃ F₃ N₃ => ?_
  dsimp only
  refine G_cons (G_While (by passes_own) (fun n s' => ∃ h' tk i m' t' p, s' = { s with heap := h', toks := tk } ∧ Fr g L' h' m' ∧ News g L' h' ((D, baObj p.toArray) :: news) ∧ m' "at" = some (.int (i : Nat) t') ∧ m' "octets" = some (.bytes l.toArray t) ∧ m' "found" = some (.ref D) ∧
      unstuffL l = (unstuffL (l.drop i)).map (p ++ ·) ∧ p.length ≤ i ∧ i ≤ l.length ∧ n = l.length - i) ?_ l.length ?_)
  · rintro n s' ⟨h', tk, i, m', t', p, rfl, F₁, N₁, hat, hoc, hfo, hun, hpl, hil, rfl⟩
    have e0 : ((i : Nat) : Int).toNat = i := by omega
    have e1 : (((i : Nat) : Int) + 1).toNat = i + 1 := by omega
    refine G_any ?_
    dsimp only
    repeat' walk1
    all_goals (try rw [if_neg Bool.false_ne_true])
    · have hdr := drop_at (l := l) (i := i) (by omega)
      generalize hc : l.getD i 0 = c at hdr
      have hc256 := c.toNat_lt
      have hoff : ∀ p ∈ news, p.1 ≠ D := fun p hp => Nat.ne_of_lt (hD p hp)
      refine G_cons (G_baMethod ba_slot_append ba_type_append F₁ hfo N₁ (.head _) (G_any ?_))
      repeat' walk1
      rw [e0, hc]
      refine ba_append_N F₁ N₁ (Upd.head hoff) (by omega) (by omega) (by rw [List.size_toArray, sizeLine_eq]; omega) fun h₄ F₄ N₄ => ⟨nofun, ?_⟩
      have hcc : ((c.toNat : Int)).toNat.toUInt8 = c := by simp
      rw [hcc] at N₄
      have hpc : p.toArray.push c = (p ++ [c]).toArray := by simp
      rw [hpc] at N₄
      dsimp only
      refine G_cons (G_If (G_any ?_))
      repeat' walk1
      all_goals (try rw [e0, hc] at *)
      all_goals (try rw [if_neg Bool.false_ne_true])
      · have hc' : c = 255 := nat255 (by assumption)
        subst hc'
        refine G_cons (G_Assign (G_any ?_))
        iterate 4 walk1
        refine store_op F₄ N₄ fun h₅ m₅ F₅ N₅ hat₅ hot₅ => ?_
        have hoc₅ := (hot₅ "octets" (by decide)).trans hoc
        have hfo₅ := (hot₅ "found" (by decide)).trans hfo
        dsimp only
        refine G_cons (G_If (G_any ?_))
        repeat' walk1
        all_goals (try rw [tn1] at *)
        all_goals (try rw [if_neg Bool.false_ne_true])
        · refine G_cons (raise_spec B' F₅ X' N₅ T' rfl rfl (by show dp + 1 + 3 < _; omega) (by show un + 3 + 24 < _; omega) fun e t d h₆ tk₆ F₆ N₆ hne => ?_)
          have N₇ : News g L' h₆ ((e, excObj t (some d)) :: news) := news_sub N₆ fun q hq => (List.mem_cons.mp hq).elim (fun z => z ▸ .head _) fun z => .tail _ (.tail _ z)
          dsimp only
          refine leave_newX (s := ⟨h₆, _, _, _, _⟩) B' F₆ N₇ (fun q hq => hne q (.tail _ hq)) fun h₇ R U => ?_
          refine hrai ?_ _ _ _ _ FG R U
          rw [hun, hdr, List.drop_eq_nil_of_le (by omega), unstuffL_end]; rfl
        · refine G_cons (raise_spec B' F₅ X' N₅ T' rfl rfl (by show dp + 1 + 3 < _; omega) (by show un + 3 + 24 < _; omega) fun e t d h₆ tk₆ F₆ N₆ hne => ?_)
          have N₇ : News g L' h₆ ((e, excObj t (some d)) :: news) := news_sub N₆ fun q hq => (List.mem_cons.mp hq).elim (fun z => z ▸ .head _) fun z => .tail _ (.tail _ z)
          dsimp only
          refine leave_newX (s := ⟨h₆, _, _, _, _⟩) B' F₆ N₇ (fun q hq => hne q (.tail _ hq)) fun h₇ R U => ?_
          refine hrai ?_ _ _ _ _ FG R U
          have hd0 : l.getD (i + 1) 0 ≠ 0 := fun e => by simp_all
          rw [hun, hdr, drop_at (by omega), unstuffL_mark hd0]; rfl
        · have hd0 : l.getD (i + 1) 0 = 0 := UInt8.toNat_inj.mp (by show (l.getD (i + 1) 0).toNat = 0; omega)
          refine G_nil ?_
          dsimp only
          refine G_nil ?_
          dsimp only
          refine G_cons (G_Assign (G_any ?_))
          iterate 4 walk1
          refine store_op F₅ N₅ fun h₆ m₆ F₆ N₆ hat₆ hot₆ => ?_
          refine G_nil ?_
          dsimp only
          have e2 : ((i : Int) + 1 + 1) = ((i + 2 : Nat) : Int) := by omega
          rw [e2] at hat₆
          exact ⟨l.length - (i + 2), by omega, h₆, _, i + 2, m₆, _, p ++ [255], rfl, F₆, N₆, hat₆, (hot₆ "octets" (by decide)).trans hoc₅, (hot₆ "found" (by decide)).trans hfo₅,
            by rw [hun, hdr, drop_at (by omega), hd0, unstuffL_zero, Option.map_map]; congr 1; funext x; simp, by simp; omega, by omega, rfl⟩
      · refine G_nil ?_
        dsimp only
        refine G_cons (G_Assign (G_any ?_))
        iterate 4 walk1
        refine store_op F₄ N₄ fun h₅ m₅ F₅ N₅ hat₅ hot₅ => ?_
        refine G_nil ?_
        dsimp only
        have hc' : c ≠ 255 := fun e => by subst e; simp at *
        exact ⟨l.length - (i + 1), by omega, h₅, _, i + 1, m₅, _, p ++ [c], rfl, F₅, N₅, hat₅, (hot₅ "octets" (by decide)).trans hoc, (hot₅ "found" (by decide)).trans hfo,
          by rw [hun, hdr, unstuffL_plain hc', Option.map_map]; congr 1; funext x; simp, by simp; omega, by omega, rfl⟩
    · refine G_cons (G_Return (G_any ?_))
      have hil' : i = l.length := by omega
      subst hil'
      have hp : unstuffL l = some p := by rw [hun, List.drop_length]; simp [unstuffL]
      refine W_baReturn F₁ hfo N₁ (.head _) (by rw [List.size_toArray, sizeLine_eq]; omega) (fun Q' hq => by walk1; exact hq) fun t' tk' => ?_
      dsimp only
      refine leaveK_ F₁ N₁ fun kF kN => ?_
      exact hret p hp _ _ _ kF (news_sub kN fun p hp => .tail _ hp)
  · exact ⟨_, _, 0, _, _, [], rfl, F₃, N₃, if_pos rfl, (if_neg (by decide)).trans ((if_neg (by decide)).trans rfl), (if_neg (by decide)).trans (if_pos rfl), by simp, Nat.le_refl _, Nat.zero_le _, rfl⟩
end Mine

end
section
open PySem PySem.W PyProof.Rows PySem.Calls PySem.Spec
set_option Elab.async false
set_option maxRecDepth 100000
namespace Mine
open PySem.Sem (wp)
section
variable {prog : Program} {w : World} {A : Around} {E : Value → Shared → Prop} {s : Shared} {h₀ : Heap} {L a D : Addr} {m mg : Str → Option Value} {news : List (Addr × Obj)} {cn : Str} {cs : Scope} {ccd : Value} {cl : List (Str × Addr)} {x : Str}
theorem G_liAppend {its : Array Value} {n : Nat} {np ap cp pos : Pos} {e : Expr} {Q : Flow → Shared → Prop}
    (F : Fr h₀ L s.heap m) (hm : m x = some (.ref D)) (N : News h₀ L s.heap news) (hmem : (D, listOf its n) ∈ news)
    (h : wpG (model prog w) A (eval e (envX cn cs L a ccd cl)) (fun v s₁ => wpAny (model prog w) A (call (.builtin "list.append") [.ref D, v]) (fun v s' => (∀ a, v ≠ .ref a) ∧ Q .next s') E s₁) E s)
    (hk : cs.kind = .function := by rfl) (hx : (envX cn cs L a ccd cl).kindOf x = some .local := by rfl) (hd : (x == ("__debug__" : Str)) = false := by decide)
    (he : starEach [e] (envX cn cs L a ccd cl) = [(false, eval e (envX cn cs L a ccd cl))] := by rfl)
    (hmc : eval (.Call (.Attribute (.Name x np) (Str.ofString "append") ap) [e] [] cp) (envX cn cs L a ccd cl) = (do
      let ov ← eval (.Name x np) (envX cn cs L a ccd cl)
      standAt ap.atName
      let (f, first) ← holding [ov] (getMethod ov (Str.ofString "append") (do return (← importBound (.Name x np) (envX cn cs L a ccd cl)).getD true))
      callWith cp f first (backTo cp (starEach [e] (envX cn cs L a ccd cl))) []) := by rfl)
    (hi : interactive (envX cn cs L a ccd cl) = false := by rfl) (hs : swapsWith (.Call (.Attribute (.Name x np) (Str.ofString "append") ap) [e] [] cp) none pos.line (envX cn cs L a ccd cl) = pure false := by rfl) :
    wpG (model prog w) A (exec (.Expr (.Call (.Attribute (.Name x np) (Str.ofString "append") ap) [e] [] cp) pos) (envX cn cs L a ccd cl)) Q E s := by
  refine G_Expr (G_MethodCall ?_ hmc) hi hs
  refine nameX_L F hm ?_ hk hx hd
  refine listMethod_K N hmem PySem.F.slot_list_append PySem.F.type_list_append ?_
  rw [he]
  refine G_callWith rfl (G_evalArgs1 (G_spliced_cons (G_mono h (fun v s₁ h₁ => ?_) fun _ _ z => z)))
  exact G_spliced_nil ⟨⟨.machine, .inr (.inl rfl), Looks.of_pure rfl⟩, G_any h₁⟩
/-- a def of the module called with one value -/
theorem G_fn1 {np cp : Pos} {e : Expr} {f : Addr} {Q : Value → Shared → Prop} (F : Fr h₀ L s.heap m) (G : h₀.Ns mainGlobals mg) (hm : mg x = some (.ref f))
    (Kp : ∃ k, (k = Keeper.frame ∨ k = Keeper.machine ∨ k = Keeper.boundFrame) ∧ Looks (model prog w) h₀ (keeperOf (.ref f)) k)
    (h : wpG (model prog w) A (eval e (envX cn cs L a ccd cl)) (fun v s₁ => (∀ b o, h₀.get? b = some o → s₁.heap.get? b = some o) ∧ wpG (model prog w) A (call (.ref f) [v]) Q E s₁) E s)
    (hk : cs.kind = .function := by rfl) (hx : (envX cn cs L a ccd cl).kindOf x = some .globalImplicit := by rfl) (hd : (x == ("__debug__" : Str)) = false := by decide)
    (hst : starEach [e] (envX cn cs L a ccd cl) = [(false, eval e (envX cn cs L a ccd cl))] := by rfl)
    (hmc : eval (.Call (.Name x np) [e] [] cp) (envX cn cs L a ccd cl) = (do
      let f ← eval (.Name x np) (envX cn cs L a ccd cl)
      callWith cp f [] (backTo cp (starEach [e] (envX cn cs L a ccd cl))) []) := by rfl) :
    wpG (model prog w) A (eval (.Call (.Name x np) [e] [] cp) (envX cn cs L a ccd cl)) Q E s := by
  refine G_NameCall (Name_function_global hk hx (loadGlobal_global (env := envX cn cs L a ccd cl) (G.keeps F.keep) hm ?_) hd) hmc
  rw [hst]
  refine G_callWith rfl (G_evalArgs1 (G_spliced_cons (G_mono h (fun v s₁ h₁ => ?_) fun _ _ z => z)))
  obtain ⟨k, hk, Lk⟩ := Kp
  exact G_spliced_nil ⟨⟨k, hk, Lk.keeps h₁.1⟩, h₁.2⟩
/-- with two values -/
theorem G_fn2 {np cp : Pos} {e e' : Expr} {f : Addr} {Q : Value → Shared → Prop} (F : Fr h₀ L s.heap m) (G : h₀.Ns mainGlobals mg) (hm : mg x = some (.ref f))
    (Kp : ∃ k, (k = Keeper.frame ∨ k = Keeper.machine ∨ k = Keeper.boundFrame) ∧ Looks (model prog w) h₀ (keeperOf (.ref f)) k)
    (h : wpG (model prog w) A (eval e (envX cn cs L a ccd cl)) (fun v s₁ => wpG (model prog w) A (eval e' (envX cn cs L a ccd cl)) (fun v' s₂ => (∀ b o, h₀.get? b = some o → s₂.heap.get? b = some o) ∧ wpG (model prog w) A (call (.ref f) [v, v']) Q E s₂) E s₁) E s)
    (hk : cs.kind = .function := by rfl) (hx : (envX cn cs L a ccd cl).kindOf x = some .globalImplicit := by rfl) (hd : (x == ("__debug__" : Str)) = false := by decide)
    (hst : starEach [e, e'] (envX cn cs L a ccd cl) = [(false, eval e (envX cn cs L a ccd cl)), (false, eval e' (envX cn cs L a ccd cl))] := by rfl)
    (hmc : eval (.Call (.Name x np) [e, e'] [] cp) (envX cn cs L a ccd cl) = (do
      let f ← eval (.Name x np) (envX cn cs L a ccd cl)
      callWith cp f [] (backTo cp (starEach [e, e'] (envX cn cs L a ccd cl))) []) := by rfl) :
    wpG (model prog w) A (eval (.Call (.Name x np) [e, e'] [] cp) (envX cn cs L a ccd cl)) Q E s := by
  refine G_NameCall (Name_function_global hk hx (loadGlobal_global (env := envX cn cs L a ccd cl) (G.keeps F.keep) hm ?_) hd) hmc
  rw [hst]
  refine G_callWith rfl (G_evalArgs1 (G_spliced_cons (G_mono h (fun v s₁ h₁ => ?_) fun _ _ z => z)))
  refine G_spliced_cons (G_mono h₁ (fun v' s₂ h₂ => ?_) fun _ _ z => z)
  obtain ⟨k, hk, Lk⟩ := Kp
  exact G_spliced_nil ⟨⟨k, hk, Lk.keeps h₂.1⟩, h₂.2⟩
theorem slice_L {value slice : Expr} {l : List UInt8} {t : Tok} {lv uv : Value} {lo hi : Option Int} {Q : Value → Shared → Prop} (hF : Fr h₀ L s.heap m) (hN : News h₀ L s.heap news) (hl : IsPart lv lo) (hu : IsPart uv hi) (hz : l.length ≤ 16777216)
    (h : ∀ h' t' k, Fr h₀ L h' m → News h₀ L h' news → Q (.bytes ((l.drop (lo.elim 0 (clipAt l.length))).take (hi.elim l.length (clipAt l.length) - lo.elim 0 (clipAt l.length))).toArray t') { s with heap := h', toks := k })
    (hs : subscripted slice false (.bytes l.toArray t) (.ref s.heap.objs.size) = operate [.ref s.heap.objs.size, .bytes l.toArray t] (getItem (.bytes l.toArray t) (.ref s.heap.objs.size)) := by with_unfolding_all rfl)
    (ht : ∀ r, letTemporaryGo value (.bytes l.toArray t) r = pure () := by intro _; with_unfolding_all rfl) :
    wpAny (model prog w) A (subscriptTail value slice (.bytes l.toArray t) (.ref s.heap.objs.size)) Q E { s with heap := s.heap.push { cls := .type "slice", data := .fields #[lv, uv, .none] } } := by
  refine KBc.slice_K hF hN rfl hl hu (by rw [KBw.ints_length, List.size_toArray]; exact hz) (fun h' t' k F' N' _ => ?_) hs ht
  have e := KBc.picked_eq l.toArray lo hi
  rw [List.size_toArray] at e
  rw [e]
  exact h h' t' k F' N'
end
end Mine

end
section
open PySem PySem.W PyProof.Rows PySem.Calls PySem.Spec
set_option Elab.async false
set_option maxRecDepth 100000
set_option maxHeartbeats 4000000
set_option pp.structureInstances false
set_option pp.maxSteps 30000
namespace Mine
open PySem.Sem (wp)
local macro_rules | `(tactic| walk_at "eval Name") => `(tactic| refine nameX_L (by assumption) (by assumption) ?_)
local macro_rules | `(tactic| walk_at "subscriptTail") => `(tactic| ((with_reducible show wpAny _ _ (subscriptTail _ _ (Value.bytes (List.toArray _) _) (Value.int _ _)) _ _ _); (refine KBy.item_N (by omega) (by omega) (by omega) ?_)))
inductive BytesAre : List Value → List (List UInt8) → Prop
  | nil : BytesAre [] []
  | cons {vs ls} (l : List UInt8) (t : Tok) : BytesAre vs ls → BytesAre (.bytes l.toArray t :: vs) (l :: ls)
theorem BytesAre.snoc {vs : List Value} {ls : List (List UInt8)} (h : BytesAre vs ls) (l : List UInt8) (t : Tok) : BytesAre (vs ++ [.bytes l.toArray t]) (ls ++ [l]) := by
  induction h with
  | nil => exact .cons l t .nil
  | cons l' t' _ ih => exact .cons l' t' ih
theorem BytesAre.length {vs : List Value} {ls : List (List UInt8)} (h : BytesAre vs ls) : vs.length = ls.length := by
  induction h with
  | nil => rfl
  | cons l' t' _ ih => simp [ih]
theorem run_spec (l : List UInt8) (i : Nat) : ∃ k, (∀ j < k, l[i + j]? = some 255) ∧ l[i + k]? ≠ some 255 ∧ (l.drop i).dropWhile (· == 255) = l.drop (i + k) ∧ i + k ≤ max i l.length := by
  generalize hn : l.length - i = n
  induction n generalizing i with
  | zero =>
    refine ⟨0, fun j h => absurd h (Nat.not_lt_zero _), ?_, ?_, Nat.le_max_left _ _⟩
    · rw [Nat.add_zero, List.getElem?_eq_none (by omega)]; nofun
    · rw [Nat.add_zero, List.drop_eq_nil_of_le (by omega)]; rfl
  | succ n ih =>
    have hi : i < l.length := by omega
    by_cases hc : l.getD i 0 = 255
    · obtain ⟨k, h1, h2, h3, h4⟩ := ih (i + 1) (by omega)
      refine ⟨k + 1, fun j hj => ?_, ?_, ?_, by omega⟩
      · cases j with
        | zero => rw [Nat.add_zero, of_getD hi, hc]
        | succ j => rw [show i + (j + 1) = i + 1 + j by omega]; exact h1 j (by omega)
      · rw [show i + (k + 1) = i + 1 + k by omega]; exact h2
      · rw [drop_at hi, hc, show i + (k + 1) = i + 1 + k by omega, ← h3]; rfl
    · refine ⟨0, fun j h => absurd h (Nat.not_lt_zero _), ?_, ?_, by omega⟩
      · rw [Nat.add_zero, of_getD hi]; exact fun e => hc (Option.some.inj e)
      · rw [Nat.add_zero, drop_at hi, List.dropWhile_cons, if_neg (by simpa using hc)]
def afterRun (x : List UInt8) : List UInt8 → Option (List (List UInt8) × List Int)
  | [] => none
  | m :: q => if 208 ≤ m.toNat ∧ m.toNat ≤ 215 then (scan [] q).map fun p => (x :: p.1, ((m.toNat : Int) - 208) :: p.2) else none
theorem afterRun_cons (x : List UInt8) (m : UInt8) (q : List UInt8) : afterRun x (m :: q) = if 208 ≤ m.toNat ∧ m.toNat ≤ 215 then (scan [] q).map fun p => (x :: p.1, ((m.toNat : Int) - 208) :: p.2) else none := rfl
theorem scan_run {d : UInt8} (h : d ≠ 0) (x r : List UInt8) : scan x (255 :: d :: r) = afterRun x ((d :: r).dropWhile (· == 255)) := by
  rw [scan_mark h]
  cases (d :: r).dropWhile (· == 255) <;> rfl
theorem ints_snoc {vs : List Value} {ns : List Int} (h : IntsAre vs ns) (n : Int) (t : Tok) : IntsAre (vs ++ [.int n t]) (ns ++ [n]) := by
  induction h with
  | nil => exact .cons n t .nil
  | cons k t' _ ih => exact .cons k t' ih
theorem split_spec {w : World} {p₀ : Program} {loose₀ : List Str} {mean : ExcName → Option Value} {mg mb : Str → Option Value} {dp un : Nat} {gd : Option (List Code)} {cn : Str} {cs : Scope} {a : Addr} {ccd : Value} {cl : List (Str × Addr)} {outer : List Env} {A₀ : Around} {base h₀ : Heap} {L : Addr} {m : Str → Option Value} {news : List (Addr × Obj)} {s : Shared} {Q E : Value → Shared → Prop}
    (B : Below A₀ base outer h₀) (F : Fr h₀ L s.heap m) (X : (Mine.hd.heap_39 w.params).In h₀) (N : News h₀ L s.heap news) (T : Top p₀ loose₀ mean mg mb h₀) (hk : cs.kind = .function)
    (hd : dp + 12 < recursionLimit) (hu : un + 60 < cLine) {l : List UInt8} {t : Tok} (hl : l.length ≤ 100000)
    (hret : ∀ ivs nums, scan [] l = some (ivs, nums) → ∀ vs us n n' I J T h' tk', BytesAre vs ivs → IntsAre us nums → Fr h₀ L h' m → News h₀ L h' ((T, tupObj [.ref I, .ref J]) :: (J, listOf us.toArray n') :: (I, listOf vs.toArray n) :: news) → (∀ p ∈ news, p.1 < I) → I < J → J < T → Q (.ref T) { s with heap := h', toks := tk' })
    (hrai : scan [] l = none → ∀ e g h' tk', Fr h₀ L g m → RaisedN base (envX cn cs L a ccd cl :: outer) e (.ref 44) news h' → g.UpToSlots h' → E (.ref e) { s with heap := h', toks := tk' }) :
    wpG (model PySem.Challenge.rw_nt0541_01.row.prog w) (ktrTop dp un gd cn cs L a ccd cl outer) (call (.ref 81) [.bytes l.toArray t]) Q E s := by
  revert X
  k_fill
  intro X
  refine G_call ?_
  k_dflt (refine' codeG_def B F X N T ?kA ?kF ?kK ?k6 ?k7 ?k8 ?k9 ?kB ?_ ?c5 ?c2 ?c3 ?c4; (case kA => exact rfl); (case kF => exact rfl); (case kK => exact hk); (case k6 => k_is); (case k7 => k_is); (case k8 => ktr_room); (case k9 => exact BindsTo.of_eq (binds := [(Str.ofString "data", Value.bytes l.toArray t)]) rfl); (case kB => exact locs rfl); (case c5 => decide); (case c2 => exact rfl); (case c3 => exact rfl); (case c4 => exact rfl))
  clear X B F N T
  intro g L' h₁ FG F' N' B' X' T'
  dsimp only
  have hlen : l.toArray.size = l.length := by simp
  have hm67 : mg (Str.ofString "unstuff") = some (.ref 67) := mg_of X' T'.g (by k_is)
  have hm74 : mg (Str.ofString "behind_fill") = some (.ref 74) := mg_of X' T'.g (by k_is)
  have hm53 : mg (Str.ofString "is_restart") = some (.ref 53) := mg_of X' T'.g (by k_is)
  have k67 := keeps_K (M := model PySem.Challenge.rw_nt0541_01.row.prog w) (K := Mine.hd.heap_39 w.params) (f := .ref 67) (by k_is) g X'
  have k74 := keeps_K (M := model PySem.Challenge.rw_nt0541_01.row.prog w) (K := Mine.hd.heap_39 w.params) (f := .ref 74) (by k_is) g X'
  have k53 := keeps_K (M := model PySem.Challenge.rw_nt0541_01.row.prog w) (K := Mine.hd.heap_39 w.params) (f := .ref 53) (by k_is) g X'
  refine G_cons (G_Assign (G_any ?_))
  walk1
  walk1
  refine newList_K F' N' (fun I h₂ F₂ N₂ hI => ?_)
  refine store_op (s := ⟨h₂, _, _, _, _⟩) F₂ N₂ fun h₃ m₃ F₃ N₃ hv₃ ho₃ => ?_
  dsimp only
  refine G_cons (G_Assign (G_any ?_))
  walk1
  walk1
  refine newList_K (s := ⟨h₃, _, _, _, _⟩) F₃ N₃ (fun J h₄ F₄ N₄ hJ => ?_)
  refine store_op (s := ⟨h₄, _, _, _, _⟩) F₄ N₄ fun h₅ m₅ F₅ N₅ hv₅ ho₅ => ?_
  dsimp only
  refine G_cons (G_Assign (G_any ?_))
  walk1
  refine store_op (s := ⟨h₅, _, _, _, _⟩) F₅ N₅ fun h₆ m₆ F₆ N₆ hv₆ ho₆ => ?_
  dsimp only
  refine G_cons (G_Assign (G_any ?_))
  walk1
  refine store_op (s := ⟨h₆, _, _, _, _⟩) F₆ N₆ fun h₇ m₇ F₇ N₇ hv₇ ho₇ => ?_
  dsimp only
  have hIJ : I < J := hJ _ (.head _)
  have hJn : ∀ p ∈ news, p.1 < J := fun p hp => hJ p (.tail _ hp)
  refine G_cons (G_While (by passes_own) (fun n s' => ∃ h' tk i b m' ti tb x ivs nums vs us nI nJ, s' = { s with heap := h', toks := tk } ∧ Fr g L' h' m' ∧ News g L' h' ((J, listOf us.toArray nJ) :: (I, listOf vs.toArray nI) :: news) ∧
      BytesAre vs ivs ∧ IntsAre us nums ∧ m' "at" = some (.int (i : Nat) ti) ∧ m' "begin" = some (.int (b : Nat) tb) ∧ m' "data" = some (.bytes l.toArray t) ∧ m' "intervals" = some (.ref I) ∧ m' "numbers" = some (.ref J) ∧
      scan [] l = (scan x (l.drop i)).map (fun p => (ivs ++ p.1, nums ++ p.2)) ∧ b ≤ i ∧ i ≤ l.length ∧ (l.drop b).take (i - b) = stuffL x ∧ vs.length ≤ i ∧ us.length ≤ i ∧ n = l.length - i) ?_ l.length ?_)
  · rintro n s' ⟨h', tk, i, b, m', ti, tb, x, ivs, nums, vs, us, nI, nJ, rfl, F₁, N₁, hvs, hus, hat, hbe, hda, hin, hnu, hsc, hbi, hil, hx, hvl, hul, rfl⟩
    have e0 : ((i : Nat) : Int).toNat = i := by omega
    refine G_any ?_
    dsimp only
    repeat' walk1
    all_goals (try rw [if_neg Bool.false_ne_true])
    · have hdr := drop_at (l := l) (i := i) (by omega)
      have htk : (l.drop b).take (i + 1 - b) = (l.drop b).take (i - b) ++ [l.getD i 0] := by
        have e1 : i + 1 - b = (i - b) + 1 := by omega
        rw [e1, List.take_add_one, List.getElem?_drop]
        have e2 : b + (i - b) = i := by omega
        rw [e2, of_getD (by omega)]; rfl
      refine G_cons (G_If (G_any ?_))
      repeat' walk1
      all_goals (try rw [e0] at *)
      all_goals (try rw [if_neg Bool.false_ne_true])
      · have hc' : l.getD i 0 ≠ 255 := fun e => by rename_i z; exact z (by rw [e]; rfl)
        refine G_cons (G_Assign (G_any ?_))
        iterate 4 walk1
        refine store_op F₁ N₁ fun h₂ m₂ F₂ N₂ hat₂ hot₂ => ?_
        refine G_nil ?_
        dsimp only
        refine G_nil ?_
        dsimp only
        exact ⟨l.length - (i + 1), by omega, h₂, _, i + 1, b, m₂, _, _, x ++ [l.getD i 0], ivs, nums, vs, us, nI, nJ, rfl, F₂, N₂, hvs, hus, hat₂, (hot₂ _ (by decide)).trans hbe, (hot₂ _ (by decide)).trans hda, (hot₂ _ (by decide)).trans hin, (hot₂ _ (by decide)).trans hnu,
          by rw [hsc, hdr, scan_plain hc'], by omega, by omega, by rw [htk, hx, stuffL_append, stuffL_one hc'], by omega, by omega, rfl⟩
      · have hc' : l.getD i 0 = 255 := nat255 (by assumption)
        rw [hc'] at hdr htk
        refine G_cons (G_If (G_any ?_))
        repeat' walk1
        all_goals (try rw [tn1] at *)
        all_goals (try rw [if_neg Bool.false_ne_true])
        · have hd0 : l.getD (i + 1) 0 = 0 := UInt8.toNat_inj.mp (by show (l.getD (i + 1) 0).toNat = 0; omega)
          have hdr₂ := drop_at (l := l) (i := i + 1) (by omega)
          rw [hd0] at hdr₂
          have htk₂ : (l.drop b).take (i + 2 - b) = (l.drop b).take (i + 1 - b) ++ [0] := by
            have e1 : i + 2 - b = (i + 1 - b) + 1 := by omega
            rw [e1, List.take_add_one, List.getElem?_drop]
            have e2 : b + (i + 1 - b) = i + 1 := by omega
            rw [e2, of_getD (by omega), hd0]; rfl
          refine G_cons (G_Assign (G_any ?_))
          iterate 4 walk1
          refine store_op F₁ N₁ fun h₂ m₂ F₂ N₂ hat₂ hot₂ => ?_
          refine G_nil ?_
          dsimp only
          refine G_nil ?_
          dsimp only
          refine G_nil ?_
          dsimp only
          have e2 : ((i : Int) + 2) = ((i + 2 : Nat) : Int) := by omega
          rw [e2] at hat₂
          exact ⟨l.length - (i + 2), by omega, h₂, _, i + 2, b, m₂, _, _, x ++ [255], ivs, nums, vs, us, nI, nJ, rfl, F₂, N₂, hvs, hus, hat₂, (hot₂ _ (by decide)).trans hbe, (hot₂ _ (by decide)).trans hda, (hot₂ _ (by decide)).trans hin, (hot₂ _ (by decide)).trans hnu,
            by rw [hsc, hdr, hdr₂, scan_zero], by omega, by omega, by rw [htk₂, htk, hx, stuffL_append, stuffL_255]; simp, by omega, by omega, rfl⟩
        all_goals (
          have hnz : l[i + 1]? ≠ some 0 := fun z => by
            have z2 := lt_of_some z
            have z3 := getD_of z
            first
              | omega
              | (rename_i hq; exact hq (by rw [z3]; rfl))
          obtain ⟨k, hk255, hkend, hkdw, hkl⟩ := run_spec l (i + 1)
          refine G_cons (G_Assign (G_fn2 F₁ T'.g hm74 k74 (G_any ?_)))
          walk1
          refine G_any ?_
          walk1
          refine ⟨F₁.keep, ?_⟩
          refine fill_spec (s := ⟨h', _, _, _, _⟩) (i := i) (k := k) B' F₁ X' N₁ T' rfl (by show dp + 1 + 3 < _; omega) (by show un + 3 + 24 < _; omega) rfl hl (by omega) hk255 hkend fun tl h₂ tk₂ F₂ N₂ => ?_
          refine store_op (s := ⟨h₂, _, _, _, _⟩) F₂ N₂ fun h₃ m₃ F₃ N₃ hla₃ ho₃ => ?_
          have hda₃ := (ho₃ "data" (by decide)).trans hda
          have hbe₃ := (ho₃ "begin" (by decide)).trans hbe
          have hat₃ := (ho₃ "at" (by decide)).trans hat
          have hin₃ := (ho₃ "intervals" (by decide)).trans hin
          have hnu₃ := (ho₃ "numbers" (by decide)).trans hnu
          dsimp only
          refine G_cons (G_If (G_isTrue_Or2 (G_any ?_)))
          repeat' walk1
          all_goals have hne1 : i + 1 < l.length → l.getD (i + 1) 0 ≠ 0 := fun h z => hnz (by rw [of_getD h, z])
          all_goals have hsm : i + 1 < l.length → scan x (255 :: l.drop (i + 1)) = afterRun x (l.drop (i + 1 + k)) := fun h => by rw [drop_at h, scan_run (hne1 h), ← drop_at h, hkdw]
          all_goals rw [show i + 1 + k = i + k + 1 by omega] at *
          · refine G_cons (raise_spec B' F₃ X' N₃ T' rfl rfl (by show dp + 1 + 3 < _; omega) (by show un + 3 + 24 < _; omega) fun e t' d h₉ tk₉ F₉ N₉ hne => ?_)
            have N₁₀ : News g L' h₉ ((e, excObj t' (some d)) :: news) := news_sub N₉ fun q hq => (List.mem_cons.mp hq).elim (fun z => z ▸ .head _) fun z => .tail _ (.tail _ (.tail _ z))
            dsimp only
            refine leave_newX (s := ⟨h₉, _, _, _, _⟩) B' F₉ N₁₀ (fun q hq => hne q (.tail _ (.tail _ hq))) fun h₁₀ R U => ?_
            refine hrai ?_ _ _ _ _ FG R U
            rw [hsc, hdr]
            rcases Nat.lt_or_ge (i + 1) l.length with h | h
            · rw [hsm h, List.drop_eq_nil_of_le (by omega)]; rfl
            · rw [List.drop_eq_nil_of_le h, scan_end]; rfl
          all_goals (
            have hlt : i + k + 1 < l.length := by omega
            have hdm := drop_at (l := l) (i := i + k + 1) hlt
            refine G_isTrue_Not (G_isTrue_plain (G_fn1 F₃ T'.g hm53 k53 (G_any ?_)))
            repeat' walk1
            rw [tn1]
            generalize hmm : l.getD (i + k + 1) 0 = mm at hdm ⊢
            rw [hdm] at hsm
            refine restart_spec (s := ⟨h₃, _, _, _, _⟩) B' F₃ X' N₃ T' rfl (by show dp + 1 + 3 < _; omega) (by show un + 3 + 24 < _; omega) fun h₄ tk₄ F₄ N₄ => ?_
            walk1
            by_cases hr : (208 : Int) ≤ (mm.toNat : Int) ∧ (mm.toNat : Int) ≤ 215
            · rw [if_neg (by simp [hr])]
              refine G_nil ?_
              dsimp only
              have hsl : (l.drop ((some ((b : Nat) : Int)).elim 0 (clipAt l.length))).take ((some ((i : Nat) : Int)).elim l.length (clipAt l.length) - (some ((b : Nat) : Int)).elim 0 (clipAt l.length)) = stuffL x := by
                simp only [Option.elim, clipAt_nat]
                rw [Nat.min_eq_left (show b ≤ l.length by omega), Nat.min_eq_left (show i ≤ l.length by omega), hx]
              have hIn : ∀ q ∈ news, q.1 ≠ I := fun q hq => Nat.ne_of_lt (hI q hq)
              have hJI : J ≠ I := Nat.ne_of_gt hIJ
              have hsxl : (stuffL x).length ≤ 100000 := by
                rw [← hx, List.length_take, List.length_drop]; omega
              refine G_cons (G_liAppend F₄ hin₃ N₄ (.tail _ (.head _)) (G_fn1 F₄ T'.g hm67 k67 (G_any ?_)))
              iterate 8 walk1
              refine slice_L (s := ⟨h₄, _, _, _, _⟩) F₄ N₄ (.int _ _) (.int _ _) (by omega) fun h₅ t₅ tk₅ F₅ N₅ => ?_
              rw [hsl]
              refine ⟨F₅.keep, ?_⟩
              refine unstuff_spec (s := ⟨h₅, _, _, _, _⟩) B' F₅ X' N₅ T' rfl (by show dp + 1 + 8 < _; omega) (by show un + 3 + 40 < _; omega) hsxl (fun o ho t₆ h₆ tk₆ F₆ N₆ => ?_) (fun z => absurd z (by rw [unstuff_stuff]; nofun))
              obtain rfl : x = o := Option.some.inj ((unstuff_stuff x).symm.trans ho)
              refine append_K (s := ⟨h₆, _, _, _, _⟩) F₆ N₆ (.tail hJI (.head hIn)) (fun h₇ F₇ N₇ => ⟨nofun, ?_⟩) (by rw [List.size_toArray, sizeLine_eq]; omega)
              dsimp only
              rw [List.push_toArray] at N₇
              refine G_cons (G_liAppend F₇ hnu₃ N₇ (.head _) (G_any ?_))
              iterate 10 walk1
              rw [tn1, hmm]
              have hJn' : ∀ q ∈ ((I, listOf (vs ++ [Value.bytes x.toArray t₆]).toArray (nI + 1)) :: news), q.1 ≠ J := fun q hq => (List.mem_cons.mp hq).elim (fun z => z ▸ Nat.ne_of_lt hIJ) fun z => Nat.ne_of_lt (hJn q z)
              refine append_K (s := ⟨h₇, _, _, _, _⟩) F₇ N₇ (.head hJn') (fun h₈ F₈ N₈ => ⟨nofun, ?_⟩) (by rw [List.size_toArray, sizeLine_eq]; omega)
              dsimp only
              rw [List.push_toArray] at N₈
              refine G_cons (G_Assign (G_any ?_))
              iterate 4 walk1
              refine store_op (s := ⟨h₈, _, _, _, _⟩) F₈ N₈ fun h₉ m₉ F₉ N₉ hat₉ ho₉ => ?_
              dsimp only
              refine G_cons (G_Assign (G_any ?_))
              iterate 1 walk1
              refine store_op (s := ⟨h₉, _, _, _, _⟩) F₉ N₉ fun h₁₀ m₁₀ F₁₀ N₁₀ hbe₁₀ ho₁₀ => ?_
              have hat₁₀ := (ho₁₀ _ (by decide)).trans hat₉
              have e3 : (((i + k : Nat) : Int) + 2) = ((i + k + 2 : Nat) : Int) := by omega
              rw [e3] at hat₁₀ hbe₁₀
              refine G_nil ?_
              dsimp only
              refine G_nil ?_
              dsimp only
              refine G_nil ?_
              dsimp only
              have hub : ∀ y, (y == Str.ofString "at") = false → (y == Str.ofString "begin") = false → m₁₀ y = m₃ y := fun y h1 h2 => (ho₁₀ y h2).trans (ho₉ y h1)
              refine ⟨l.length - (i + k + 2), by omega, h₁₀, _, i + k + 2, i + k + 2, m₁₀, _, _, [], ivs ++ [x], nums ++ [(mm.toNat : Int) - 208], _, _, _, _, rfl, F₁₀, N₁₀, hvs.snoc x _, ints_snoc hus _ _, hat₁₀, hbe₁₀,
                (hub _ (by decide) (by decide)).trans hda₃, (hub _ (by decide) (by decide)).trans hin₃, (hub _ (by decide) (by decide)).trans hnu₃, ?_, Nat.le_refl _, by omega, by simp [stuffL], by simp; omega, by simp; omega, rfl⟩
              rw [hsc, hdr, hsm (by omega), afterRun_cons, if_pos (by omega), Option.map_map]
              congr 1
              funext p
              simp
            · rw [if_pos (by simp [hr])]
              refine G_cons (raise_spec B' F₄ X' N₄ T' rfl rfl (by show dp + 1 + 3 < _; omega) (by show un + 3 + 24 < _; omega) fun e t' d h₉ tk₉ F₉ N₉ hne => ?_)
              have N₁₀ : News g L' h₉ ((e, excObj t' (some d)) :: news) := news_sub N₉ fun q hq => (List.mem_cons.mp hq).elim (fun z => z ▸ .head _) fun z => .tail _ (.tail _ (.tail _ z))
              dsimp only
              refine leave_newX (s := ⟨h₉, _, _, _, _⟩) B' F₉ N₁₀ (fun q hq => hne q (.tail _ (.tail _ hq))) fun h₁₀ R U => ?_
              refine hrai ?_ _ _ _ _ FG R U
              rw [hsc, hdr, hsm (by omega)]
              rw [afterRun_cons, if_neg (by omega)]; rfl))
    · have hil' : i = l.length := by omega
      subst hil'
      have hsl : (l.drop ((some ((b : Nat) : Int)).elim 0 (clipAt l.length))).take ((none : Option Int).elim l.length (clipAt l.length) - (some ((b : Nat) : Int)).elim 0 (clipAt l.length)) = stuffL x := by
        simp only [Option.elim, clipAt_nat]
        rw [Nat.min_eq_left (show b ≤ l.length by omega), hx]
      have hIn : ∀ q ∈ news, q.1 ≠ I := fun q hq => Nat.ne_of_lt (hI q hq)
      have hJI : J ≠ I := Nat.ne_of_gt hIJ
      have hsxl : (stuffL x).length ≤ 100000 := by
        rw [← hx, List.length_take, List.length_drop]; omega
      refine G_cons (G_liAppend F₁ hin N₁ (.tail _ (.head _)) (G_fn1 F₁ T'.g hm67 k67 (G_any ?_)))
      iterate 7 walk1
      refine slice_L (s := ⟨h', _, _, _, _⟩) F₁ N₁ (.int _ _) .none (by omega) fun h₅ t₅ tk₅ F₅ N₅ => ?_
      rw [hsl]
      refine ⟨F₅.keep, ?_⟩
      refine unstuff_spec (s := ⟨h₅, _, _, _, _⟩) B' F₅ X' N₅ T' rfl (by show dp + 1 + 8 < _; omega) (by show un + 3 + 40 < _; omega) hsxl (fun o ho t₆ h₆ tk₆ F₆ N₆ => ?_) (fun z => absurd z (by rw [unstuff_stuff]; nofun))
      obtain rfl : x = o := Option.some.inj ((unstuff_stuff x).symm.trans ho)
      refine append_K (s := ⟨h₆, _, _, _, _⟩) F₆ N₆ (.tail hJI (.head hIn)) (fun h₇ F₇ N₇ => ⟨nofun, ?_⟩) (by rw [List.size_toArray, sizeLine_eq]; omega)
      dsimp only
      rw [List.push_toArray] at N₇
      refine G_cons (G_Return (G_any ?_))
      iterate 6 walk1
      refine newTuple_N (s := ⟨h₇, _, _, _, _⟩) F₇ N₇ (fun h₈ F₈ N₈ => ?_) (by size_fits)
      dsimp only
      refine leaveK_ F₈ N₈ fun kF kN => ?_
      have hJT : J < h₇.objs.size := Heap.lt_size (N₇ _ (.head _)).1
      refine hret (ivs ++ [x]) nums ?_ _ _ _ _ I J _ _ _ (hvs.snoc x _) hus kF kN hI hIJ hJT
      rw [hsc, List.drop_length, scan_nil]; simp
  · exact ⟨_, _, 0, 0, _, _, _, [], [], [], [], [], _, _, rfl, F₇, N₇, .nil, .nil, hv₇, (ho₇ _ (by decide)).trans hv₆, (ho₇ _ (by decide)).trans ((ho₆ _ (by decide)).trans ((ho₅ _ (by decide)).trans ((ho₃ _ (by decide)).trans rfl))),
      (ho₇ _ (by decide)).trans ((ho₆ _ (by decide)).trans ((ho₅ _ (by decide)).trans hv₃)), (ho₇ _ (by decide)).trans ((ho₆ _ (by decide)).trans hv₅), by simp, Nat.le_refl _, Nat.zero_le _, by simp [stuffL], Nat.le_refl _, Nat.le_refl _, rfl⟩
end Mine

end
section
open PySem PySem.W PyProof.Rows PySem.Calls PySem.Spec
set_option Elab.async false
set_option maxRecDepth 100000
namespace Mine
open PySem.Sem (wp)
section
variable {prog : Program} {w : World} {A : Around} {E : Value → Shared → Prop} {s : Shared} {h₀ : Heap} {env : Env} {x : Str} {body : List Stmt} {Q : Flow → Shared → Prop}
theorem GLoop_range {r : Addr} {a b : Int} {t u v : Tok} {n : Nat} {m : Str → Option Value} {news : List (Addr × Obj)} (J : Nat → (Str → Option Value) → List (Addr × Obj) → Prop) (hh : A.handled = none)
    (hr : IsRange s.heap r a b 1 t u v) (hsmall : Builtin.Range.small a b 1 = true) (hn : Builtin.Range.rangeSize a b 1 = (n : Int))
    (F : Fr h₀ env.locals s.heap m) (N : News h₀ env.locals s.heap news) (h0 : J 0 m news)
    (turn : ∀ i t m₁ nx h tk own I, i < n → J i m₁ nx → (∀ p ∈ nx, p.1 ≠ I) → (∀ p ∈ own, p.1 = I) → (∀ p ∈ news, p.1 < I) →
      Fr h₀ env.locals h (fun y => if y = x then some (.int (a + (i : Int)) t) else m₁ y) → News h₀ env.locals h (nx ++ own) →
      wpG (model prog w) A (execs body env) (GStep h₀ env.locals [I] own (J (i + 1)) { s with heap := h, toks := tk } Q) E { s with heap := h, toks := tk })
    (done : ∀ h tk m' nx, Fr h₀ env.locals h m' → News h₀ env.locals h nx → J n m' nx → Q .next { s with heap := h, toks := tk }) :
    wpAny (model prog w) A (pyIter (.ref r)) (fun it s₂ => GLoop prog w A h₀ env x body Q E it s₂) E s := by
  refine wpAny_pyIter_range hr hsmall ?_
  have W : Walks prog w A s.heap.objs.size [s.heap.objs.size] [s.heap.objs.size] n (fun i v => i < n ∧ ∃ t, v = .int (a + i * 1) t)
      (fun i h => IsRangeIter h s.heap.objs.size (a + (i : Nat) * 1) ((n : Int) - (i : Nat)) 1) := (Walks.range hh _ a 1 n).bound
  refine ⟨_, _, _, n, _, _, m, news, J, rfl, W, ?_, ?_, ?_, (by show IsRangeIter _ _ _ _ _; rw [hn]; simpa using Heap.get?_push_size _ rfl), F.push _, (fun p hp => ⟨Heap.get?_push_of_some _ (N p hp).1, (N p hp).2⟩), h0, ?_, fun h' tk m' nx F' N' hJ => done h' tk m' nx F' N' hJ⟩
  · intro hm
    exact absurd F.ns.lt ((List.mem_singleton.mp hm) ▸ Nat.lt_irrefl _)
  · intro b' hb
    rw [List.mem_singleton.mp hb]
    exact next_is_new F
  · intro p hp hI
    exact absurd (Heap.lt_size (N p hp).1) ((List.mem_singleton.mp hI) ▸ Nat.lt_irrefl _)
  · rintro i v m₁ nx h tk own hi ⟨_, u, rfl⟩ hJ hne hown F₁ N₁
    rw [Int.mul_one] at F₁
    exact turn i u m₁ nx h tk own _ hi hJ (fun p hp q => hne p hp (List.mem_singleton.mpr q)) (fun p hp => List.mem_singleton.mp (hown p hp)) (fun p hp => Heap.lt_size (N p hp).1) F₁ N₁
theorem GLoop_list {ax : Addr} {its : Array Value} {n0 : Nat} {m : Str → Option Value} {news : List (Addr × Obj)} (J : Nat → (Str → Option Value) → List (Addr × Obj) → Prop) (hh : A.handled = none)
    (hmem : (ax, listOf its n0) ∈ news) (F : Fr h₀ env.locals s.heap m) (N : News h₀ env.locals s.heap news) (h0 : J 0 m news)
    (turn : ∀ i v m₁ nx h tk own I, its[i]? = some v → J i m₁ nx → (∀ p ∈ nx, p.1 ≠ I) → (∀ p ∈ own, p.1 = I ∨ p.1 = ax) → (∀ p ∈ news, p.1 < I) →
      Fr h₀ env.locals h (fun y => if y = x then some v else m₁ y) → News h₀ env.locals h (nx ++ own) →
      wpG (model prog w) A (execs body env) (GStep h₀ env.locals [I] own (J (i + 1)) { s with heap := h, toks := tk } Q) E { s with heap := h, toks := tk })
    (done : ∀ h tk m' nx, Fr h₀ env.locals h m' → News h₀ env.locals h nx → J its.size m' nx → Q .next { s with heap := h, toks := tk }) :
    wpAny (model prog w) A (pyIter (.ref ax)) (fun it s₂ => GLoop prog w A h₀ env x body Q E it s₂) E s := by
  have hx := N _ hmem
  have hls : s.heap.IsList ax its := ⟨_, hx.1, rfl, _, rfl⟩
  have hlt : ax < s.heap.objs.size := Heap.lt_size hx.1
  have hne : ax ≠ s.heap.objs.size := Nat.ne_of_lt hlt
  refine wpAny_pyIter_list hls ?_
  have W := Walks.list (prog := prog) (w := w) hh s.heap.objs.size ax hne its
  refine ⟨_, _, _, its.size, _, _, m, news, J, rfl, W, ?_, ?_, ?_, ⟨⟨_, Heap.get?_push_size _ rfl, rfl, rfl⟩, hls.at fun o e => Heap.get?_push_of_some _ e⟩, F.push _, (fun p hp => ⟨Heap.get?_push_of_some _ (N p hp).1, (N p hp).2⟩), h0, ?_, fun h' tk m' nx F' N' hJ => done h' tk m' nx F' N' hJ⟩
  · intro hm
    rcases List.mem_cons.mp hm with e | hm
    · exact absurd F.ns.lt (e ▸ Nat.lt_irrefl _)
    · exact hx.2.1 (List.mem_singleton.mp hm).symm
  · intro b' hb
    rw [List.mem_singleton.mp hb]
    exact next_is_new F
  · intro p hp hI
    exact absurd (Heap.lt_size (N p hp).1) ((List.mem_singleton.mp hI) ▸ Nat.lt_irrefl _)
  · rintro i v m₁ nx h tk own hi hP hJ hne hown F₁ N₁
    exact turn i v m₁ nx h tk own _ hP hJ (fun p hp q => hne p hp (List.mem_singleton.mpr q)) (fun p hp => by simpa using hown p hp) (fun p hp => Heap.lt_size (N p hp).1) F₁ N₁
/-- an item of a list of the ledger -/
theorem item_li {L D : Addr} {value slice : Expr} {its : Array Value} {n0 : Nat} {news : List (Addr × Obj)} {i : Int} {k : Nat} {ti : Tok} {v : Value} {Q : Value → Shared → Prop} (N : News h₀ L s.heap news) (hmem : (D, listOf its n0) ∈ news)
    (hi : i = (k : Int)) (hk : its[k]? = some v) (h : Q v s) (hsz : its.size ≤ sizeLine)
    (hs : subscripted slice false (.ref D) (.int i ti) = operate [.ref D, .int i ti] (getItem (.ref D) (.int i ti)) := by with_unfolding_all rfl)
    (ht : ∀ r, letTemporaryGo value (.ref D) r = pure () := by intro _; with_unfolding_all rfl) :
    wpAny (model prog w) A (subscriptTail value slice (.ref D) (.int i ti)) Q E s := by
  have hls : s.heap.IsList D its := ⟨_, (N _ hmem).1, rfl, _, rfl⟩
  have hsl := sizeLine_eq
  have hkl : k < its.size := (Array.getElem?_eq_some_iff.mp hk).1
  exact tail_any hls.typeIs slot_list_getitem.lookup (wpAny_getItem_list hls (by omega) (by omega) (x := v) (by rw [hi]; simpa using hk) h) hs
end
end Mine

end
section
open PySem PySem.W PyProof.Rows PySem.Calls PySem.Spec
set_option Elab.async false
set_option maxRecDepth 100000
set_option maxHeartbeats 4000000
set_option pp.structureInstances false
set_option pp.maxSteps 30000
namespace Mine
open PySem.Sem (wp)
local macro_rules | `(tactic| walk_at "eval Name") => `(tactic| refine nameX_L (by assumption) (by assumption) ?_)
local macro_rules | `(tactic| walk_at "subscriptTail") => `(tactic| ((with_reducible show wpAny _ _ (subscriptTail _ _ (Value.bytes (List.toArray _) _) (Value.int _ _)) _ _ _); (refine KBy.item_N (by omega) (by omega) (by omega) ?_)))
theorem fr_open {h₀ h : Heap} {L : Addr} {m : Str → Option Value} {x : Str} {v : Value} (F : Fr h₀ L h (fun y => if y = x then some v else m y)) : ∃ m₂, Fr h₀ L h m₂ ∧ m₂ x = some v ∧ ∀ y, (y == x) = false → m₂ y = m y :=
  ⟨_, F, if_pos rfl, fun y hy => if_neg (by intro e; rw [e] at hy; simp at hy)⟩
theorem tailL_snoc (f k : Nat) (r : List (List UInt8)) (y : List UInt8) : tailL f k (r ++ [y]) = tailL f k r ++ (List.replicate f 255 ++ [255, UInt8.ofNat (208 + (k + r.length) % 8)] ++ stuffL y) := by
  induction r generalizing k with
  | nil => simp [tailL]
  | cons a r ih =>
    simp only [List.cons_append, tailL, ih, List.length_cons]
    rw [show k + 1 + r.length = k + (r.length + 1) by omega]
    simp only [List.append_assoc]
theorem dataL_snoc (f : Nat) (l : List (List UInt8)) (y : List UInt8) (h : l ≠ []) : dataL f (l ++ [y]) = dataL f l ++ (List.replicate f 255 ++ [255, UInt8.ofNat (208 + (l.length - 1) % 8)] ++ stuffL y) := by
  cases l with
  | nil => exact absurd rfl h
  | cons a r =>
    simp only [List.cons_append, dataL, tailL_snoc, List.length_cons, Nat.zero_add, Nat.add_sub_cancel, List.append_assoc]
theorem BytesAre.get {vs : List Value} {ls : List (List UInt8)} (h : BytesAre vs ls) : ∀ {i : Nat} {l : List UInt8}, ls[i]? = some l → ∃ t, vs[i]? = some (.bytes l.toArray t) := by
  induction h with
  | nil => intro i l e; simp at e
  | cons l' t' _ ih =>
    intro i l e
    cases i with
    | zero => simp at e; subst e; exact ⟨t', by simp⟩
    | succ i => simpa using ih (by simpa using e)
theorem dataL_le (f : Nat) {k : Nat} : ∀ {l : List (List UInt8)}, (∀ y ∈ l, y.length ≤ k) → (dataL f l).length ≤ l.length * (2 * k + f + 2)
  | [], _ => by simp [dataL]
  | y :: r, h => by
    have h1 := stuffL_length y
    have h2 := h y (.head _)
    have tl : ∀ (r : List (List UInt8)) (j : Nat), (∀ y ∈ r, y.length ≤ k) → (tailL f j r).length ≤ r.length * (2 * k + f + 2) := by
      intro r
      induction r with
      | nil => intro j _; simp [tailL]
      | cons z r ih =>
        intro j hz
        have h3 := stuffL_length z
        have h4 := hz z (.head _)
        have h5 := ih (j + 1) fun y hy => hz y (.tail _ hy)
        simp only [tailL, List.length_append, List.length_replicate, List.length_cons, List.length_nil]
        rw [Nat.succ_mul]
        omega
    have h6 := tl r 0 fun y hy => h y (.tail _ hy)
    simp only [dataL, List.length_append, List.length_cons]
    rw [Nat.succ_mul]
    omega
theorem join_spec {w : World} {p₀ : Program} {loose₀ : List Str} {mean : ExcName → Option Value} {mg mb : Str → Option Value} {dp un : Nat} {gd : Option (List Code)} {cn : Str} {cs : Scope} {a : Addr} {ccd : Value} {cl : List (Str × Addr)} {outer : List Env} {A₀ : Around} {base h₀ : Heap} {L : Addr} {m : Str → Option Value} {news : List (Addr × Obj)} {s : Shared} {Q E : Value → Shared → Prop}
    (B : Below A₀ base outer h₀) (F : Fr h₀ L s.heap m) (X : (Mine.hd.heap_39 w.params).In h₀) (N : News h₀ L s.heap news) (T : Top p₀ loose₀ mean mg mb h₀) (hk : cs.kind = .function)
    (hd : dp + 8 < recursionLimit) (hu : un + 40 < cLine) {I : Addr} {vs : List Value} {nI : Nat} {ivs : List (List UInt8)} (hI : (I, listOf vs.toArray nI) ∈ news) (hvs : BytesAre vs ivs) (hle : ∀ y ∈ ivs, y.length ≤ 100) (hlv : ivs.length ≤ 100)
    (hret : ∀ t h' tk', Fr h₀ L h' m → News h₀ L h' news → Q (.bytes (dataL 0 ivs).toArray t) { s with heap := h', toks := tk' }) :
    wpG (model PySem.Challenge.rw_nt0541_01.row.prog w) (ktrTop dp un gd cn cs L a ccd cl outer) (call (.ref 88) [.ref I]) Q E s := by
  revert X
  k_fill
  intro X
  refine G_call ?_
  k_dflt (refine' codeG_def B F X N T ?kA ?kF ?kK ?k6 ?k7 ?k8 ?k9 ?kB ?_ ?c5 ?c2 ?c3 ?c4; (case kA => exact rfl); (case kF => exact rfl); (case kK => exact hk); (case k6 => k_is); (case k7 => k_is); (case k8 => ktr_room); (case k9 => exact BindsTo.of_eq (binds := [(Str.ofString "intervals", Value.ref I)]) rfl); (case kB => exact locs rfl); (case c5 => decide); (case c2 => exact rfl); (case c3 => exact rfl); (case c4 => exact rfl))
  clear X B F N T
  intro g L' h₁ FG F' N' B' X' T'
  dsimp only
  have hm60 : mg (Str.ofString "stuff") = some (.ref 60) := mg_of X' T'.g (by k_is)
  have k60 := keeps_K (M := model PySem.Challenge.rw_nt0541_01.row.prog w) (K := Mine.hd.heap_39 w.params) (f := .ref 60) (by k_is) g X'
  refine G_cons (G_baNew F' N' (fun Q' hq => by walk1; exact hq) ?_)
  intro D h₂ tk₂ F₂ N₂ hD
  obtain ⟨m₂, F₂, hfo₂, ho₂⟩ := fr_open F₂
  have hin₂ : m₂ "intervals" = some (.ref I) := (ho₂ _ (by decide)).trans rfl
  have hlen : vs.length = ivs.length := hvs.length
  dsimp only
  refine G_cons (G_ForW (h₀ := g) rfl rfl (by passes_own) ?_)
  iterate 10 walk1
  refine call_len_list (hl := ⟨_, (N₂ _ (.tail _ hI)).1, rfl, _, rfl⟩) (by rw [List.size_toArray]; omega) ?_
  walk1
  refine range1_rows (s := ⟨h₂, _, _, _, _⟩) F₂ N₂ fun h₃ tk₃ t₁ u₁ v₁ hr F₃ N₃ _ => ?_
  have hvl : vs.toArray.size = ivs.length := by rw [List.size_toArray, hlen]
  rw [hvl] at hr
  have hsm : Builtin.Range.small 0 (ivs.length : Int) 1 = true := small_one (by omega) (by omega) (by omega) (by omega)
  have hrs : Builtin.Range.rangeSize 0 (ivs.length : Int) 1 = ((ivs.length : Nat) : Int) := by
    unfold Builtin.Range.rangeSize
    rw [if_pos (by decide)]
    by_cases h : (0 : Int) < ivs.length
    · rw [if_pos h, Int.ediv_one]; omega
    · rw [if_neg h]; omega
  refine GLoop_range (s := ⟨h₃, _, _, _, _⟩) (fun i m' nx => m' "found" = some (.ref D) ∧ m' "intervals" = some (.ref I) ∧ nx = (D, baObj (dataL 0 (ivs.take i)).toArray) :: news) rfl hr hsm hrs F₃ N₃ ⟨hfo₂, hin₂, rfl⟩ ?_ ?_
  · rintro i tn m₁ nx h tk own J hi ⟨hfo, hin, rfl⟩ hne hown hJ Fz N₄
    obtain ⟨m₄, F₄, hnu₄, ho₄⟩ := fr_open Fz
    clear Fz
    rw [Int.zero_add] at hnu₄
    have hfo₄ := (ho₄ "found" (by decide)).trans hfo
    have hin₄ := (ho₄ "intervals" (by decide)).trans hin
    have hDJ : D ≠ J := hne (D, _) (.head _)
    have hoff : ∀ p ∈ news ++ own, p.1 ≠ D := fun p hp => by
      rcases List.mem_append.mp hp with hp | hp
      · exact Nat.ne_of_lt (hD p hp)
      · rw [hown p hp]; exact hDJ.symm
    obtain ⟨y, hy⟩ : ∃ y, ivs[i]? = some y := ⟨_, List.getElem?_eq_getElem hi⟩
    have hym : y ∈ ivs := List.mem_of_getElem? hy
    have hyl := hle y hym
    obtain ⟨ty, hvy⟩ := hvs.get hy
    have htk : ivs.take (i + 1) = ivs.take i ++ [y] := by rw [List.take_add_one, hy]; rfl
    have hbl := dataL_le 0 (k := 100) (l := ivs.take i) fun z hz => hle z (List.mem_of_mem_take hz)
    rw [List.length_take] at hbl
    have hbl' : (dataL 0 (ivs.take i)).length ≤ 20200 := by
      have : min i ivs.length * (2 * 100 + 0 + 2) ≤ 100 * (2 * 100 + 0 + 2) := Nat.mul_le_mul_right _ (by omega)
      omega
    have hyst := stuffL_length y
    dsimp only
    refine G_cons (G_If (G_any ?_))
    repeat' walk1
    all_goals (try rw [if_neg Bool.false_ne_true])
    · have hi0 : 0 < i := by omega
      refine G_cons (G_baMethod ba_slot_append ba_type_append F₄ hfo₄ N₄ (.head _) (G_any ?_))
      iterate 1 walk1
      refine ba_append_N F₄ N₄ (Upd.head hoff) (by omega) (by omega) (by rw [List.size_toArray, sizeLine_eq]; omega) fun h₅ F₅ N₅ => ⟨nofun, ?_⟩
      rw [show (255 : Int).toNat.toUInt8 = 255 from rfl, List.push_toArray] at N₅
      dsimp only
      refine G_cons (G_baMethod ba_slot_append ba_type_append F₅ hfo₄ N₅ (.head _) (G_any ?_))
      repeat' walk1
      have e1 : ((i : Int) - 1).fmod 8 = (((i - 1) % 8 : Nat) : Int) := by
        rw [Int.fmod_eq_emod_of_nonneg _ (by decide)]; omega
      rw [e1]
      refine ba_append_N F₅ N₅ (Upd.head hoff) (by omega) (by omega) (by rw [List.size_toArray, List.length_append, sizeLine_eq, List.length_cons, List.length_nil]; omega) fun h₆ F₆ N₆ => ⟨nofun, ?_⟩
      have e2 : (208 + (((i - 1) % 8 : Nat) : Int)).toNat.toUInt8 = UInt8.ofNat (208 + (i - 1) % 8) := by
        rw [show (208 + (((i - 1) % 8 : Nat) : Int)).toNat = 208 + (i - 1) % 8 by omega]
      rw [e2, List.push_toArray] at N₆
      dsimp only
      refine G_nil ?_
      dsimp only
      refine G_cons (G_baMethod ba_slot_extend ba_type_extend F₆ hfo₄ N₆ (.head _) (G_fn1 F₆ T'.g hm60 k60 (G_any ?_)))
      iterate 3 walk1
      refine item_li N₆ (.tail _ (List.mem_append_left _ hI)) (by simp) (k := i) (v := .bytes y.toArray ty) (by simpa using hvy) ?_ (by rw [List.size_toArray, sizeLine_eq]; omega)
      refine ⟨F₆.keep, ?_⟩
      refine stuff_spec (s := ⟨h₆, _, _, _, _⟩) B' F₆ X' N₆ T' rfl (by show dp + 1 + 3 < _; omega) (by show un + 3 + 24 < _; omega) (by omega) fun t₈ h₈ tk₈ F₈ N₈ => ?_
      refine ba_extend_N (s := ⟨h₈, _, _, _, _⟩) F₈ N₈ (Upd.head hoff) (by simp only [List.size_toArray, List.length_append, List.length_cons, List.length_nil]; rw [sizeLine_eq]; omega) fun h₉ F₉ N₉ => ⟨nofun, ?_⟩
      refine G_nil ?_
      refine ⟨h₉, _, m₄, _, rfl, F₉, ?_, ?_, hfo₄, hin₄, rfl⟩
      · have hne0 : ivs.take i ≠ [] := by
          intro z
          have := congrArg List.length z
          rw [List.length_take, List.length_nil] at this; omega
        have hln : (ivs.take i).length = i := by rw [List.length_take]; omega
        have eq : dataL 0 (ivs.take i) ++ [255] ++ [UInt8.ofNat (208 + (i - 1) % 8)] ++ stuffL y = dataL 0 (ivs.take (i + 1)) := by rw [htk, dataL_snoc _ _ _ hne0, hln]; simp
        rw [List.append_toArray, eq] at N₉
        exact N₉
      · intro q hq
        rcases List.mem_cons.mp hq with rfl | hq
        · simpa using hDJ
        · have := hne q (.tail _ hq); simpa using this
    · have hi0 : i = 0 := by omega
      subst hi0
      refine G_nil ?_
      dsimp only
      refine G_cons (G_baMethod ba_slot_extend ba_type_extend F₄ hfo₄ N₄ (.head _) (G_fn1 F₄ T'.g hm60 k60 (G_any ?_)))
      iterate 3 walk1
      refine item_li N₄ (.tail _ (List.mem_append_left _ hI)) (by simp) (k := 0) (v := .bytes y.toArray ty) (by simpa using hvy) ?_ (by rw [List.size_toArray, sizeLine_eq]; omega)
      refine ⟨F₄.keep, ?_⟩
      refine stuff_spec (s := ⟨h, _, _, _, _⟩) B' F₄ X' N₄ T' rfl (by show dp + 1 + 3 < _; omega) (by show un + 3 + 24 < _; omega) (by omega) fun t₈ h₈ tk₈ F₈ N₈ => ?_
      refine ba_extend_N (s := ⟨h₈, _, _, _, _⟩) F₈ N₈ (Upd.head hoff) (by simp only [List.size_toArray, List.length_append, List.length_cons, List.length_nil]; rw [sizeLine_eq]; omega) fun h₉ F₉ N₉ => ⟨nofun, ?_⟩
      refine G_nil ?_
      refine ⟨h₉, _, m₄, _, rfl, F₉, ?_, ?_, hfo₄, hin₄, rfl⟩
      · have eq : dataL 0 (ivs.take 0) ++ stuffL y = dataL 0 (ivs.take (0 + 1)) := by rw [htk]; simp [dataL, tailL]
        rw [List.append_toArray, eq] at N₉
        exact N₉
      · intro q hq
        rcases List.mem_cons.mp hq with rfl | hq
        · simpa using hDJ
        · have := hne q (.tail _ hq); simpa using this
  · rintro h tk m' nx F₄ N₄ ⟨hfo, hin, rfl⟩
    dsimp only
    refine G_cons (G_Return (G_any ?_))
    rw [List.take_length] at N₄
    have hbl := dataL_le 0 (k := 100) hle
    have hbl' : (dataL 0 ivs).length ≤ 20200 := by
      have : ivs.length * (2 * 100 + 0 + 2) ≤ 100 * (2 * 100 + 0 + 2) := Nat.mul_le_mul_right _ (by omega)
      omega
    refine W_baReturn F₄ hfo N₄ (.head _) (by rw [List.size_toArray, sizeLine_eq]; omega) (fun Q' hq => by walk1; exact hq) fun t' tk' => ?_
    dsimp only
    refine leaveK_ F₄ N₄ fun kF kN => ?_
    exact hret _ _ _ kF (news_sub kN fun p hp => .tail _ hp)
end Mine

end
section
open PySem PySem.W PyProof.Rows PySem.Calls PySem.Spec
set_option Elab.async false
set_option maxRecDepth 100000
namespace Mine
open PySem.Sem (wp)
section
variable {prog : Program} {w : World} {A₀ A : Around} {s : Shared} {base h₀ : Heap} {outer : List Env} {L : Addr} {m mg mb : Str → Option Value} {env : Env} {news : List (Addr × Obj)} {K : Frag} {p : Program} {loose : List Str} {mean : ExcName → Option Value}
  {R : Result → Shared → Prop} {name qual : Str} {params : Arguments} {body : List Stmt} {scope : Scope} {dV kV doc pm cdv ct oc : Value} {an od : Option Addr} {osl : Array (Option Value)} {f : Addr} {args : Args} {binds : List (Str × Value)}
/-- a def with cells entered -/
theorem codeG_defC (B : Below A₀ base outer h₀) (F : Fr h₀ L s.heap m) (X₀ : K.In h₀) (N : News h₀ L s.heap news) (T : Top p loose mean mg mb h₀) (hA : A.frames = some (env :: outer)) (hf : env.frame = some L) (hke : env.scope.kind = .function)
    (ho : K.lookup f = some ⟨oc, od, .func (fnOf name qual params body scope dV kV doc pm an cdv ct), osl⟩) (hcd : codeIn K cdv qual = true) (hroom : A.depth < recursionLimit)
    (hbind : BindsTo s (fnOf name qual params body scope dV kV doc pm an cdv ct) args binds) (hkind : (binds.all fun y => scope.names.lookup y.1 == some .local || scope.names.lookup y.1 == some .cell) = true)
    (hnd : ((cellsFrom 0 scope.names []).map (·.1)).Nodup)
    (h : ∀ g L' h₁ tk cells, Fr h₀ L g m → Fr g L' h₁ (bindL (envOfC qual scope L' f cdv).kindOf binds fun _ => none) → News g L' h₁ (cells ++ news) →
      CellsAre (bindC (envOfC qual scope L' f cdv).kindOf binds fun _ => none) (cellsFrom (L' + 1) scope.names []) cells → Below A base (env :: outer) g → K.In g → Top p loose mean mg mb g → (∀ p ∈ news, p.1 < L') →
      wpG (model prog w) (A.deeper (envOfC qual scope L' f cdv)) (execs body (envOfC qual scope L' f cdv))
        (fun fl s' => LeaveK h₀ L m g R (match fl with | .ret v => v | _ => .none) s')
        (fun e s' => wpAny (model prog w) (A.deeper (envOfC qual scope L' f cdv)) (leaving (envOfC qual scope L' f cdv) e) (fun _ s'' => R (.error e) s'') (fun e' s'' => R (.error e') s'') s')
        { s with heap := h₁, toks := tk })
    (hco : scope.isCoroutine = false := by rfl) (hgen : scope.isGenerator = false := by rfl) (hk : scope.kind = .function := by rfl) : codeG (model prog w) A (.call (.ref f) args) R s := by
  obtain ⟨FG, BG, st, lv⟩ := groundX (R := R) B F N hA hf hke
  refine codeG_call_function hroom ((X₀.keeps F.keep) _ _ ho) rfl hco hgen rfl (codeRec_of (X₀.keeps F.keep) hcd) (hbind _ _ _ _ ?_)
  refine wpAny_newFunctionEnv_cells hk (kindsX hkind _) fun env' he s' x => ?_
  subst he
  refine ⟨(T.nolimit.keeps F.keep).keeps x.toInCall.keep, codeG_func ?_⟩
  obtain ⟨h₁, tk, rfl, _⟩ := x.done
  have hk₁ := x.toInCall.keep
  obtain ⟨cells, NC, Y⟩ := Cl.news (h₀ := s.heap) (Nat.le_refl _) fun n c hm => ⟨x.cell n c (lookup_of_mem_nodup (cellsFrom_names scope.names 0 (s.heap.objs.size + 1) [] [] rfl ▸ hnd) hm), x.above n c hm⟩
  refine G_mono (h _ s.heap.objs.size h₁ tk cells FG ⟨x.toInCall.ns, fun b o e => hk₁ b o (of_hideAll _ e), Nat.le_of_eq (hideAll_size _ _)⟩ (fun p hp => ?_) Y BG (X₀.keeps st) (T.keeps st) (fun p hp => Heap.lt_size (N p hp).1)) (fun fl s' hl => lv _ _ hl) fun _ _ y => y
  rcases List.mem_append.mp hp with hp | hp
  · refine ⟨(NC p hp).1, (NC p hp).2.1, ?_⟩
    cases q : (hideAll s.heap (news.map (·.1))).get? p.1 with
    | none => rfl
    | some o => have := of_hideAll _ q; rw [(NC p hp).2.2] at this; cases this
  · exact ⟨hk₁ _ _ (N p hp).1, Nat.ne_of_lt (Heap.lt_size (N p hp).1), hideAll_none _ (List.mem_map_of_mem hp)⟩
/-- a def entered, its leaving told outright -/
theorem codeG_defR (B : Below A₀ base outer h₀) (F : Fr h₀ L s.heap m) (X₀ : K.In h₀) (N : News h₀ L s.heap news) (T : Top p loose mean mg mb h₀) (hA : A.frames = some (env :: outer)) (hf : env.frame = some L) (hke : env.scope.kind = .function)
    (ho : K.lookup f = some ⟨oc, od, .func (fnOf name qual params body scope dV kV doc pm an cdv ct), osl⟩) (hcd : codeIn K cdv qual = true) (hroom : A.depth < recursionLimit)
    (hbind : BindsTo s (fnOf name qual params body scope dV kV doc pm an cdv ct) args binds) (hloc : ∀ y ∈ binds, scope.names.lookup y.1 = some .local)
    (h : ∀ g L' h₁, Fr h₀ L g m → Fr g L' h₁ (fun y => binds.reverse.lookup y) → News g L' h₁ news → Below A base (env :: outer) g → K.In g → Top p loose mean mg mb g →
      wpG (model prog w) (A.deeper (envOf qual scope L' f cdv)) (execs body (envOf qual scope L' f cdv))
        (fun fl s' => R (.ok (.ret (match fl with | .ret v => v | _ => .none))) s')
        (fun e s' => wpAny (model prog w) (A.deeper (envOf qual scope L' f cdv)) (leaving (envOf qual scope L' f cdv) e) (fun _ s'' => R (.error e) s'') (fun e' s'' => R (.error e') s'') s')
        { s with heap := h₁, toks := s.toks + binds.length })
    (hcell : ∀ x ∈ scope.names, x.2 ≠ .cell) (hco : scope.isCoroutine = false := by rfl) (hgen : scope.isGenerator = false := by rfl) (hk : scope.kind = .function := by rfl) : codeG (model prog w) A (.call (.ref f) args) R s := by
  obtain ⟨FG, BG, st, _⟩ := groundX (R := R) B F N hA hf hke
  refine codeG_call_function hroom ((X₀.keeps F.keep) _ _ ho) rfl hco hgen rfl (codeRec_of (X₀.keeps F.keep) hcd) (hbind _ _ _ _ ?_)
  refine wpAny_newFunctionEnv hcell hloc (fun h₁ hns hsb => ⟨(T.nolimit.keeps F.keep).fresh _ hsb, codeG_func ?_⟩) hk
  have hk₁ : ∀ b o, s.heap.get? b = some o → h₁.get? b = some o := fun b o e => hsb.extBut b o (Nat.ne_of_lt (Heap.lt_size e)) (Heap.get?_push_of_some _ e)
  exact G_mono (h _ s.heap.objs.size h₁ FG ⟨hns, fun b o e => hk₁ b o (of_hideAll _ e), Nat.le_of_eq (hideAll_size _ _)⟩
    (fun p hp => ⟨hk₁ _ _ (N p hp).1, Nat.ne_of_lt (Heap.lt_size (N p hp).1), hideAll_none _ (List.mem_map_of_mem hp)⟩) BG (X₀.keeps st) (T.keeps st)) (fun fl s' hl => hl) fun _ _ y => y
end
end Mine

end
section
open PySem PySem.W PyProof.Rows PySem.Calls PySem.Spec
set_option Elab.async false
set_option maxRecDepth 100000
set_option maxHeartbeats 4000000
set_option pp.structureInstances false
set_option pp.maxSteps 30000
namespace Mine
open PySem.Sem (wp)
local macro_rules | `(tactic| walk_at "eval Name") => `(tactic| refine nameX_L (by assumption) (by assumption) ?_)
local macro_rules | `(tactic| walk_at "subscriptTail") => `(tactic| ((with_reducible show wpAny _ _ (subscriptTail _ _ (Value.bytes (List.toArray _) _) (Value.int _ _)) _ _ _); (refine KBy.item_N (by omega) (by omega) (by omega) ?_)))
def srcObj (a : Int) (ta : Tok) (b : Int) (tb : Tok) (n : Nat) : Obj := listOf #[.int a ta, .int b tb] n
theorem take_spec {w : World} {p₀ : Program} {loose₀ : List Str} {mean : ExcName → Option Value} {mg mb : Str → Option Value} {dp un : Nat} {gd : Option (List Code)} {cn : Str} {cs : Scope} {a : Addr} {ccd : Value} {cl : List (Str × Addr)} {outer : List Env} {A₀ : Around} {base h₀ : Heap} {L : Addr} {m : Str → Option Value} {news : List (Addr × Obj)} {s : Shared} {Q E : Value → Shared → Prop}
    (B : Below A₀ base outer h₀) (F : Fr h₀ L s.heap m) (X : (Mine.hd.heap_39 w.params).In h₀) (N : News h₀ L s.heap news) (T : Top p₀ loose₀ mean mg mb h₀) (hk : cs.kind = .function)
    (hd : dp + 3 < recursionLimit) (hu : un + 24 < cLine) {S : Addr} {x y top : Int} {tx ty tt : Tok} {nS : Nat} {rest : List (Addr × Obj)} (hne : news = (S, listOf #[.int x tx, .int y ty] nS) :: rest) (hS : ∀ p ∈ rest, p.1 ≠ S) (hx : 0 ≤ x) (hy : 0 ≤ y) (hy2 : y < 2147483647) (ht : 1 < top) (ht2 : top < 100)
    (hret : ∀ x' tx' y' ty' nS' r t h' tk', 0 ≤ x' → 0 ≤ y' → y' < 2147483647 → 0 ≤ r → r < top → Fr h₀ L h' m → News h₀ L h' ((S, listOf #[.int x' tx', .int y' ty'] nS') :: rest) → Q (.int r t) { s with heap := h', toks := tk' }) :
    wpAny (model PySem.Challenge.rw_nt0541_01.row.prog w) (ktrTop dp un gd cn cs L a ccd cl outer) (call (.ref 102) [.ref S, .int top tt]) Q E s := by
  revert X
  k_fill
  intro X
  refine wpAny_call ?_
  k_dflt (refine' code_def B F X N T ?kA ?kF ?kK ?k6 ?k7 ?k8 ?k9 ?kB ?_ ?c2 ?c3 ?c4 ?c5; (case kA => exact rfl); (case kF => exact rfl); (case kK => exact hk); (case k6 => k_is); (case k7 => k_is); (case k8 => ktr_room); (case k9 => exact BindsTo.of_eq (binds := [(Str.ofString "source", Value.ref S), (Str.ofString "top", Value.int top tt)]) rfl); (case kB => exact locs rfl); (case c5 => decide); (case c2 => exact rfl); (case c3 => exact rfl); (case c4 => exact rfl))
  clear X B F N T
  intro g L' h₁ FG F' N' B' X' T'
  dsimp only
  subst hne
  repeat' walk1
  · refine ki_set (by assumption) (by assumption) (by decide) (by decide) rfl (.head hS) fun h₂ F₂ N₂ => ?_
    repeat' walk1
    dsimp only
    refine leaveK_ F₂ N₂ fun kF kN => ?_
    exact hret _ _ _ _ _ _ _ _ _ (Int.fdiv_nonneg hx (by omega)) hy hy2 (Int.fmod_nonneg_of_pos _ (by omega)) (Int.fmod_lt_of_pos _ (by omega)) kF kN
  · refine ki_set (by assumption) (by assumption) (by decide) (by decide) rfl (.head hS) fun h₂ F₂ N₂ => ?_
    have hz0 : 0 ≤ ([x, y].getD (Int.toNat 1) 0 * 39373 + 7).fmod 2147483647 := Int.fmod_nonneg_of_pos _ (by decide)
    have hz1 : ([x, y].getD (Int.toNat 1) 0 * 39373 + 7).fmod 2147483647 < 2147483647 := Int.fmod_lt_of_pos _ (by decide)
    generalize ([x, y].getD (Int.toNat 1) 0 * 39373 + 7).fmod 2147483647 = z at N₂ hz0 hz1
    have hmk : IntMulOk ([x, z].getD (Int.toNat 1) 0) ([x, z].getD (Int.toNat 1) 0) := IntMulOk.of_left (intBits_le_64 (by show -(2 ^ 64) < z; omega) (by show z < 2 ^ 64; omega))
    repeat' walk1
    dsimp only
    refine leaveK_ F₂ N₂ fun kF kN => ?_
    exact hret _ _ _ _ _ _ _ _ _ hx hz0 hz1 (Int.fmod_nonneg_of_pos _ (by omega)) (Int.fmod_lt_of_pos _ (by omega)) kF kN
end Mine

end
section
open PySem PySem.W PyProof.Rows PySem.Calls PySem.Spec
set_option Elab.async false
set_option maxRecDepth 100000
set_option maxHeartbeats 4000000
set_option pp.structureInstances false
set_option pp.maxSteps 30000
namespace Mine
open PySem.Sem (wp)
local macro_rules | `(tactic| walk_at "eval Name") => `(tactic| refine nameX_L (by assumption) (by assumption) ?_)
local macro_rules | `(tactic| walk_at "subscriptTail") => `(tactic| ((with_reducible show wpAny _ _ (subscriptTail _ _ (Value.bytes (List.toArray _) _) (Value.int _ _)) _ _ _); (refine KBy.item_N (by omega) (by omega) (by omega) ?_)))
def Mid (p : Flow → Shared → Prop) : Flow → Shared → Prop := p
theorem stuffed_spec {w : World} {p₀ : Program} {loose₀ : List Str} {mean : ExcName → Option Value} {mg mb : Str → Option Value} {dp un : Nat} {gd : Option (List Code)} {cn : Str} {cs : Scope} {a : Addr} {ccd : Value} {cl : List (Str × Addr)} {outer : List Env} {A₀ : Around} {base h₀ : Heap} {L : Addr} {m : Str → Option Value} {news : List (Addr × Obj)} {s : Shared} {Q E : Value → Shared → Prop}
    (B : Below A₀ base outer h₀) (F : Fr h₀ L s.heap m) (X : (Mine.hd.heap_39 w.params).In h₀) (N : News h₀ L s.heap news) (T : Top p₀ loose₀ mean mg mb h₀) (hk : cs.kind = .function)
    (hd : dp + 3 < recursionLimit) (hu : un + 24 < cLine) {l : List UInt8} {t : Tok} (hl : l.length ≤ 100000)
    (hret : ∀ t h' tk', Fr h₀ L h' m → News h₀ L h' news → Q (.bytes (stuffL l).toArray t) { s with heap := h', toks := tk' }) :
    wpG (model PySem.Challenge.rw_nt0541_01.row.prog w) (ktrTop dp un gd cn cs L a ccd cl outer) (call (.ref 114) [.bytes l.toArray t]) Q E s := by
  revert X
  k_fill
  intro X
  refine G_call ?_
  k_dflt (refine' codeG_def B F X N T ?kA ?kF ?kK ?k6 ?k7 ?k8 ?k9 ?kB ?_ ?c5 ?c2 ?c3 ?c4; (case kA => exact rfl); (case kF => exact rfl); (case kK => exact hk); (case k6 => k_is); (case k7 => k_is); (case k8 => ktr_room); (case k9 => exact BindsTo.of_eq (binds := [(Str.ofString "octets", Value.bytes l.toArray t)]) rfl); (case kB => exact locs rfl); (case c5 => decide); (case c2 => exact rfl); (case c3 => exact rfl); (case c4 => exact rfl))
  clear X B F N T
  intro g L' h₁ FG F' N' B' X' T'
  dsimp only
  refine G_cons (G_Return (G_any ?_))
  iterate 2 walk1
  refine by_method by_slot_replace by_type_replace ?_
  dsimp only
  iterate 6 walk1
  refine by_replace (by simp; rw [sizeLine_eq]; omega) fun t' k => ?_
  dsimp only
  refine leaveK_ F' N' fun kF kN => ?_
  exact hret _ _ _ kF kN
theorem pool_spec {w : World} {p₀ : Program} {loose₀ : List Str} {mean : ExcName → Option Value} {mg mb : Str → Option Value} {dp un : Nat} {gd : Option (List Code)} {cn : Str} {cs : Scope} {a : Addr} {ccd : Value} {cl : List (Str × Addr)} {outer : List Env} {A₀ : Around} {base h₀ : Heap} {L : Addr} {m : Str → Option Value} {news : List (Addr × Obj)} {s : Shared} {Q E : Value → Shared → Prop}
    (B : Below A₀ base outer h₀) (F : Fr h₀ L s.heap m) (X : (Mine.hd.heap_39 w.params).In h₀) (N : News h₀ L s.heap news) (T : Top p₀ loose₀ mean mg mb h₀) (hk : cs.kind = .function)
    (hd : dp + 3 < recursionLimit) (hu : un + 24 < cLine) {V : Addr} {us : List Value} {ns : List Int} (hV : h₀.IsList V us.toArray) (hus : IntsAre us ns) (hlen : ns.length ≤ 16777216)
    (hret : ∀ S x tx y ty nS h' tk', 0 ≤ x → 0 ≤ y → y < 2147483647 → (∀ p ∈ news, p.1 < S) → Fr h₀ L h' m → News h₀ L h' ((S, listOf #[.int x tx, .int y ty] nS) :: news) → Q (.ref S) { s with heap := h', toks := tk' }) :
    wpG (model PySem.Challenge.rw_nt0541_01.row.prog w) (ktrTop dp un gd cn cs L a ccd cl outer) (call (.ref 95) [.ref V]) Q E s := by
  revert X
  k_fill
  intro X
  refine G_call ?_
  k_dflt (refine' codeG_def B F X N T ?kA ?kF ?kK ?k6 ?k7 ?k8 ?k9 ?kB ?_ ?c5 ?c2 ?c3 ?c4; (case kA => exact rfl); (case kF => exact rfl); (case kK => exact hk); (case k6 => k_is); (case k7 => k_is); (case k8 => ktr_room); (case k9 => exact BindsTo.of_eq (binds := [(Str.ofString "script", Value.ref V)]) rfl); (case kB => exact locs rfl); (case c5 => decide); (case c2 => exact rfl); (case c3 => exact rfl); (case c4 => exact rfl))
  clear X B F N T
  intro g L' h₁ FG F' N' B' X' T'
  dsimp only
  have hlu := IntsAre.length hus
  have hV' : g.IsList V us.toArray := hV.at fun o e => FG.keep _ o e
  have hV₁ : h₁.IsList V us.toArray := hV'.at fun o e => F'.keep _ o e
  refine G_cons (G_mono (Q := Mid fun f s' => f = .next ∧ ∃ h₂ tk₂ m₂ B tb, s' = { s with heap := h₂, toks := tk₂ } ∧ Fr g L' h₂ m₂ ∧ News g L' h₂ news ∧ m₂ "big" = some (.int B tb) ∧ m₂ "script" = some (.ref V)) ?_ (fun f s' hm => ?_) fun _ _ z => z)
  · refine G_Assign (G_any ?_)
    iterate 8 walk1
    refine call_len_list (hl := hV₁) (by rw [List.size_toArray, hlu]; omega) ?_
    rw [List.size_toArray, hlu]
    repeat' walk1
    all_goals unfold Mid
    all_goals exact ⟨rfl, _, _, _, _, _, rfl, by assumption, by assumption, if_pos rfl, (if_neg (show ¬ (Str.ofString "script" = Str.ofString "big") by decide)).trans rfl⟩
  obtain ⟨rfl, h₂, tk₂, m₂, B, tb, rfl, F₂, N₂, hbig, hsc⟩ := hm
  dsimp only
  refine G_cons (G_mono (Q := Mid fun f s' => f = .next ∧ ∃ h₂ tk₂ m₂ B tb, s' = { s with heap := h₂, toks := tk₂ } ∧ Fr g L' h₂ m₂ ∧ News g L' h₂ news ∧ m₂ "big" = some (.int B tb) ∧ m₂ "script" = some (.ref V) ∧ 0 ≤ B) ?_ (fun f s' hm => ?_) fun _ _ z => z)
  · refine G_If (G_any ?_)
    repeat' walk1
    · refine G_cons (G_Assign (G_any ?_))
      iterate 4 walk1
      refine store_op F₂ N₂ fun h₃ m₃ F₃ N₃ hb₃ ho₃ => ?_
      refine G_nil ?_
      unfold Mid
      exact ⟨rfl, _, _, _, _, _, rfl, F₃, N₃, hb₃, (ho₃ _ (by decide)).trans hsc, by omega⟩
    · (try rw [if_neg Bool.false_ne_true])
      refine G_nil ?_
      unfold Mid
      exact ⟨rfl, _, _, _, _, _, rfl, F₂, N₂, hbig, hsc, by omega⟩
  clear F₂ N₂ hbig hsc
  obtain ⟨rfl, h₂, tk₂, m₂, B, tb, rfl, F₂, N₂, hbig, hsc, hB⟩ := hm
  dsimp only
  refine G_cons (G_Assign (G_any ?_))
  iterate 7 walk1
  have h0 : 0 ≤ B.fmod 2147483629 + 17 := by have := Int.fmod_nonneg_of_pos B (b := 2147483629) (by decide); omega
  have h1 : B.fmod 2147483629 + 17 < 2147483647 := by have := Int.fmod_lt_of_pos B (b := 2147483629) (by decide); omega
  refine store_op F₂ N₂ fun h₃ m₃ F₃ N₃ hmi₃ ho₃ => ?_
  have hbi₃ := (ho₃ "big" (by decide)).trans hbig
  have hsc₃ := (ho₃ "script" (by decide)).trans hsc
  dsimp only
  refine G_cons (G_ForW (h₀ := g) rfl rfl (by passes_own) ?_)
  iterate 21 walk1
  rename_i h₄' tk₄' Fa Na h₄ tk₄ t₁ u₁ v₁ hr F₄ N₄ hk₄
  have en : (if (20 : Int) < (ns.length : Int) then (20 : Int) else (ns.length : Int)) = ((min ns.length 20 : Nat) : Int) := by split <;> omega
  rw [en] at hr
  have hnl : min ns.length 20 ≤ ns.length := Nat.min_le_left _ _
  have hn20 : min ns.length 20 ≤ 20 := Nat.min_le_right _ _
  generalize min ns.length 20 = n at hr hnl hn20
  have hsm : Builtin.Range.small 0 (n : Int) 1 = true := small_one (by omega) (by omega) (by omega) (by omega)
  have hrs : Builtin.Range.rangeSize 0 (n : Int) 1 = ((n : Nat) : Int) := by
    unfold Builtin.Range.rangeSize
    rw [if_pos (by decide)]
    by_cases h : (0 : Int) < n
    · rw [if_pos h, Int.ediv_one]; omega
    · rw [if_neg h]; omega
  refine GLoop_range (s := ⟨h₄, _, _, _, _⟩) (fun i m' nx => (∃ v t, m' "mixed" = some (.int v t) ∧ 0 ≤ v ∧ v < 2147483647) ∧ m' "big" = some (.int B tb) ∧ m' "script" = some (.ref V) ∧ nx = news) rfl hr hsm hrs F₄ N₄ ⟨⟨_, _, hmi₃, h0, h1⟩, hbi₃, hsc₃, rfl⟩ ?_ ?_
  · rintro i tn m₁ nx h tk own J hi ⟨⟨v, tv, hmi, hv0, hv1⟩, hbi, hsc, rfl⟩ hne hown hJ Fz N₅
    obtain ⟨m₅, F₅, hk₅, ho₅⟩ := fr_open Fz
    clear Fz
    rw [Int.zero_add] at hk₅
    have hmi₅ := (ho₅ "mixed" (by decide)).trans hmi
    have hbi₅ := (ho₅ "big" (by decide)).trans hbi
    have hsc₅ := (ho₅ "script" (by decide)).trans hsc
    have hV₅ : h.IsList V us.toArray := hV'.at fun o e => F₅.keep _ o e
    dsimp only
    refine G_cons (G_Assign (G_any ?_))
    repeat' walk1
    dsimp only
    refine G_nil ?_
    exact ⟨_, _, _, _, rfl, by assumption, by assumption, fun q hq z => hne q hq (by simpa using z), ⟨_, _, if_pos rfl, Int.fmod_nonneg_of_pos _ (by decide), Int.fmod_lt_of_pos _ (by decide)⟩, (if_neg (show ¬ (Str.ofString "big" = Str.ofString "mixed") by decide)).trans hbi₅, (if_neg (show ¬ (Str.ofString "script" = Str.ofString "mixed") by decide)).trans hsc₅, rfl⟩
  · rintro h tk m' nx F₅ N₅ ⟨⟨v, tv, hmi, hv0, hv1⟩, hbi, hsc, rfl⟩
    dsimp only
    refine G_cons (G_Return (G_any ?_))
    repeat' walk1
    all_goals refine leaveK_ (by assumption) (by assumption) fun kF kN => ?_
    · exact hret _ _ _ _ _ _ _ _ hB hv0 hv1 (fun p hp => Heap.lt_size (N₅ p hp).1) kF kN
    · exact hret _ _ _ _ _ _ _ _ (by decide) hv0 hv1 (fun p hp => Heap.lt_size (N₅ p hp).1) kF kN
end Mine

end
section
open PySem PySem.W PyProof.Rows PySem.Calls PySem.Spec
set_option Elab.async false
set_option maxRecDepth 100000
set_option maxHeartbeats 4000000
set_option pp.structureInstances false
set_option pp.maxSteps 30000
namespace Mine
open PySem.Sem (wp)
local macro_rules | `(tactic| walk_at "eval Name") => `(tactic| refine nameX_L (by assumption) (by assumption) ?_)
local macro_rules | `(tactic| walk_at "subscriptTail") => `(tactic| ((with_reducible show wpAny _ _ (subscriptTail _ _ (Value.bytes (List.toArray _) _) (Value.int _ _)) _ _ _); (refine KBy.item_N (by omega) (by omega) (by omega) ?_)))
theorem G_BinOp {M : Model} {A : Around} {E : Value → Shared → Prop} {s : Shared} {env : Env} {l r : Expr} {op : Operator} {pos : Pos} {Q : Value → Shared → Prop}
    (h : wpG M A (eval l env) (fun a s₁ => wpG M A (eval r env) (fun b s₂ => wpAny M A (binaryOp op a b) Q E s₂) E s₁) E s) : wpG M A (eval (.BinOp l op r pos) env) Q E s := by
  rw [arm_eval_BinOp]
  exact G_bind (G_mono h (fun a s₁ h₁ => G_bind (G_holding (G_mono h₁ (fun b s₂ h₂ => G_bind (G_standAt (G_operate (G_any h₂)))) fun _ _ x => x))) fun _ _ x => x)
theorem flat255 (n : Nat) : (List.replicate n [(255 : UInt8)]).flatten = List.replicate n 255 := by
  induction n with
  | zero => rfl
  | succ n ih => simp [List.replicate_succ, ih]
theorem data_spec {w : World} {p₀ : Program} {loose₀ : List Str} {mean : ExcName → Option Value} {mg mb : Str → Option Value} {dp un : Nat} {gd : Option (List Code)} {cn : Str} {cs : Scope} {a : Addr} {ccd : Value} {cl : List (Str × Addr)} {outer : List Env} {A₀ : Around} {base h₀ : Heap} {L : Addr} {m : Str → Option Value} {news : List (Addr × Obj)} {s : Shared} {Q E : Value → Shared → Prop}
    (B : Below A₀ base outer h₀) (F : Fr h₀ L s.heap m) (X : (Mine.hd.heap_39 w.params).In h₀) (N : News h₀ L s.heap news) (T : Top p₀ loose₀ mean mg mb h₀) (hk : cs.kind = .function)
    (hd : dp + 8 < recursionLimit) (hu : un + 40 < cLine) {I : Addr} {vs : List Value} {nI : Nat} {ivs : List (List UInt8)} {f : Nat} {tf : Tok} (hf : f ≤ 8) (hI : (I, listOf vs.toArray nI) ∈ news) (hvs : BytesAre vs ivs) (hle : ∀ y ∈ ivs, y.length ≤ 100) (hlv : ivs.length ≤ 100) (hpos : 0 < ivs.length)
    (hret : ∀ t h' tk', Fr h₀ L h' m → News h₀ L h' news → Q (.bytes (dataL f ivs).toArray t) { s with heap := h', toks := tk' }) :
    wpG (model PySem.Challenge.rw_nt0541_01.row.prog w) (ktrTop dp un gd cn cs L a ccd cl outer) (call (.ref 121) [.ref I, .int (f : Nat) tf]) Q E s := by
  revert X
  k_fill
  intro X
  refine G_call ?_
  k_dflt (refine' codeG_def B F X N T ?kA ?kF ?kK ?k6 ?k7 ?k8 ?k9 ?kB ?_ ?c5 ?c2 ?c3 ?c4; (case kA => exact rfl); (case kF => exact rfl); (case kK => exact hk); (case k6 => k_is); (case k7 => k_is); (case k8 => ktr_room); (case k9 => exact BindsTo.of_eq (binds := [(Str.ofString "intervals", Value.ref I), (Str.ofString "fills", Value.int (f : Nat) tf)]) rfl); (case kB => exact locs rfl); (case c5 => decide); (case c2 => exact rfl); (case c3 => exact rfl); (case c4 => exact rfl))
  clear X B F N T
  intro g L' h₁ FG F' N' B' X' T'
  dsimp only
  have hm114 : mg (Str.ofString "_law_stuffed") = some (.ref 114) := mg_of X' T'.g (by k_is)
  have k114 := keeps_K (M := model PySem.Challenge.rw_nt0541_01.row.prog w) (K := Mine.hd.heap_39 w.params) (f := .ref 114) (by k_is) g X'
  have hlen : vs.length = ivs.length := hvs.length
  have hvl : vs.toArray.size = ivs.length := by rw [List.size_toArray, hlen]
  have hsl := sizeLine_eq
  obtain ⟨y₀, r, rfl⟩ : ∃ y r, ivs = y :: r := by
    cases ivs with
    | nil => simp at hpos
    | cons y r => exact ⟨y, r, rfl⟩
  obtain ⟨t₀, hv₀⟩ := hvs.get (i := 0) (l := y₀) rfl
  have hy₀ := hle y₀ (.head _)
  refine G_cons (G_Assign (G_fn1 F' T'.g hm114 k114 (G_any ?_)))
  iterate 3 walk1
  refine item_li N' hI (by simp) (k := 0) (v := .bytes y₀.toArray t₀) (by simpa using hv₀) ?_ (by rw [hvl]; omega)
  refine ⟨F'.keep, ?_⟩
  refine stuffed_spec (s := ⟨h₁, _, _, _, _⟩) B' F' X' N' T' rfl (by show dp + 1 + 3 < _; omega) (by show un + 3 + 24 < _; omega) (by omega) fun t₂ h₂ tk₂ F₂ N₂ => ?_
  refine store_op (s := ⟨h₂, _, _, _, _⟩) F₂ N₂ fun h₃ m₃ F₃ N₃ hfo₃ ho₃ => ?_
  have hin₃ : m₃ "intervals" = some (.ref I) := (ho₃ _ (by decide)).trans rfl
  have hfi₃ : m₃ "fills" = some (.int (f : Nat) tf) := (ho₃ _ (by decide)).trans rfl
  dsimp only
  refine G_cons (G_ForW (h₀ := g) rfl rfl (by passes_own) ?_)
  iterate 12 walk1
  refine call_len_list (hl := ⟨_, (N₃ _ hI).1, rfl, _, rfl⟩) (by rw [hvl]; omega) ?_
  walk1
  refine range2_rows (s := ⟨h₃, _, _, _, _⟩) F₃ N₃ fun h₄ tk₄ t₁ u₁ v₁ hr F₄ N₄ _ => ?_
  rw [hvl] at hr
  have hlr : (y₀ :: r).length = r.length + 1 := rfl
  have hsm : Builtin.Range.small 1 ((y₀ :: r).length : Int) 1 = true := small_one (by omega) (by omega) (by omega) (by omega)
  have hrs : Builtin.Range.rangeSize 1 ((y₀ :: r).length : Int) 1 = ((r.length : Nat) : Int) := by
    unfold Builtin.Range.rangeSize
    rw [if_pos (by decide)]
    by_cases h : (1 : Int) < ((y₀ :: r).length : Int)
    · rw [if_pos h, Int.ediv_one]; omega
    · rw [if_neg h]; omega
  refine GLoop_range (s := ⟨h₄, _, _, _, _⟩) (fun i m' nx => (∃ t, m' "found" = some (.bytes (dataL f ((y₀ :: r).take (i + 1))).toArray t)) ∧ m' "intervals" = some (.ref I) ∧ m' "fills" = some (.int (f : Nat) tf) ∧ nx = news) rfl hr hsm hrs F₄ N₄ ⟨⟨t₂, by rw [hfo₃]; simp [dataL, tailL]⟩, hin₃, hfi₃, rfl⟩ ?_ ?_
  · rintro i tn m₁ nx h tk own J hi ⟨⟨tx, hfo⟩, hin, hfi, hnx⟩ hne hown hJ Fz N₅
    obtain ⟨m₅, F₅, hnu₅, ho₅⟩ := fr_open Fz
    clear Fz
    subst hnx
    have hfo₅ := (ho₅ "found" (by decide)).trans hfo
    have hin₅ := (ho₅ "intervals" (by decide)).trans hin
    have hfi₅ := (ho₅ "fills" (by decide)).trans hfi
    obtain ⟨y, hy⟩ : ∃ y, (y₀ :: r)[i + 1]? = some y := ⟨_, List.getElem?_eq_getElem (by omega)⟩
    have hyl := hle y (List.mem_of_getElem? hy)
    obtain ⟨ty, hvy⟩ := hvs.get hy
    have hyst := stuffL_length y
    have htk : (y₀ :: r).take (i + 1 + 1) = (y₀ :: r).take (i + 1) ++ [y] := by rw [List.take_add_one, hy]; rfl
    have hbl := dataL_le f (k := 100) (l := (y₀ :: r).take (i + 1)) fun z hz => hle z (List.mem_of_mem_take hz)
    rw [List.length_take] at hbl
    have hbl' : (dataL f ((y₀ :: r).take (i + 1))).length ≤ 21000 := by
      have : min (i + 1) (y₀ :: r).length * (2 * 100 + f + 2) ≤ 100 * (2 * 100 + 8 + 2) := Nat.mul_le_mul (by omega) (by omega)
      omega
    generalize hx : dataL f ((y₀ :: r).take (i + 1)) = x at hfo hfo₅ hbl hbl'
    dsimp only
    refine G_cons (G_Assign (G_BinOp (G_any ?_)))
    iterate 6 walk1
    refine bytes_mul_any (b := [255]) (List.cons_ne_nil _ _) (by omega) (by omega) (by decide) fun t₆ k₆ => ?_
    rw [flat255, Int.toNat_natCast]
    refine bytes_add_K (b := x) (c := List.replicate f 255) (d := x ++ List.replicate f 255) (by simp only [List.size_toArray, List.length_replicate]; omega) rfl fun t₇ k₇ => ?_
    iterate 19 walk1
    have efm : ((1 : Int) + (i : Int) + 7).fmod 8 = ((i % 8 : Nat) : Int) := by
      rw [Int.fmod_eq_emod_of_nonneg _ (by decide)]; omega
    rw [efm]
    have i8 : i % 8 < 8 := Nat.mod_lt _ (by decide)
    refine newList_K (s := ⟨h, _, _, _, _⟩) F₅ N₅ (fun D h₆ F₆ N₆ _ => ?_) (by simp only [List.length_cons, List.length_nil]; omega)
    walk1
    refine bytes_K (s := ⟨h₆, _, _, _, _⟩) (ns := [255, 208 + ((i % 8 : Nat) : Int)]) F₆ N₆ ⟨_, (N₆ _ (.head _)).1, rfl, _, rfl⟩ (.cons _ _ (.cons _ _ .nil)) (fun n hn => by rcases List.mem_cons.mp hn with rfl | hn; exact ⟨by decide, by decide⟩; rw [List.mem_singleton.mp hn]; exact ⟨by omega, by omega⟩) (by rw [hsl]; simp) rfl fun h₇ t₈ k₈ F₇ N₇ _ => ?_
    have ec : ([255, 208 + ((i % 8 : Nat) : Int)] : List Int).map (fun n => n.toNat.toUInt8) = [255, UInt8.ofNat (208 + i % 8)] := by
      show [(255 : Int).toNat.toUInt8, (208 + ((i % 8 : Nat) : Int)).toNat.toUInt8] = _
      rw [show (208 + ((i % 8 : Nat) : Int)).toNat = 208 + i % 8 by omega]; rfl
    rw [ec]
    refine bytes_add_K (b := x ++ List.replicate f 255) (c := [255, UInt8.ofNat (208 + i % 8)]) (d := x ++ List.replicate f 255 ++ [255, UInt8.ofNat (208 + i % 8)]) (by simp only [List.size_toArray, List.length_append, List.length_replicate, List.length_cons, List.length_nil]; omega) rfl fun t₉ k₉ => ?_
    refine G_fn1 (s := ⟨h₇, _, _, _, _⟩) F₇ T'.g hm114 k114 (G_any ?_)
    iterate 3 walk1
    refine item_li N₇ (.tail _ (List.mem_append_left _ hI)) (by omega) (k := i + 1) (v := .bytes y.toArray ty) (by simpa using hvy) ?_ (by rw [hvl]; omega)
    refine ⟨F₇.keep, ?_⟩
    refine stuffed_spec (s := ⟨h₇, _, _, _, _⟩) B' F₇ X' N₇ T' rfl (by show dp + 1 + 3 < _; omega) (by show un + 3 + 24 < _; omega) (by omega) fun t₁₀ h₁₀ tk₁₀ F₁₀ N₁₀ => ?_
    refine bytes_add_K (b := x ++ List.replicate f 255 ++ [255, UInt8.ofNat (208 + i % 8)]) (c := stuffL y) (d := dataL f ((y₀ :: r).take (i + 1 + 1))) (by simp only [List.size_toArray, List.length_append, List.length_replicate, List.length_cons, List.length_nil]; omega) ?_ fun t₁₁ k₁₁ => ?_
    · rw [htk, dataL_snoc f _ _ (by simp), hx, List.length_take, show min (i + 1) (y₀ :: r).length - 1 = i by omega]; simp
    refine store_op (s := ⟨h₁₀, _, _, _, _⟩) F₁₀ N₁₀ fun h₁₁ m₁₁ F₁₁ N₁₁ hfo₁₁ ho₁₁ => ?_
    dsimp only
    refine G_nil ?_
    exact ⟨_, _, m₁₁, _, rfl, F₁₁, news_sub N₁₁ fun p hp => .tail _ hp, fun q hq z => hne q hq (by simpa using z), ⟨_, hfo₁₁⟩, (ho₁₁ _ (by decide)).trans hin₅, (ho₁₁ _ (by decide)).trans hfi₅, rfl⟩
  · rintro h tk m' nx F₅ N₅ ⟨⟨tx, hfo⟩, hin, hfi, hnx⟩
    subst hnx
    rw [← hlr, List.take_length] at hfo
    dsimp only
    refine G_cons (G_Return (G_any ?_))
    walk1
    dsimp only
    refine leaveK_ F₅ N₅ fun kF kN => ?_
    exact hret _ _ _ kF kN
end Mine

end
section
open PySem PySem.W PyProof.Rows PySem.Calls PySem.Spec
set_option Elab.async false
set_option maxRecDepth 100000
set_option maxHeartbeats 1000000
set_option pp.structureInstances false
set_option pp.maxSteps 30000
namespace Mine
open PySem.Sem (wp)
local macro_rules | `(tactic| walk_at "eval Name") => `(tactic| refine nameX_L (by assumption) (by assumption) ?_)
local macro_rules | `(tactic| walk_at "subscriptTail") => `(tactic| ((with_reducible show wpAny _ _ (subscriptTail _ _ (Value.bytes (List.toArray _) _) (Value.int _ _)) _ _ _); (refine KBy.item_N (by omega) (by omega) (by omega) ?_)))
/-- an item of a list of the ledger, the list let go of -/
theorem item_lt {prog : Program} {w : World} {A : Around} {E : Value → Shared → Prop} {s : Shared} {h₀ : Heap} {L D : Addr} {value slice : Expr} {its : Array Value} {n0 : Nat} {news : List (Addr × Obj)} {i : Int} {k : Nat} {ti : Tok} {v : Value} {Q : Value → Shared → Prop} (N : News h₀ L s.heap news) (hmem : (D, listOf its n0) ∈ news)
    (hi : i = (k : Int)) (hk : its[k]? = some v) (h : Q v s) (hsz : its.size ≤ sizeLine)
    (hs : subscripted slice false (.ref D) (.int i ti) = operate [.ref D, .int i ti] (getItem (.ref D) (.int i ti)) := by with_unfolding_all rfl) :
    wpAny (model prog w) A (subscriptTail value slice (.ref D) (.int i ti)) Q E s := by
  have hls : s.heap.IsList D its := ⟨_, (N _ hmem).1, rfl, _, rfl⟩
  have hsl := sizeLine_eq
  have hkl : k < its.size := (Array.getElem?_eq_some_iff.mp hk).1
  exact tail_any hls.typeIs slot_list_getitem.lookup (wpAny_getItem_list hls (by omega) (by omega) (x := v) (by rw [hi]; simpa using hk) h) hs
theorem news_swap {h₀ h : Heap} {L : Addr} {a b : Addr × Obj} {r : List (Addr × Obj)} (N : News h₀ L h (a :: b :: r)) : News h₀ L h (b :: a :: r) := news_sub N fun p hp => by
  simp only [List.mem_cons] at hp ⊢
  rcases hp with h | h | h
  · exact .inr (.inl h)
  · exact .inl h
  · exact .inr (.inr h)
theorem range_size0 (n : Nat) : Builtin.Range.rangeSize 0 (n : Int) 1 = ((n : Nat) : Int) := by
  unfold Builtin.Range.rangeSize
  rw [if_pos (by decide)]
  by_cases h : (0 : Int) < n
  · rw [if_pos h, Int.ediv_one]; omega
  · rw [if_neg h]; omega
theorem W_fn2 {prog : Program} {w : World} {A : Around} {E : Value → Shared → Prop} {s : Shared} {h₀ : Heap} {env : Env} {x : Str} {np cp : Pos} {e e' : Expr} {f : Addr} {Q : Value → Shared → Prop}
    (Kp : ∃ k, (k = Keeper.frame ∨ k = Keeper.machine ∨ k = Keeper.boundFrame) ∧ Looks (model prog w) h₀ (keeperOf (.ref f)) k)
    (hn : ∀ Q', Q' (.ref f) s → wpAny (model prog w) A (eval (.Name x np) env) Q' E s)
    (h : wpAny (model prog w) A (eval e env) (fun v s₁ => wpAny (model prog w) A (eval e' env) (fun v' s₂ => (∀ b o, h₀.get? b = some o → s₂.heap.get? b = some o) ∧ wpAny (model prog w) A (call (.ref f) [v, v']) Q E s₂) E s₁) E s)
    (hst : starEach [e, e'] env = [(false, eval e env), (false, eval e' env)] := by rfl)
    (hmc : eval (.Call (.Name x np) [e, e'] [] cp) env = (do
      let f ← eval (.Name x np) env
      callWith cp f [] (backTo cp (starEach [e, e'] env)) []) := by rfl) :
    wpAny (model prog w) A (eval (.Call (.Name x np) [e, e'] [] cp) env) Q E s := by
  rw [hmc]
  refine wpAny_bind (hn _ ?_)
  rw [hst]
  refine callWith_of (P := fun h' => ∀ b o, h₀.get? b = some o → h'.get? b = some o) rfl (fun h' k => ?_) (evalArgs_plain (spliced_cons (wpAny_mono h (fun v s₁ h₁ => spliced_cons (wpAny_mono h₁ (fun v' s₂ h₂ => spliced_nil h₂) fun _ _ z => z)) fun _ _ z => z)))
  obtain ⟨k', hk', Lk⟩ := Kp
  exact ⟨k', hk', Lk.keeps k⟩
theorem intervals_spec {w : World} {p₀ : Program} {loose₀ : List Str} {mean : ExcName → Option Value} {mg mb : Str → Option Value} {dp un : Nat} {gd : Option (List Code)} {cn : Str} {cs : Scope} {a : Addr} {ccd : Value} {cl : List (Str × Addr)} {outer : List Env} {A₀ : Around} {base h₀ : Heap} {L : Addr} {m : Str → Option Value} {news : List (Addr × Obj)} {s : Shared} {Q E : Value → Shared → Prop}
    (B : Below A₀ base outer h₀) (F : Fr h₀ L s.heap m) (X : (Mine.hd.heap_39 w.params).In h₀) (N : News h₀ L s.heap news) (T : Top p₀ loose₀ mean mg mb h₀) (hk : cs.kind = .function)
    (hd : dp + 8 < recursionLimit) (hu : un + 40 < cLine) {S : Addr} {x y : Int} {tx ty : Tok} {nS : Nat} {rest : List (Addr × Obj)} (hne : news = (S, listOf #[.int x tx, .int y ty] nS) :: rest) (hS : ∀ p ∈ rest, p.1 ≠ S) (hx : 0 ≤ x) (hy : 0 ≤ y) (hy2 : y < 2147483647)
    (hret : ∀ I vs n ivs x' tx' y' ty' nS' h' tk', BytesAre vs ivs → 0 < ivs.length → ivs.length ≤ 10 → (∀ l ∈ ivs, l.length ≤ 5) → 0 ≤ x' → 0 ≤ y' → y' < 2147483647 → Fr h₀ L h' m → News h₀ L h' ((I, listOf vs.toArray n) :: (S, listOf #[.int x' tx', .int y' ty'] nS') :: rest) → (∀ p ∈ news, p.1 < I) → Q (.ref I) { s with heap := h', toks := tk' }) :
    wpG (model PySem.Challenge.rw_nt0541_01.row.prog w) (ktrTop dp un gd cn cs L a ccd cl outer) (call (.ref 107) [.ref S]) Q E s := by
  revert X
  k_fill
  intro X
  refine G_call ?_
  k_dflt (refine' codeG_defC B F X N T ?kA ?kF ?kK ?k6 ?k7 ?k8 ?k9 ?kB ?kN ?_ ?c2 ?c3 ?c4; (case kA => exact rfl); (case kF => exact rfl); (case kK => exact hk); (case k6 => k_is); (case k7 => k_is); (case k8 => ktr_room); (case k9 => exact BindsTo.of_eq (binds := [(Str.ofString "source", Value.ref S)]) rfl); (case kB => exact rfl); (case kN => decide); (case c2 => exact rfl); (case c3 => exact rfl); (case c4 => exact rfl))
  clear X B F N T
  intro g L' h₁ tk₁ cells FG F' N' Y B' X' T' hlt
  subst hne
  have hlen : s.heap.objs.size = s.heap.objs.size := rfl
  obtain ⟨oc, rfl, hoc⟩ := CellsAre.one (n := Str.ofString "source") (c := L' + 1) Y
  have F₁ : Fr g L' h₁ (fun _ => none) := F'
  have hm102 : mg (Str.ofString "_law_take") = some (.ref 102) := mg_of X' T'.g (by k_is)
  have k102 := keeps_K (M := model PySem.Challenge.rw_nt0541_01.row.prog w) (K := Mine.hd.heap_39 w.params) (f := .ref 102) (by k_is) g X'
  dsimp only
  refine G_cons (G_Assign (G_any ?_))
  walk1
  walk1
  refine newList_K (s := ⟨h₁, _, _, _, _⟩) F₁ N' (fun I h₂ F₂ N₂ hI => ?_)
  refine store_op (s := ⟨h₂, _, _, _, _⟩) F₂ N₂ fun h₃ m₃ F₃ N₃ hfo₃ ho₃ => ?_
  dsimp only
  refine G_cons (G_ForW (h₀ := g) rfl rfl (by passes_own) ?_)
  iterate 7 walk1
  refine W_fn2 (h₀ := g) k102 (fun Q' hq => Name_function_global rfl rfl (loadGlobal_global (T'.g.keeps F₃.keep) hm102 hq) (by decide)) ?_
  refine nameX_C N₃ (c := L' + 1) (o := oc) rfl (.tail _ (.head _)) hoc ?_
  walk1
  refine ⟨F₃.keep, ?_⟩
  have hSL : S < L' := hlt _ (.head _)
  have hSI : S < I := hI _ (.tail _ (.head _))
  have hcI : L' + 1 < I := hI _ (.head _)
  have hSc : (L' + 1 : Nat) ≠ S := Nat.ne_of_gt (Nat.lt_succ_of_lt hSL)
  have hoff : ∀ (o : Obj), ∀ p ∈ ((I, o) :: (L' + 1, oc) :: rest), p.1 ≠ S := fun o p hp => by
    rcases List.mem_cons.mp hp with rfl | hp
    · exact Nat.ne_of_gt hSI
    · rcases List.mem_cons.mp hp with rfl | hp
      · exact hSc
      · exact hS p hp
  have N₃' : News g L' h₃ ((S, listOf #[.int x tx, .int y ty] nS) :: (I, listOf [].toArray 0) :: (L' + 1, oc) :: rest) := news_sub N₃ fun p hp => by
    simp only [List.mem_cons, List.singleton_append] at hp ⊢
    rcases hp with h | h | h | h
    · exact .inr (.inr (.inl h))
    · exact .inl h
    · exact .inr (.inl h)
    · exact .inr (.inr (.inr h))
  refine take_spec (s := ⟨h₃, _, _, _, _⟩) B' F₃ X' N₃' T' rfl (by show dp + 1 + 3 < _; omega) (by show un + 3 + 24 < _; omega) rfl (hoff _) hx hy hy2 (by decide) (by decide) fun x₄ tx₄ y₄ ty₄ nS₄ r₄ t₄ h₄ tk₄ hx₄ hy₄ hy₄' hr₄ hr₄' F₄ N₄ => ?_
  iterate 9 walk1
  refine newList_K (s := ⟨h₄, _, _, _, _⟩) F₄ N₄ (fun M h₅ F₅ N₅ hM => ?_) (by rw [sizeLine_eq]; exact Nat.le_of_ble_eq_true rfl)
  refine W_fn2 (s := ⟨h₅, _, _, _, _⟩) (h₀ := g) k102 (fun Q' hq => Name_function_global rfl rfl (loadGlobal_global (T'.g.keeps F₅.keep) hm102 hq) (by decide)) ?_
  refine nameX_C N₅ (c := L' + 1) (o := oc) rfl (.tail _ (.tail _ (.tail _ (.head _)))) hoc ?_
  walk1
  refine ⟨F₅.keep, ?_⟩
  have hSM : S < M := hM _ (.head _)
  have hoff' : ∀ (o o' : Obj), ∀ p ∈ ((M, o) :: (I, o') :: (L' + 1, oc) :: rest), p.1 ≠ S := fun o o' p hp => (List.mem_cons.mp hp).elim (fun z => z ▸ Nat.ne_of_gt hSM) (hoff o' p)
  refine take_spec (s := ⟨h₅, _, _, _, _⟩) B' F₅ X' (news_swap N₅) T' rfl (by show dp + 1 + 3 < _; omega) (by show un + 3 + 24 < _; omega) rfl (hoff' _ _) hx₄ hy₄ hy₄' (by decide) (by decide) fun x₆ tx₆ y₆ ty₆ nS₆ r₆ t₆ h₆ tk₆ hx₆ hy₆ hy₆' hr₆ hr₆' F₆ N₆ => ?_
  obtain ⟨k, rfl⟩ : ∃ k : Nat, r₆ = (k : Int) := ⟨r₆.toNat, by omega⟩
  have hmenu : ∀ (t1 t2 t3 : Tok), ∃ v tv, ([Value.int 1 t1, Value.int 3 t2, Value.int 3 t3].toArray)[k]? = some (.int v tv) ∧ 1 ≤ v ∧ v ≤ 3 := fun t1 t2 t3 => by
    have hk : k = 0 ∨ k = 1 ∨ k = 2 := by omega
    rcases hk with rfl | rfl | rfl
    · exact ⟨1, t1, rfl, by decide, by decide⟩
    · exact ⟨3, t2, rfl, by decide, by decide⟩
    · exact ⟨3, t3, rfl, by decide, by decide⟩
  obtain ⟨v, tv, hv, hv1, hv3⟩ := hmenu _ _ _
  refine item_lt (s := ⟨h₆, _, _, _, _⟩) N₆ (.tail _ (.head _)) rfl hv ?_ (by rw [sizeLine_eq]; exact Nat.le_of_ble_eq_true rfl)
  have hmk : IntMulOk r₄ v := IntMulOk.of_left (intBits_le_64 (by omega) (by omega))
  have hm0 : 0 ≤ r₄ * v := Int.mul_nonneg hr₄ (by omega)
  have hm9 : r₄ * v ≤ 3 * 3 := Int.mul_le_mul (by omega) hv3 (by omega) (by decide)
  iterate 3 walk1
  generalize hmn : r₄ * v = mn at hm0 hm9 ⊢
  obtain ⟨n, hn⟩ : ∃ n : Nat, 1 + mn = (n : Int) := ⟨(1 + mn).toNat, by omega⟩
  rw [hn]
  refine range1_rows (s := ⟨h₆, _, _, _, _⟩) F₆ N₆ fun h₇ tk₇ t₁ u₁ v₁ hr F₇ N₇ _ => ?_
  have hin₇ : m₃ "found" = some (.ref I) := hfo₃
  have N₈ : News g L' h₇ ((I, listOf [].toArray 0) :: (S, listOf #[.int x₆ tx₆, .int y₆ ty₆] nS₆) :: (L' + 1, oc) :: rest) := news_sub N₇ fun p hp => by
    simp only [List.mem_cons] at hp ⊢
    rcases hp with h | h | h | h
    · exact .inr (.inr (.inl h))
    · exact .inl h
    · exact .inr (.inr (.inr (.inl h)))
    · exact .inr (.inr (.inr (.inr h)))
  refine GLoop_range (s := ⟨h₇, _, _, _, _⟩) (fun i m' nx => ∃ vs nI ivs x tx y ty nS, m' "found" = some (.ref I) ∧ nx = (I, listOf vs.toArray nI) :: (S, listOf #[.int x tx, .int y ty] nS) :: (L' + 1, oc) :: rest ∧ BytesAre vs ivs ∧ ivs.length = i ∧ (∀ l ∈ ivs, l.length ≤ 5) ∧ 0 ≤ x ∧ 0 ≤ y ∧ y < 2147483647) rfl hr (small_one (by omega) (by omega) (by omega) (by omega)) (range_size0 n) F₇ N₈ ⟨[], _, [], _, _, _, _, _, hfo₃, rfl, .nil, rfl, nofun, hx₆, hy₆, hy₆'⟩ ?_ ?_
  · rintro i tn m₁ nx h tk own J hi ⟨vs, nI, ivs, x, tx, y, ty, nS, hfo, rfl, hvs, hil, hl5, hx, hy, hy2⟩ hne hown hJ Fz N₉
    obtain ⟨m₉, F₉, hnu₉, ho₉⟩ := fr_open Fz
    clear Fz
    have hfo₉ := (ho₉ "found" (by decide)).trans hfo
    dsimp only
    refine G_cons (G_any (LCg.Assign_ListComp_U F₉ rfl rfl rfl (by decide) rfl (by decide) rfl rfl rfl ?_))
    iterate 4 walk1
    have NA : News g L' h ((S, listOf #[.int x tx, .int y ty] nS) :: (I, listOf vs.toArray nI) :: (L' + 1, oc) :: (rest ++ own)) := news_swap N₉
    have hSJ : S ≠ J := hne (S, _) (.tail _ (.head _))
    have hoff₃ : ∀ (o : Obj), ∀ p ∈ ((I, o) :: (L' + 1, oc) :: (rest ++ own)), p.1 ≠ S := fun o p hp => by
      rcases List.mem_cons.mp hp with rfl | hp
      · exact Nat.ne_of_gt hSI
      · rcases List.mem_cons.mp hp with rfl | hp
        · exact hSc
        · rcases List.mem_append.mp hp with hp | hp
          · exact hS p hp
          · rw [hown p hp]; exact hSJ.symm
    refine W_fn2 (s := ⟨h, _, _, _, _⟩) (h₀ := g) k102 (fun Q' hq => Name_function_global rfl rfl (loadGlobal_global (T'.g.keeps F₉.keep) hm102 hq) (by decide)) ?_
    refine nameX_C N₉ (c := L' + 1) (o := oc) rfl (.tail _ (.tail _ (.head _))) hoc ?_
    walk1
    refine ⟨F₉.keep, ?_⟩
    refine take_spec (s := ⟨h, _, _, _, _⟩) B' F₉ X' NA T' rfl (by show dp + 1 + 3 < _; omega) (by show un + 3 + 24 < _; omega) rfl (hoff₃ _) hx hy hy2 (by decide) (by decide) fun xa txa ya tya nSa ra ta ha tka hxa hya hya' hra hra' Fa Na => ?_
    walk1
    obtain ⟨q, rfl⟩ : ∃ q : Nat, ra = (q : Int) := ⟨ra.toNat, by omega⟩
    refine range1_rows (s := ⟨ha, _, _, _, _⟩) Fa Na fun hb tkb t₁ u₁ v₁ hrb Fb Nb _ => ?_
    refine LCg.CompSrc.range (s₁ := ⟨hb, _, _, _, _⟩) rfl Fb Nb hrb (small_one (by omega) (by omega) (by omega) (by omega)) (range_size0 q) (by rw [sizeLine_eq]; omega) (fun gg => ?_)
    refine (show ∀ (k i : Nat) (ys : List Value) (nw : List (Addr × Obj)), (∃ ks x tx y ty nS, IntsAre ys ks ∧ (∀ n ∈ ks, 0 ≤ n ∧ n < 256) ∧ ys.length = i ∧ i + k = q ∧ nw = (S, listOf #[.int x tx, .int y ty] nS) :: (I, listOf vs.toArray nI) :: (L' + 1, oc) :: (rest ++ own) ∧ 0 ≤ x ∧ 0 ≤ y ∧ y < 2147483647) → LCg.CompRest _ _ _ _ _ _ _ _ _ _ _ _ _ _ _ k i ys nw from ?_) q 0 [] _ ⟨[], _, _, _, _, _, .nil, nofun, rfl, Nat.zero_add _, rfl, hxa, hya, hya'⟩
    intro k
    induction k with
    | zero =>
      rintro i ys nw ⟨ks, x, tx, y, ty, nS, hks, h256, hyl, hik, rfl, hx, hy, hy2⟩
      refine LCg.CompRest.zero fun D hc tkc Fc Nc offc => ?_
      dsimp only
      obtain ⟨mc, Fd, hocd, hocf⟩ := fr_open Fc
      clear Fc
      have hfod := (hocf "found" (by decide)).trans hfo₉
      have hIJ : I < J := hJ _ (.head _)
      have hDS : D ≠ S := Ne.symm offc.1
      have hDI : D ≠ I := Ne.symm offc.2.1
      have hIr : ∀ p ∈ ((L' + 1, oc) :: (rest ++ own)), p.1 ≠ I := fun p hp => by
        rcases List.mem_cons.mp hp with rfl | hp
        · exact Nat.ne_of_lt hcI
        · rcases List.mem_append.mp hp with hp | hp
          · exact Nat.ne_of_lt (hI p (.tail _ (.tail _ hp)))
          · rw [hown p hp]; exact Nat.ne_of_gt hIJ
      refine G_cons (G_liAppend Fd hfod Nc (.tail _ (.tail _ (.head _))) (G_any ?_))
      iterate 6 walk1
      refine bytes_K (s := ⟨hc, _, _, _, _⟩) Fd Nc ⟨_, (Nc _ (.head _)).1, rfl, _, rfl⟩ hks h256 (by rw [sizeLine_eq]; omega) rfl fun hd te tke Fe Ne _ => ?_
      have hkl := IntsAre.length hks
      have hvl := hvs.length
      refine append_K (s := ⟨hd, _, _, _, _⟩) Fe Ne (.tail hDI (.tail (Nat.ne_of_lt hSI) (.head hIr))) (fun hf Ff Nf => ⟨nofun, ?_⟩) (by rw [List.size_toArray, sizeLine_eq]; omega)
      dsimp only
      rw [List.push_toArray] at Nf
      refine G_nil ?_
      refine ⟨_, _, mc, (I, listOf (vs ++ [Value.bytes (ks.map fun n => n.toNat.toUInt8).toArray te]).toArray (nI + 1)) :: (S, listOf #[.int x tx, .int y ty] nS) :: (L' + 1, oc) :: rest, rfl, Ff, news_swap (news_sub Nf fun p hp => .tail _ hp), fun p hp z => ?_, vs ++ [Value.bytes (ks.map fun n => n.toNat.toUInt8).toArray te], nI + 1, ivs ++ [ks.map fun n => n.toNat.toUInt8], x, tx, y, ty, nS, hfod, rfl, hvs.snoc _ _, by rw [List.length_append, hil]; rfl, fun z hz => ?_, hx, hy, hy2⟩
      · have z' : p.1 = J := by simpa using z
        simp only [List.mem_cons] at hp
        rcases hp with rfl | rfl | rfl | hp
        · exact Nat.ne_of_lt hIJ z'
        · exact hSJ z'
        · exact hne _ (.tail _ (.tail _ (.head _))) z'
        · exact hne _ (.tail _ (.tail _ (.tail _ hp))) z'
      · rcases List.mem_append.mp hz with hz | hz
        · exact hl5 z hz
        · rw [List.mem_singleton.mp hz, List.length_map]; omega
    | succ k ih =>
      rintro i ys nw ⟨ks, x, tx, y, ty, nS, hks, h256, hyl, hik, rfl, hx, hy, hy2⟩
      refine LCg.CompRest.succ fun v II oI C oC D m₂ hc tkc E' hP hC hxx Fc Nc offc hnec => ?_
      iterate 14 walk1
      refine newList_K (s := ⟨hc, _, _, _, _⟩) Fc Nc (fun M hd Fd Nd hMd => ?_) (by rw [sizeLine_eq]; exact Nat.le_of_ble_eq_true rfl)
      refine W_fn2 (s := ⟨hd, _, _, _, _⟩) (h₀ := g) k102 (fun Q' hq => by walk1; exact hq) ?_
      walk1
      walk1
      refine ⟨Fd.keep, ?_⟩
      have hSMd : S < M := hMd _ (.tail _ (.tail _ (.tail _ (.head _))))
      have hSo := offc.1
      have hoff₄ : ∀ (o o₁ : Obj), ∀ p ∈ ((M, o) :: (II, oI) :: (C, oC) :: (D, o₁) :: (I, listOf vs.toArray nI) :: (L' + 1, oc) :: (rest ++ own)), p.1 ≠ S := fun o o₁ p hp => by
        rcases List.mem_cons.mp hp with rfl | hp
        · exact Nat.ne_of_gt hSMd
        rcases List.mem_cons.mp hp with rfl | hp
        · exact Ne.symm hSo.1
        rcases List.mem_cons.mp hp with rfl | hp
        · exact Ne.symm hSo.2.1
        rcases List.mem_cons.mp hp with rfl | hp
        · exact Ne.symm hSo.2.2
        exact hoff₃ _ p hp
      have Ne' : ∀ (o : Obj) (o₁ : Obj) (o₂ : Obj) (hh : Heap), News g L' hh ((M, o) :: (II, oI) :: (C, oC) :: (D, o₁) :: (S, o₂) :: (I, listOf vs.toArray nI) :: (L' + 1, oc) :: (rest ++ own)) → News g L' hh ((S, o₂) :: (M, o) :: (II, oI) :: (C, oC) :: (D, o₁) :: (I, listOf vs.toArray nI) :: (L' + 1, oc) :: (rest ++ own)) := fun o o₁ o₂ hh N => news_sub N fun p hp => by
        simp only [List.mem_cons] at hp ⊢
        rcases hp with h | h | h | h | h | h
        · exact .inr (.inr (.inr (.inr (.inl h))))
        · exact .inl h
        · exact .inr (.inl h)
        · exact .inr (.inr (.inl h))
        · exact .inr (.inr (.inr (.inl h)))
        · exact .inr (.inr (.inr (.inr (.inr h))))
      refine take_spec (s := ⟨hd, _, _, _, _⟩) B' Fd X' (Ne' _ _ _ _ Nd) T' rfl (by show dp + 1 + 3 < _; omega) (by show un + 3 + 24 < _; omega) rfl (hoff₄ _ _) hx hy hy2 (by decide) (by decide) fun xe txe ye tye nSe re te he tke hxe hye hye' hre hre' Fe Ne => ?_
      obtain ⟨j, rfl⟩ : ∃ j : Nat, re = (j : Int) := ⟨re.toNat, by omega⟩
      have hmenu : ∀ (t1 t2 t3 t4 t5 : Tok), ∃ v tv, ([Value.int 255 t1, Value.int 255 t2, Value.int 0 t3, Value.int 208 t4, Value.int 7 t5].toArray)[j]? = some (.int v tv) ∧ 0 ≤ v ∧ v < 256 := fun t1 t2 t3 t4 t5 => by
        have hk : j = 0 ∨ j = 1 ∨ j = 2 ∨ j = 3 ∨ j = 4 := by omega
        rcases hk with rfl | rfl | rfl | rfl | rfl
        · exact ⟨255, t1, rfl, by decide, by decide⟩
        · exact ⟨255, t2, rfl, by decide, by decide⟩
        · exact ⟨0, t3, rfl, by decide, by decide⟩
        · exact ⟨208, t4, rfl, by decide, by decide⟩
        · exact ⟨7, t5, rfl, by decide, by decide⟩
      obtain ⟨v, tv, hv, hv0, hv1⟩ := hmenu _ _ _ _ _
      refine item_lt (s := ⟨he, _, _, _, _⟩) Ne (.tail _ (.head _)) rfl hv ?_ (by rw [sizeLine_eq]; exact Nat.le_of_ble_eq_true rfl)
      refine LCg.CompEnd.intro (news' := (S, listOf #[.int xe txe, .int ye tye] nSe) :: (I, listOf vs.toArray nI) :: (L' + 1, oc) :: (rest ++ own)) Fe Ne (fun p hp => ?_) ⟨offc.1, offc.2⟩ trivial (ih (i + 1) (ys ++ [.int v tv]) _ ⟨ks ++ [v], _, _, _, _, _, ints_snoc hks v tv, fun n hn => ?_, by rw [List.length_append, hyl]; rfl, by omega, rfl, hxe, hye, hye'⟩)
      · simp only [List.mem_cons] at hp ⊢
        rcases hp with h | h | h | h | h
        · exact .inr (.inr (.inl h))
        · exact .inr (.inr (.inr (.inl h)))
        · exact .inr (.inr (.inr (.inr (.inl h))))
        · exact .inl h
        · exact .inr (.inr (.inr (.inr (.inr h))))
      · rcases List.mem_append.mp hn with hn | hn
        · exact h256 n hn
        · rw [List.mem_singleton.mp hn]; exact ⟨hv0, hv1⟩
  · rintro h tk m' nx F₉ N₉ ⟨vs, nI, ivs, x, tx, y, ty, nS, hfo, rfl, hvs, hil, hl5, hx, hy, hy2⟩
    dsimp only
    refine G_cons (G_Return (G_any ?_))
    walk1
    dsimp only
    refine leaveK_ F₉ N₉ fun kF kN => ?_
    exact hret I vs nI ivs _ _ _ _ _ _ _ hvs (by omega) (by omega) hl5 hx hy hy2 kF (news_sub kN fun p hp => by
      simp only [List.mem_cons] at hp ⊢
      rcases hp with h | h | h
      · exact .inl h
      · exact .inr (.inl h)
      · exact .inr (.inr (.inr h))) fun p hp => hI p (.tail _ (by
        rcases List.mem_cons.mp hp with rfl | hp
        · exact .head _
        · exact .tail _ hp))
end Mine

end
section
open PySem PySem.W PyProof.Rows PySem.Calls PySem.Spec
set_option Elab.async false
set_option maxRecDepth 100000
set_option maxHeartbeats 1000000
set_option pp.structureInstances false
set_option pp.maxSteps 30000
namespace Mine
open PySem.Sem (wp)
local macro_rules | `(tactic| walk_at "eval Name") => `(tactic| refine nameX_L (by assumption) (by assumption) ?_)
local macro_rules | `(tactic| walk_at "subscriptTail") => `(tactic| ((with_reducible show wpAny _ _ (subscriptTail _ _ (Value.bytes (List.toArray _) _) (Value.int _ _)) _ _ _); (refine KBy.item_N (by omega) (by omega) (by omega) ?_)))
section
variable {prog : Program} {w : World} {A : Around} {R : Result → Shared → Prop} {s : Shared}
theorem codeG_expr {e : Expr} {env : Env}
    (h : wpG (model prog w) (A.deeper env) (eval e env) (fun v s' => R (.ok (.ret v)) s')
      (fun e' s' => wpAny (model prog w) (A.deeper env) (leaving env e') (fun _ s'' => R (.error e') s'') (fun e'' s'' => R (.error e'') s'') s') s) :
    codeG (model prog w) A (.expr e env) R s := by
  refine codeG_tree rfl ?_
  show wpG _ (A.deeper env) (do point; ret (← (eval e env).onRaise (leaving env))) _ _ s
  exact G_bind (G_point (G_bind (G_onRaise (G_mono h (fun v s' h' => G_pure h') fun _ _ h' => h'))))
theorem codeG_funE {a : Addr} {args : Args} {o : Obj} {fd : FuncData} {body : Expr} (hroom : A.depth < recursionLimit)
    (ho : s.heap.get? a = some o) (hd' : o.data = .func fd) (hco : fd.scope.isCoroutine = false) (hgen : fd.scope.isGenerator = false) (hbody : fd.body = .expr body) (hcd : s.heap.CodeRec fd.code fd.qualname)
    (h : wpAny (model prog w) A.in1 (bindArgs fd args) (fun binds s₁ =>
      wpAny (model prog w) A.in1 (newFunctionEnv fd.scope fd.globals fd.closure binds (fd.qualname ++ ".<locals>.") (some a) fd.code none fd.builtins)
        (fun env s₂ => s₂.heap.NoLimit ∧ codeG (model prog w) A (.expr body env) R s₂) (fun e s' => R (.error e) s') s₁) (fun e s' => R (.error e) s') s) :
    codeG (model prog w) A (.call (.ref a) args) R s := by
  refine codeG_tree rfl ?_
  show wpG _ A.in1 (callAny (.ref a) args) _ _ s
  simp only [callAny]
  refine G_bindA (wpAny_load ho ?_)
  obtain ⟨c, oc, vs, tq, hc, hoc, hdc, hq⟩ := hcd
  simp only [hd', callFunction, hco, hgen, hbody, hc]
  rw [hc] at h
  refine G_bindA (m := field (.ref c) 1) (wpAny_field hoc hdc hq (G_bindA (wpAny_pure ?_)))
  exact G_bindA (wpAny_mono h (fun binds s₁ h₁ => G_bindA (wpAny_mono h₁ (fun env s₂ h₂ => G_bindA (wpAny_enterFrame h₂.1 hroom
    (G_pure (And.intro rfl h₂.2)))) fun _ _ h' => h')) fun _ _ h' => h')
end
section
variable {prog : Program} {w : World} {A A₀ : Around} {s : Shared} {K : Frag} {L : Addr} {h₀ base : Heap} {m mg mb : Str → Option Value} {news : List (Addr × Obj)} {p : Program} {loose : List Str} {mean : ExcName → Option Value}
/-- a lambda of the ledger entered, its leaving told outright -/
theorem codeG_lam {env : Env} {outer : List Env} {R : Result → Shared → Prop} {name qual : Str} {params : Arguments} {body : Expr} {scope : Scope} {cl : List (Str × Addr)} {pm ctv : Value} {c' : Addr} {f : Addr} {args : Args} {binds : List (Str × Value)}
    (B : Below A₀ base outer h₀) (F : Fr h₀ L s.heap m) (X₀ : K.In h₀) (N : News h₀ L s.heap news) (T : Top p loose mean mg mb h₀) (hA : A.frames = some (env :: outer)) (hf : env.frame = some L) (hke : env.scope.kind = .function)
    (ho : (f, kla_obj name qual params body scope cl pm c' ctv) ∈ news) (hcd : s.heap.CodeRec (.ref c') qual) (hroom : A.depth < recursionLimit)
    (hbind : bindArgs (kla_fn name qual params body scope cl pm (.ref c') ctv) args = pure binds) (hloc : ∀ y ∈ binds, scope.names.lookup y.1 = some .local)
    (h : ∀ g L' h₁, Fr h₀ L g m → Fr g L' h₁ (fun y => binds.reverse.lookup y) → News g L' h₁ news → Below A base (env :: outer) g → K.In g → Top p loose mean mg mb g →
      wpG (model prog w) (A.deeper (envX qual scope L' f (.ref c') cl)) (eval body (envX qual scope L' f (.ref c') cl))
        (fun v s' => R (.ok (.ret v)) s')
        (fun e s' => wpAny (model prog w) (A.deeper (envX qual scope L' f (.ref c') cl)) (leaving (envX qual scope L' f (.ref c') cl) e) (fun _ s'' => R (.error e) s'') (fun e' s'' => R (.error e') s'') s')
        { s with heap := h₁, toks := s.toks + binds.length })
    (hco : scope.isCoroutine = false) (hgen : scope.isGenerator = false) (hk : scope.kind = .function)
    (hcell : ∀ x ∈ scope.names, x.2 ≠ .cell) : codeG (model prog w) A (.call (.ref f) args) R s := by
  obtain ⟨FG, BG, st, _⟩ := groundX (R := R) B F N hA hf hke
  refine codeG_funE hroom (N _ ho).1 rfl hco hgen rfl hcd ?_
  rw [hbind]
  refine wpAny_pure (wpAny_newFunctionEnv hcell hloc (fun h₁ hns hsb => ⟨((T.nolimit).keeps F.keep).fresh _ hsb, ?_⟩) hk)
  show codeG _ _ (.expr body (envX qual scope s.heap.objs.size f (.ref c') cl)) _ _
  have hk₁ : ∀ b o, s.heap.get? b = some o → h₁.get? b = some o := fun b o e => hsb.extBut b o (Nat.ne_of_lt (Heap.lt_size e)) (Heap.get?_push_of_some _ e)
  exact codeG_expr (h _ s.heap.objs.size h₁ FG ⟨hns, fun b o e => hk₁ b o (of_hideAll _ e), Nat.le_of_eq (hideAll_size _ _)⟩
    (fun p hp => ⟨hk₁ _ _ (N p hp).1, Nat.ne_of_lt (Heap.lt_size (N p hp).1), hideAll_none _ (List.mem_map_of_mem hp)⟩) BG (X₀.keeps st) (T.keeps st))
end
/-- a call without arguments that always ends with the own exception -/
def Refused (w : World) (p₀ : Program) (loose₀ : List Str) (mean : ExcName → Option Value) (mg mb : Str → Option Value) (base : Heap) (news : List (Addr × Obj)) (P : Addr) (dp un : Nat) (gd : Option (List Code)) (envL : Env) : Prop :=
  ∀ (A₁ : Around) (cn : Str) (cs : Scope) (L a : Addr) (ccd : Value) (cl : List (Str × Addr)) (g : Heap) (m : Str → Option Value) (s : Shared) (Q E : Value → Shared → Prop), Below A₁ base [envL] g → Fr g L s.heap m → (Mine.hd.heap_39 w.params).In g → News g L s.heap news → Top p₀ loose₀ mean mg mb g → cs.kind = .function →
    (∀ e g₂ h' tk', Fr g L g₂ m → RaisedN base [envX cn cs L a ccd cl, envL] e (.ref 44) news h' → g₂.UpToSlots h' → E (.ref e) { s with heap := h', toks := tk' }) →
    wpG (model PySem.Challenge.rw_nt0541_01.row.prog w) (ktrTop dp un gd cn cs L a ccd cl [envL]) (call (.ref P) []) Q E s

theorem lam_split {w : World} {p₀ : Program} {loose₀ : List Str} {mean : ExcName → Option Value} {mg mb : Str → Option Value} {base : Heap} {news : List (Addr × Obj)} {P c' : Addr} {dp un : Nat} {gd : Option (List Code)} {envL : Env}
    {name qual : Str} {params : Arguments} {scope : Scope} {clos : List (Str × Addr)} {pm ctv : Value} {x : Str} {c : Addr} {oc o' : Obj} {vs : Array Value} {tq : Tok} {np np' cp : Pos} {l : List UInt8} {t : Tok}
    (hP : (P, kla_obj name qual params (.Call (.Name (Str.ofString "split_data") np) [.Name x np'] [] cp) scope clos pm c' ctv) ∈ news) (hc' : (c', o') ∈ news) (ho' : o'.data = .fields vs) (hq : vs[1]? = some (.str qual tq))
    (hcx : clos.lookup x = some c) (hcm : (c, oc) ∈ news) (hcd : oc.data = .cell (some (.bytes l.toArray t)))
    (hb : bindArgs (kla_fn name qual params (.Call (.Name (Str.ofString "split_data") np) [.Name x np'] [] cp) scope clos pm (.ref c') ctv) ⟨[], []⟩ = pure [])
    (hco : scope.isCoroutine = false) (hgen : scope.isGenerator = false) (hk : scope.kind = .function) (hcell : ∀ x ∈ scope.names, x.2 ≠ .cell)
    (hx1 : scope.names.lookup (Str.ofString "split_data") = some .globalImplicit) (hx2 : scope.names.lookup x = some .free) (hxd : (x == ("__debug__" : Str)) = false) (hxc : (x == ("__classdict__" : Str)) = false)
    (hd : dp + 20 < recursionLimit) (hu : un + 100 < cLine) (hl : l.length ≤ 100000) (hno : scan [] l = none) :
    Refused w p₀ loose₀ mean mg mb base news P dp un gd envL := by
  intro A₁ cn cs L a ccd cl g m s Q E B F X N T hcs hE
  revert X
  k_fill
  intro X
  have hm : mg (Str.ofString "split_data") = some (.ref 81) := mg_of X T.g (by k_is)
  refine G_call ?_
  refine codeG_lam (outer := [envL]) B F X N T rfl rfl hcs hP ⟨c', o', vs, tq, rfl, (N _ hc').1, ho', hq⟩ (by show dp < _; omega) hb (fun y hy => nomatch hy) ?_ hco hgen hk hcell
  intro g' L' h₁ FG F' N' B' X' T'
  have kf := keeps_K (M := model PySem.Challenge.rw_nt0541_01.row.prog w) (K := Mine.hd.heap_39 w.params) (f := .ref 81) (by k_is) g' X'
  dsimp only
  have e1 : (envX qual scope L' P (.ref c') clos).kindOf (Str.ofString "split_data") = some .globalImplicit := hx1
  have e2 : (envX qual scope L' P (.ref c') clos).kindOf x = some .free := hx2
  refine G_fn1 F' T'.g hm kf (G_any ?_) hk e1 (by decide)
  refine nameX_F N' hcx hcm hcd ?_ hk e2 hxd hxc
  refine ⟨F'.keep, ?_⟩
  refine split_spec (s := ⟨h₁, _, _, _, _⟩) B' F' X' N' T' hk (by show dp + 1 + 12 < _; omega) (by show un + 3 + 60 < _; omega) hl ?_ ?_
  · intros
    exact absurd (hno.symm.trans (by assumption)) (by nofun)
  · intro _ e g₂ h' tk' F₂ R U
    refine leave_onX (s := ⟨h', _, _, _, _⟩) B' F₂ R U fun h'' R' U' => ?_
    exact hE e _ _ _ FG R' U'

theorem lam_unstuff {w : World} {p₀ : Program} {loose₀ : List Str} {mean : ExcName → Option Value} {mg mb : Str → Option Value} {base : Heap} {news : List (Addr × Obj)} {P c' : Addr} {dp un : Nat} {gd : Option (List Code)} {envL : Env}
    {name qual : Str} {params : Arguments} {scope : Scope} {clos : List (Str × Addr)} {pm ctv : Value} {x : Str} {c : Addr} {oc o' : Obj} {vs : Array Value} {tq : Tok} {np np' cp : Pos} {l : List UInt8} {t : Tok}
    (hP : (P, kla_obj name qual params (.Call (.Name (Str.ofString "unstuff") np) [.Name x np'] [] cp) scope clos pm c' ctv) ∈ news) (hc' : (c', o') ∈ news) (ho' : o'.data = .fields vs) (hq : vs[1]? = some (.str qual tq))
    (hcx : clos.lookup x = some c) (hcm : (c, oc) ∈ news) (hcd : oc.data = .cell (some (.bytes l.toArray t)))
    (hb : bindArgs (kla_fn name qual params (.Call (.Name (Str.ofString "unstuff") np) [.Name x np'] [] cp) scope clos pm (.ref c') ctv) ⟨[], []⟩ = pure [])
    (hco : scope.isCoroutine = false) (hgen : scope.isGenerator = false) (hk : scope.kind = .function) (hcell : ∀ x ∈ scope.names, x.2 ≠ .cell)
    (hx1 : scope.names.lookup (Str.ofString "unstuff") = some .globalImplicit) (hx2 : scope.names.lookup x = some .free) (hxd : (x == ("__debug__" : Str)) = false) (hxc : (x == ("__classdict__" : Str)) = false)
    (hd : dp + 20 < recursionLimit) (hu : un + 100 < cLine) (hl : l.length ≤ 100000) (hno : unstuffL l = none) :
    Refused w p₀ loose₀ mean mg mb base news P dp un gd envL := by
  intro A₁ cn cs L a ccd cl g m s Q E B F X N T hcs hE
  revert X
  k_fill
  intro X
  have hm : mg (Str.ofString "unstuff") = some (.ref 67) := mg_of X T.g (by k_is)
  refine G_call ?_
  refine codeG_lam (outer := [envL]) B F X N T rfl rfl hcs hP ⟨c', o', vs, tq, rfl, (N _ hc').1, ho', hq⟩ (by show dp < _; omega) hb (fun y hy => nomatch hy) ?_ hco hgen hk hcell
  intro g' L' h₁ FG F' N' B' X' T'
  have kf := keeps_K (M := model PySem.Challenge.rw_nt0541_01.row.prog w) (K := Mine.hd.heap_39 w.params) (f := .ref 67) (by k_is) g' X'
  dsimp only
  have e1 : (envX qual scope L' P (.ref c') clos).kindOf (Str.ofString "unstuff") = some .globalImplicit := hx1
  have e2 : (envX qual scope L' P (.ref c') clos).kindOf x = some .free := hx2
  refine G_fn1 F' T'.g hm kf (G_any ?_) hk e1 (by decide)
  refine nameX_F N' hcx hcm hcd ?_ hk e2 hxd hxc
  refine ⟨F'.keep, ?_⟩
  refine unstuff_spec (s := ⟨h₁, _, _, _, _⟩) B' F' X' N' T' hk (by show dp + 1 + 8 < _; omega) (by show un + 3 + 40 < _; omega) hl ?_ ?_
  · intros
    exact absurd (hno.symm.trans (by assumption)) (by nofun)
  · intro _ e g₂ h' tk' F₂ R U
    refine leave_onX (s := ⟨h', _, _, _, _⟩) B' F₂ R U fun h'' R' U' => ?_
    exact hE e _ _ _ FG R' U'

theorem refused_spec {w : World} {p₀ : Program} {loose₀ : List Str} {mean : ExcName → Option Value} {mg mb : Str → Option Value} {dp un : Nat} {gd : Option (List Code)} {cn : Str} {cs : Scope} {a : Addr} {ccd : Value} {cl : List (Str × Addr)} {A₀ : Around} {base : Heap} {L P : Addr} {m : Str → Option Value} {news : List (Addr × Obj)} {s : Shared} {Q E : Value → Shared → Prop} {fo : Obj} {fd : FuncData}
    (B : Below A₀ base [] base) (F : Fr base L s.heap m) (X : (Mine.hd.heap_39 w.params).In base) (N : News base L s.heap news) (T : Top p₀ loose₀ mean mg mb base) (hk : cs.kind = .function)
    (hd : dp + 30 < recursionLimit) (hu : un + 110 < cLine) (hP : (P, fo) ∈ news) (hPd : fo.data = .func fd)
    (hlam : ∀ P', P' = P → Refused w p₀ loose₀ mean mg mb base news P' (dp + 1) (un + 3) gd (envX cn cs L a ccd cl))
    (hret : ∀ h' tk', Fr base L h' m → News base L h' news → Q (.bool true) { s with heap := h', toks := tk' }) :
    wpG (model PySem.Challenge.rw_nt0541_01.row.prog w) (ktrTop dp un gd cn cs L a ccd cl []) (call (.ref 128) [.ref P]) Q E s := by
  have hm44 : mg (Str.ofString "CodeError") = some (.ref 44) := cls_name (w := w) X T.g
  have Y := cls_of X
  have hTg := T.g
  revert X
  k_fill
  intro X
  refine G_call ?_
  k_dflt (refine' codeG_defR B F X N T ?kA ?kF ?kK ?k6 ?k7 ?k8 ?k9 ?kB ?_ ?c5 ?c2 ?c3 ?c4; (case kA => exact rfl); (case kF => exact rfl); (case kK => exact hk); (case k6 => k_is); (case k7 => k_is); (case k8 => ktr_room); (case k9 => exact BindsTo.of_eq (binds := [(Str.ofString "call", Value.ref P)]) rfl); (case kB => exact locs rfl); (case c5 => decide); (case c2 => exact rfl); (case c3 => exact rfl); (case c4 => exact rfl))
  clear X B F N T
  intro g L' h₁ FG F' N' B' X' T'
  dsimp only
  have hcall : (fun y => List.lookup y [(Str.ofString "call", Value.ref P)].reverse) (Str.ofString "call") = some (.ref P) := rfl
  refine G_cons (G_Try ?_)
  refine G_cons (G_Expr (G_NameCall ?_))
  refine nameX_L F' hcall ?_
  refine G_callWith rfl (G_evalArgs0 ⟨⟨.frame, .inl rfl, ?_⟩, ?_⟩)
  · have ho := (N' _ hP).1
    obtain ⟨fc, fdi, fda, fsl⟩ := fo
    dsimp only at hPd
    subst hPd
    exact (Looks.ld (part := none) ho).andThen .now
  · refine hlam P rfl _ _ _ L' _ _ _ g _ ⟨h₁, _, _, _, _⟩ _ _ B' F' X' N' T' rfl ?_
    intro e g₂ h' tk' F₂ R U
    dsimp only
    refine caught_X (s := ⟨h', _, _, _, _⟩) (g := g) Y hm44 hTg rfl FG rfl R ((Heap.UpToSlots.of_keeps F₂.keep).trans U) fun h'' F₃ N₃ => ?_
    walk1
    walk1
    walk1
    walk1
    exact hret _ _ F₃ N₃
end Mine

end
section
open PySem PySem.W PyProof.Rows PySem.Calls PySem.Spec
set_option Elab.async false
set_option maxRecDepth 100000
set_option maxHeartbeats 1000000
set_option pp.structureInstances false
set_option pp.maxSteps 30000
namespace Mine
open PySem.Sem (wp)
local macro_rules | `(tactic| walk_at "eval Name") => `(tactic| refine nameX_L (by assumption) (by assumption) ?_)
local macro_rules | `(tactic| walk_at "subscriptTail") => `(tactic| ((with_reducible show wpAny _ _ (subscriptTail _ _ (Value.bytes (List.toArray _) _) (Value.int _ _)) _ _ _); (refine KBy.item_N (by omega) (by omega) (by omega) ?_)))
open PySem.SeqAt
section
variable {A : Around} {s : Shared}
theorem eqAt_bytes (a : Array UInt8) (t u : Tok) : EqAt A s (.bytes a t) (.bytes a u) true := fun prog w E Q h => by
  unfold eqBool
  refine wpAny_holding ?_
  refine wpAny_ite_split (fun _ => wpAny_bind (wpAny_rule (wpAny_pure h))) (fun _ => ?_)
  refine wpAny_bind ?_
  refine (eq_bytes ?_ : wpAny (model prog w) A (compareOp .Eq (.bytes a t) (.bytes a u)) _ E s)
  rw [beq_self_eq_true]
  exact wpAny_truthy_bool h
theorem eqAt_int (k : Int) (t u : Tok) : EqAt A s (.int k t) (.int k u) true := fun prog w E Q h => by
  unfold eqBool
  refine wpAny_holding ?_
  refine wpAny_ite_split (fun _ => wpAny_bind (wpAny_rule (wpAny_pure h))) (fun _ => ?_)
  refine wpAny_bind ?_
  refine (P.eq_int ?_ : wpAny (model prog w) A (compareOp .Eq (.int k t) (.int k u)) _ E s)
  rw [beq_self_eq_true]
  exact wpAny_truthy_bool h
theorem all_true (n : Nat) : (List.range n).all (fun _ => true) = true := by simp
theorem eqAt_lists {l b : Addr} {items items2 : Array Value} (hl : s.heap.IsList l items) (hb : s.heap.IsList b items2) (hsz : items.size = items2.size) (hu : A.units < cLine)
    (he : ∀ j (h1 : j < items.size) (h2 : j < items2.size), EqAt A.in1 s items[j] items2[j] true) : EqAt A s (.ref l) (.ref b) true := by
  by_cases hne : l = b
  · subst hne; exact EqAt.same _
  · refine EqAt.of_refs hne ?_
    have z := RcAt.lists (e := fun _ => true) hl hb hsz hu he
    rw [all_true] at z
    exact z
theorem bytes_pair {vs vs' : List Value} {ls : List (List UInt8)} (h : BytesAre vs ls) : BytesAre vs' ls → vs.length = vs'.length ∧ ∀ j (h1 : j < vs.length) (h2 : j < vs'.length), EqAt A s vs[j] vs'[j] true := by
  induction h generalizing vs' with
  | nil => intro h'; cases h'; exact ⟨rfl, fun j h1 => absurd h1 (Nat.not_lt_zero _)⟩
  | cons l t _ ih =>
    intro h'
    cases h' with
    | cons _ t' h' =>
      obtain ⟨e, k⟩ := ih h'
      refine ⟨by simp [e], fun j h1 h2 => ?_⟩
      cases j with
      | zero => exact eqAt_bytes _ _ _
      | succ j => exact k j (by simpa using h1) (by simpa using h2)
theorem ints_pair {vs vs' : List Value} {ls : List Int} (h : IntsAre vs ls) : IntsAre vs' ls → vs.length = vs'.length ∧ ∀ j (h1 : j < vs.length) (h2 : j < vs'.length), EqAt A s vs[j] vs'[j] true := by
  induction h generalizing vs' with
  | nil => intro h'; cases h'; exact ⟨rfl, fun j h1 => absurd h1 (Nat.not_lt_zero _)⟩
  | cons l t _ ih =>
    intro h'
    cases h' with
    | cons _ t' h' =>
      obtain ⟨e, k⟩ := ih h'
      refine ⟨by simp [e], fun j h1 h2 => ?_⟩
      cases j with
      | zero => exact eqAt_int _ _ _
      | succ j => exact k j (by simpa using h1) (by simpa using h2)
end
/-- two pairs of an equal list of octets and an equal list of numbers -/
theorem ne_pair {prog : Program} {w : World} {A : Around} {E : Value → Shared → Prop} {s : Shared} {Q : Value → Shared → Prop} {T T' I J I' J' : Addr} {vs vs' us us' : List Value} {ls : List (List UInt8)} {ns : List Int}
    (hT : s.heap.get? T = some (tupObj [.ref I, .ref J])) (hT' : s.heap.get? T' = some (tupObj [.ref I', .ref J'])) (hI : s.heap.IsList I vs.toArray) (hI' : s.heap.IsList I' vs'.toArray) (hJ : s.heap.IsList J us.toArray) (hJ' : s.heap.IsList J' us'.toArray)
    (hv : BytesAre vs ls) (hv' : BytesAre vs' ls) (hu : IntsAre us ns) (hu' : IntsAre us' ns) (hun : A.units + 64 < cLine) (h : Q (.bool false) s) : wpAny (model prog w) A (compareOp .NotEq (.ref T) (.ref T')) Q E s := by
  have z := RcNeAt.tuples (A := A) (s := s) (e := fun _ => true) (l := T) (b := T') (items := #[.ref I, .ref J]) (items2 := #[.ref I', .ref J']) ⟨_, hT, rfl, _, rfl⟩ ⟨_, hT', rfl, _, rfl⟩ (by omega) (fun j h1 h2 => ?_)
  · exact z prog w E Q h
  · have hb := bytes_pair (A := A.in1.in1) (s := s) hv hv'
    have hi := ints_pair (A := A.in1.in1) (s := s) hu hu'
    match j with
    | 0 => exact eqAt_lists hI hI' (by simpa using hb.1) (by show A.units + 1 < _; omega) fun j h1 h2 => hb.2 j (by simpa using h1) (by simpa using h2)
    | 1 => exact eqAt_lists hJ hJ' (by simpa using hi.1) (by show A.units + 1 < _; omega) fun j h1 h2 => hi.2 j (by simpa using h1) (by simpa using h2)
theorem ne_bytes_same {prog : Program} {w : World} {A : Around} {E : Value → Shared → Prop} {s : Shared} {Q : Value → Shared → Prop} {a : Array UInt8} {t u : Tok} (h : Q (.bool false) s) : wpAny (model prog w) A (compareOp .NotEq (.bytes a t) (.bytes a u)) Q E s :=
  ne_bytes (by simpa using h)
theorem BytesAre.val {vs : List Value} {ls : List (List UInt8)} (h : BytesAre vs ls) : ∀ {i : Nat} {v : Value}, vs[i]? = some v → ∃ l t, ls[i]? = some l ∧ v = .bytes l.toArray t := by
  induction h with
  | nil => intro i v e; simp at e
  | cons l' t' _ ih =>
    intro i v e
    cases i with
    | zero => simp at e; exact ⟨l', t', by simp, e.symm⟩
    | succ i => simpa using ih (by simpa using e)
end Mine

end
section
open PySem PySem.W PyProof.Rows PySem.Calls PySem.Spec
set_option Elab.async false
set_option maxRecDepth 100000
set_option maxHeartbeats 1000000
set_option pp.structureInstances false
set_option pp.maxSteps 30000
namespace Mine
open PySem.Sem (wp)
local macro_rules | `(tactic| walk_at "eval Name") => `(tactic| refine nameX_L (by assumption) (by assumption) ?_)
local macro_rules | `(tactic| walk_at "subscriptTail") => `(tactic| ((with_reducible show wpAny _ _ (subscriptTail _ _ (Value.bytes (List.toArray _) _) (Value.int _ _)) _ _ _); (refine KBy.item_N (by omega) (by omega) (by omega) ?_)))
theorem codeG_topC {prog : Program} {w : World} {A : Around} {s : Shared} {o : Obj} {R : Result → Shared → Prop} {name : Str} {params : Arguments} {body : List Stmt} {scope : Scope} {pm cdv doc dV kV : Value} {f : Addr} {args : Args} {binds : List (Str × Value)}
    (hroom : A.depth < recursionLimit) (hlim : s.heap.NoLimit) (ho : s.heap.get? f = some o) (hd : o.data = .func { docDef name params body scope pm cdv doc with defaults := dV, kwdefaults := kV }) (hcd : s.heap.CodeRec cdv name)
    (hbind : BindsTo s { docDef name params body scope pm cdv doc with defaults := dV, kwdefaults := kV } args binds) (hkind : (binds.all fun y => scope.names.lookup y.1 == some .local || scope.names.lookup y.1 == some .cell) = true)
    (hnd : ((cellsFrom 0 scope.names []).map (·.1)).Nodup)
    (h : ∀ L' h₁ tk cells, L' = s.heap.objs.size → Fr s.heap L' h₁ (bindL (envOfC name scope L' f cdv).kindOf binds fun _ => none) → News s.heap L' h₁ cells →
      CellsAre (bindC (envOfC name scope L' f cdv).kindOf binds fun _ => none) (cellsFrom (L' + 1) scope.names []) cells →
      wpG (model prog w) (A.deeper (envOfC name scope L' f cdv)) (execs body (envOfC name scope L' f cdv))
        (fun fl s' => R (.ok (.ret (match fl with | .ret v => v | _ => .none))) s')
        (fun e s' => wpAny (model prog w) (A.deeper (envOfC name scope L' f cdv)) (leaving (envOfC name scope L' f cdv) e) (fun _ s'' => R (.error e) s'') (fun e' s'' => R (.error e') s'') s')
        { s with heap := h₁, toks := tk })
    (hco : scope.isCoroutine = false := by rfl) (hgen : scope.isGenerator = false := by rfl) (hk : scope.kind = .function := by rfl) : codeG (model prog w) A (.call (.ref f) args) R s := by
  refine codeG_call_function hroom ho hd hco hgen rfl hcd (hbind _ _ _ _ ?_)
  refine wpAny_newFunctionEnv_cells hk (kindsX hkind _) fun env' he s' x => ?_
  subst he
  refine ⟨hlim.keeps x.toInCall.keep, codeG_func ?_⟩
  obtain ⟨h₁, tk, rfl, _⟩ := x.done
  have hk₁ := x.toInCall.keep
  obtain ⟨cells, NC, Y⟩ := Cl.news (h₀ := s.heap) (Nat.le_refl _) fun n c hm => ⟨x.cell n c (lookup_of_mem_nodup (cellsFrom_names scope.names 0 (s.heap.objs.size + 1) [] [] rfl ▸ hnd) hm), x.above n c hm⟩
  exact h s.heap.objs.size h₁ tk cells rfl ⟨x.toInCall.ns, fun b o e => hk₁ b o e, Nat.le_refl _⟩ NC Y
theorem numsL_snoc (k n : Nat) : numsL k (n + 1) = numsL k n ++ [(((k + n) % 8 : Nat) : Int)] := by
  induction n generalizing k with
  | zero => simp [numsL]
  | succ n ih =>
    rw [numsL, ih (k + 1)]
    simp only [numsL, List.cons_append]
    rw [show k + 1 + n = k + (n + 1) by omega]
theorem post_ok (x : WData) : PySem.Challenge.rw_nt0541_01.row.claim.post [x] (.bool true) [x] = true := by
  show (WShape.has [] (.bool true) .bool && (WTm.eq .res (.lit (.bool true))).holds [] { args := [x], res := some (.bool true), after := [x] }) = true
  simp only [WShape.has, WTm.holds, WTm.value, Bool.and_eq_true, List.any_eq_true]
  refine ⟨⟨.bool, by simp [WShape.arms], rfl⟩, ?_⟩
  first
  | rfl
  | (simp [PySem.W.same]; done)
theorem good_true {c : ClaimW} {cl : Str → Option Addr} {mean : ExcName → Option Value} {args : List WData} {s₁ s' : Shared} {cc PP : Addr} (hT : TabsAt [(cc, PP)] s₁.heap) (hr : ∀ a x, c.raises a x = false) (hpost : c.post args (.bool true) args = true)
    (hk : ∀ b o, (ghostOf s₁.heap [(cc, PP)]).get? b = some o → s'.heap.get? b = some o) (hP : ∃ ps, s'.heap.get? PP = some (tabObj ps)) (hos : s'.os = s₁.os) (hg : s'.gens = s₁.gens) (hg0 : s₁.gens = #[]) :
    GoodWG c cl mean args s₁ (.ok (.ret (.bool true))) s' := by
  obtain ⟨ps, hP⟩ := hP
  have keep : ∀ b o, b ≠ PP → s₁.heap.get? b = some o → s'.heap.get? b = some o := fun b o hb e => hk b o (ghost_ne e (by simpa using hb))
  have e0 := (hT _ (.head _)).2
  refine ⟨.inl ⟨.bool true, .bool true, [], rfl, fun x => hr _ _, .bool true, hpost, fun _ => ⟨.nil, nofun⟩⟩, ⟨fun b o e => ?_, fun b o e => ?_⟩, hos, .of_eq (hg.trans hg0)⟩
  · by_cases hb : b = PP
    · subst hb
      rw [e0] at e; cases e
      exact .inr (.inl ⟨((hT _ (.head _)).1.tab e0).isCodeTable, rfl, #[], ps, rfl, by rw [Array.empty_append]; exact hP⟩)
    · exact .inl (keep b o hb e)
  · by_cases hb : b = PP
    · subst hb; exact ⟨_, hP⟩
    · exact ⟨o, keep b o hb e⟩
theorem cells_three {cm : Str → Option Value} {n n' n'' : Str} {c c' c'' : Addr} {cells : List (Addr × Obj)} (x : CellsAre cm [(n, c), (n', c'), (n'', c'')] cells) :
    ∃ o o' o'', cells = [(c, o), (c', o'), (c'', o'')] ∧ o.data = .cell (cm n) ∧ o'.data = .cell (cm n') ∧ o''.data = .cell (cm n'') := by
  cases x with | cons h r => obtain ⟨o', o'', rfl, h', h''⟩ := r.two; exact ⟨_, o', o'', rfl, h, h', h''⟩
theorem drop2 {a b p : Addr × Obj} {r : List (Addr × Obj)} (hp : p ∈ a :: r) : p ∈ a :: b :: r := by
  rcases List.mem_cons.mp hp with rfl | hp
  · exact .head _
  · exact .tail _ (.tail _ hp)
structure Apart (S D I L P : Nat) : Prop where
  s3 : L + 3 < S
  s2 : L + 2 < S
  s1 : L + 1 < S
  s0 : P < S
  si : S < I
  d3 : D ≠ L + 3
  d2 : D ≠ L + 2
  d1 : D ≠ L + 1
  d0 : D ≠ P
  ds : D ≠ S
  di : D ≠ I
  pl : P < L
theorem Apart.upd3 {S D I L P : Nat} {os od oi o3 o2 o1 o0 : Obj} (A : Apart S D I L P) : UpdF (L + 3 : Nat) o3 ((S, os) :: (D, od) :: (I, oi) :: ((L + 3 : Nat), o3) :: ((L + 2 : Nat), o2) :: ((L + 1 : Nat), o1) :: (P, o0) :: []) (fun o => (S, os) :: (D, od) :: (I, oi) :: ((L + 3 : Nat), o) :: ((L + 2 : Nat), o2) :: ((L + 1 : Nat), o1) :: (P, o0) :: []) := by
  obtain ⟨s3, s2, s1, s0, si, d3, d2, d1, d0, ds, di, pl⟩ := A
  refine .tail (Nat.ne_of_gt s3) (.tail d3 (.tail (Nat.ne_of_gt (Nat.lt_trans s3 si)) (.head fun p hp => ?_)))
  simp only [List.mem_cons, List.not_mem_nil, or_false] at hp
  rcases hp with rfl | rfl | rfl
  · exact Nat.ne_of_lt (by omega)
  · exact Nat.ne_of_lt (by omega)
  · exact Nat.ne_of_lt (by omega)
theorem Apart.upd2 {S D I L P : Nat} {os od oi o3 o2 o1 o0 : Obj} (A : Apart S D I L P) : UpdF (L + 2 : Nat) o2 ((S, os) :: (D, od) :: (I, oi) :: ((L + 3 : Nat), o3) :: ((L + 2 : Nat), o2) :: ((L + 1 : Nat), o1) :: (P, o0) :: []) (fun o => (S, os) :: (D, od) :: (I, oi) :: ((L + 3 : Nat), o3) :: ((L + 2 : Nat), o) :: ((L + 1 : Nat), o1) :: (P, o0) :: []) := by
  obtain ⟨s3, s2, s1, s0, si, d3, d2, d1, d0, ds, di, pl⟩ := A
  refine .tail (Nat.ne_of_gt s2) (.tail d2 (.tail (Nat.ne_of_gt (Nat.lt_trans s2 si)) (.tail (Nat.ne_of_gt (Nat.lt_succ_self _)) (.head fun p hp => ?_))))
  simp only [List.mem_cons, List.not_mem_nil, or_false] at hp
  rcases hp with rfl | rfl
  · exact Nat.ne_of_lt (by omega)
  · exact Nat.ne_of_lt (by omega)
theorem Apart.upd1 {S D I L P : Nat} {os od oi o3 o2 o1 o0 : Obj} (A : Apart S D I L P) : UpdF (L + 1 : Nat) o1 ((S, os) :: (D, od) :: (I, oi) :: ((L + 3 : Nat), o3) :: ((L + 2 : Nat), o2) :: ((L + 1 : Nat), o1) :: (P, o0) :: []) (fun o => (S, os) :: (D, od) :: (I, oi) :: ((L + 3 : Nat), o3) :: ((L + 2 : Nat), o2) :: ((L + 1 : Nat), o) :: (P, o0) :: []) := by
  obtain ⟨s3, s2, s1, s0, si, d3, d2, d1, d0, ds, di, pl⟩ := A
  refine .tail (Nat.ne_of_gt s1) (.tail d1 (.tail (Nat.ne_of_gt (Nat.lt_trans s1 si)) (.tail (Nat.ne_of_gt (by omega)) (.tail (Nat.ne_of_gt (Nat.lt_succ_self _)) (.head fun p hp => ?_)))))
  simp only [List.mem_cons, List.not_mem_nil, or_false] at hp
  rcases hp with rfl
  exact Nat.ne_of_lt (by omega)
theorem Apart.updP {S D I L P : Nat} {os od oi o3 o2 o1 o0 : Obj} (A : Apart S D I L P) : UpdF P o0 ((S, os) :: (D, od) :: (I, oi) :: ((L + 3 : Nat), o3) :: ((L + 2 : Nat), o2) :: ((L + 1 : Nat), o1) :: (P, o0) :: []) (fun o => (S, os) :: (D, od) :: (I, oi) :: ((L + 3 : Nat), o3) :: ((L + 2 : Nat), o2) :: ((L + 1 : Nat), o1) :: (P, o) :: []) := by
  obtain ⟨s3, s2, s1, s0, si, d3, d2, d1, d0, ds, di, pl⟩ := A
  exact .tail (Nat.ne_of_gt s0) (.tail d0 (.tail (Nat.ne_of_gt (Nat.lt_trans s0 si)) (.tail (Nat.ne_of_gt (by omega)) (.tail (Nat.ne_of_gt (by omega)) (.tail (Nat.ne_of_gt (by omega)) (.head fun p hp => absurd hp List.not_mem_nil))))))
def rowR : List (List UInt8) := [[], [255], [], [255], [], [255], [], [255], []]
def rowV (t u : Tok) : List Value := [.bytes #[255] t, .bytes #[] u, .bytes #[255] t, .bytes #[] u, .bytes #[255] t, .bytes #[] u, .bytes #[255] t, .bytes #[] u, .bytes #[255] t, .bytes #[] u]
theorem row_are (t u : Tok) : BytesAre (rowV t u) ([255] :: rowR) :=
  .cons [255] t (.cons [] u (.cons [255] t (.cons [] u (.cons [255] t (.cons [] u (.cons [255] t (.cons [] u (.cons [255] t (.cons [] u .nil)))))))))
theorem row_nums : numsL 0 rowR.length = [0, 1, 2, 3, 4, 5, 6, 7, 0] := rfl
theorem row_short : ∀ y ∈ [255] :: rowR, y.length ≤ 100 := by decide
theorem row_data : (dataL 0 ([255] :: rowR)).length ≤ 100000 := by decide
theorem law_holds : PySem.Challenge.rw_nt0541_01.Holds := by
  refine Mine.hd ?_
  k_fill
  intro w s₀ s₁ mg mb G Y fa o pm cd doc dV kV ho hd hcd hD hmg hg args vals as hpre hlay hrd hwl hlo
  have KX := km_in_of Y
  km_tabs Y
  have X := (Ground.X G).1
  have V := (Ground.X G).2
  refine Ground.open G ?_
  intro T B D TE TW
  try (refine guard_noD D (by decide +kernel) ?_; clear D)
  km_lay T hmg ho hd cd
  clear hmg
  wrow_args hpre hlay hrd hwl hlo
  rename_i ns hs0 hlay0 hL1 hr1 hl2 as1 as2 V us as3 hL ra w1 r0 hI hr2 hcond hcond1
  clear w1 r0 ra hr2 hcond1 hl2 hr1 hlay0 hs0 hL1
  have hT9' := hT9
  have he := Dflts.none hD rfl
  subst he
  have he := Dflts.noKw hD
  subst he
  refine G_call ?_
  refine codeG_topC (by decide +kernel) T.nolimit ho hd hcd (BindsTo.of_eq (binds := [(Str.ofString "script", Value.ref V)]) rfl) rfl (by decide +kernel) ?_
  intro L h₁ tk₁ cells hLs F0 N0 CY
  obtain ⟨ow, ou, oa, rfl, how, hou, hoa⟩ := cells_three (n := Str.ofString "wrong") (c := L + 3) (n' := Str.ofString "cut") (c' := L + 2) (n'' := Str.ofString "ahead") (c'' := L + 1) CY
  have N' := ghost_news hT9 F0 N0
  have F' := ghost_fr hT9 F0
  have X' := ghost_K hT9 KX (by kernel_rfl)
  have T' := ghost_top hT9 T
  have C' := ghost_code hT9
  have B' := ghost_below hT9
  have hV := ghost_list hT9 hL
  have hfin : ∀ (h' : Heap) (tk' : Nat) (m' : Str → Option Value) (nw : List (Addr × Obj)) (ps : Array Value), Fr (ghostOf s₁.heap [(132, 130)]) L h' m' → News (ghostOf s₁.heap [(132, 130)]) L h' nw → (130, tabObj ps) ∈ nw →
      GoodWG Challenge.rw_nt0541_01.row.claim (classAt s₀.heap) (ExcName.means s₀.heap) [ofPy (PyData.list (List.map PyData.int ns))] s₁ (Except.ok (Flow.ret (.bool true))) { s₁ with heap := h', toks := tk' } := fun h' tk' m' nw ps F N hm =>
    good_true hT9 (fun _ _ => rfl) (post_ok _) (fun b o e => F.keep b o e) ⟨ps, (N _ hm).1⟩ rfl rfl hg
  generalize hbase : ghostOf s₁.heap [(132, 130)] = base at *
  have hm95 : mg (Str.ofString "_law_pool") = some (.ref 95) := mg_of X' T'.g (by k_is)
  have hm107 : mg (Str.ofString "_law_intervals") = some (.ref 107) := mg_of X' T'.g (by k_is)
  have hm60 : mg (Str.ofString "stuff") = some (.ref 60) := mg_of X' T'.g (by k_is)
  have hm67 : mg (Str.ofString "unstuff") = some (.ref 67) := mg_of X' T'.g (by k_is)
  have hm81 : mg (Str.ofString "split_data") = some (.ref 81) := mg_of X' T'.g (by k_is)
  have hm88 : mg (Str.ofString "join_data") = some (.ref 88) := mg_of X' T'.g (by k_is)
  have hm102 : mg (Str.ofString "_law_take") = some (.ref 102) := mg_of X' T'.g (by k_is)
  have hm114 : mg (Str.ofString "_law_stuffed") = some (.ref 114) := mg_of X' T'.g (by k_is)
  have hm121 : mg (Str.ofString "_law_data") = some (.ref 121) := mg_of X' T'.g (by k_is)
  have hm128 : mg (Str.ofString "_law_is_refused") = some (.ref 128) := mg_of X' T'.g (by k_is)
  have k95 := keeps_K (M := model PySem.Challenge.rw_nt0541_01.row.prog w) (K := Mine.hd.heap_39 w.params) (f := .ref 95) (by k_is) base X'
  have k107 := keeps_K (M := model PySem.Challenge.rw_nt0541_01.row.prog w) (K := Mine.hd.heap_39 w.params) (f := .ref 107) (by k_is) base X'
  have k60 := keeps_K (M := model PySem.Challenge.rw_nt0541_01.row.prog w) (K := Mine.hd.heap_39 w.params) (f := .ref 60) (by k_is) base X'
  have k67 := keeps_K (M := model PySem.Challenge.rw_nt0541_01.row.prog w) (K := Mine.hd.heap_39 w.params) (f := .ref 67) (by k_is) base X'
  have k81 := keeps_K (M := model PySem.Challenge.rw_nt0541_01.row.prog w) (K := Mine.hd.heap_39 w.params) (f := .ref 81) (by k_is) base X'
  have k88 := keeps_K (M := model PySem.Challenge.rw_nt0541_01.row.prog w) (K := Mine.hd.heap_39 w.params) (f := .ref 88) (by k_is) base X'
  have k102 := keeps_K (M := model PySem.Challenge.rw_nt0541_01.row.prog w) (K := Mine.hd.heap_39 w.params) (f := .ref 102) (by k_is) base X'
  have k114 := keeps_K (M := model PySem.Challenge.rw_nt0541_01.row.prog w) (K := Mine.hd.heap_39 w.params) (f := .ref 114) (by k_is) base X'
  have k121 := keeps_K (M := model PySem.Challenge.rw_nt0541_01.row.prog w) (K := Mine.hd.heap_39 w.params) (f := .ref 121) (by k_is) base X'
  have k128 := keeps_K (M := model PySem.Challenge.rw_nt0541_01.row.prog w) (K := Mine.hd.heap_39 w.params) (f := .ref 128) (by k_is) base X'
  have hrl : recursionLimit = 1000 := rfl
  have hcl : cLine = 9900 := rfl
  have hmar : claimMargin = 300 := rfl
  dsimp only
  refine G_cons (G_Assign (G_fn1 F' T'.g hm95 k95 (G_any ?_)))
  refine nameX_L F' (v := .ref V) rfl ?_
  refine ⟨F'.keep, ?_⟩
  refine pool_spec (s := ⟨h₁, _, _, _, _⟩) B' F' X' N' T' rfl (by show 1 + claimMargin + 1 + 3 < _; omega) (by show 4 + 3 + 24 < _; omega) hV hI (by omega) fun S x tx y ty nS h₂ tk₂ hx hy hy2 hS F₂ N₂ => ?_
  refine store_op (s := ⟨h₂, _, _, _, _⟩) F₂ N₂ fun h₃ m₃ F₃ N₃ hso₃ ho₃ => ?_
  dsimp only
  refine G_cons (G_Assign (G_fn1 F₃ T'.g hm107 k107 (G_any ?_)))
  refine nameX_L F₃ hso₃ ?_
  refine ⟨F₃.keep, ?_⟩
  refine intervals_spec (s := ⟨h₃, _, _, _, _⟩) B' F₃ X' N₃ T' rfl (by show 1 + claimMargin + 1 + 8 < _; omega) (by show 4 + 3 + 40 < _; omega) rfl (fun p hp => Nat.ne_of_lt (hS p hp)) hx hy hy2 fun I vs nI ivs x₄ tx₄ y₄ ty₄ nS₄ h₄ tk₄ hvs hpos hle10 hl5 hx₄ hy₄ hy₄' F₄ N₄ hI₄ => ?_
  refine store_op (s := ⟨h₄, _, _, _, _⟩) F₄ N₄ fun h₅ m₅ F₅ N₅ hin₅ ho₅ => ?_
  have hso₅ : m₅ "source" = some (.ref S) := (ho₅ _ (by decide)).trans hso₃
  clear N₄ F₄ N₃ F₃ N₂ F₂ ho₃ ho₅ hso₃ m₃
  have hvl : vs.length = ivs.length := hvs.length
  have hal : ∀ l ∈ ivs, l.length ≤ 100 := fun l hl => Nat.le_trans (hl5 l hl) (by decide)
  have hSI : S < I := hI₄ _ (.head _)
  obtain ⟨y₀, r, rfl⟩ : ∃ y r, ivs = y :: r := by
    cases ivs with
    | nil => simp at hpos
    | cons y r => exact ⟨y, r, rfl⟩
  have hrl9 : (y₀ :: r).length = r.length + 1 := rfl
  obtain ⟨nw₅, hnw₅⟩ : ∃ nw, nw = (I, listOf vs.toArray nI) :: (S, listOf #[.int x₄ tx₄, .int y₄ ty₄] nS₄) :: ([(L + 3, ow), (L + 2, ou), (L + 1, oa)] ++ tabNews [(132, 130)]) := ⟨_, rfl⟩
  rw [← hnw₅] at N₅
  have hIm : (I, listOf vs.toArray nI) ∈ nw₅ := by rw [hnw₅]; exact .head _
  dsimp only
  refine G_cons (G_ForW (h₀ := base) rfl rfl (by passes_own) ?_)
  refine nameX_L F₅ hin₅ ?_
  refine GLoop_list (s := ⟨h₅, _, _, _, _⟩) (fun i m' nx => m' "source" = some (.ref S) ∧ m' "intervals" = some (.ref I) ∧ nx = nw₅) rfl hIm F₅ N₅ ⟨hso₅, hin₅, rfl⟩ ?_ ?_
  · rintro i v m₁ nx h tk own J hi ⟨hso, hin, hnx⟩ hne hown hJ Fz N₆
    obtain ⟨l, t, hl, rfl⟩ := hvs.val (i := i) (v := v) (by simpa using hi)
    have hll := hl5 l (List.mem_of_getElem? hl)
    have hst := stuffL_length l
    obtain ⟨m₆, F₆, hoc₆, ho₆⟩ := fr_open Fz
    clear Fz
    subst hnx
    dsimp only
    refine G_cons (G_If (G_isTrue_Or2 (G_isTrue_Compare1 ?_)))
    refine G_fn1 F₆ T'.g hm60 k60 (G_any (nameX_L F₆ hoc₆ ⟨F₆.keep, ?_⟩))
    refine stuff_spec (s := ⟨h, _, _, _, _⟩) B' F₆ X' N₆ T' rfl (by show 1 + claimMargin + 1 + 3 < _; omega) (by show 4 + 3 + 24 < _; omega) (by omega) fun t₇ h₇ tk₇ F₇ N₇ => ?_
    refine G_fn1 (s := ⟨h₇, _, _, _, _⟩) F₇ T'.g hm114 k114 (G_any (nameX_L F₇ hoc₆ ⟨F₇.keep, ?_⟩))
    refine stuffed_spec (s := ⟨h₇, _, _, _, _⟩) B' F₇ X' N₇ T' rfl (by show 1 + claimMargin + 1 + 3 < _; omega) (by show 4 + 3 + 24 < _; omega) (by omega) fun t₈ h₈ tk₈ F₈ N₈ => ?_
    refine ne_bytes_same (wpAny_truthy_bool ?_)
    rw [if_neg Bool.false_ne_true]
    refine G_isTrue_Compare1 ?_
    refine G_fn1 (s := ⟨h₈, _, _, _, _⟩) F₈ T'.g hm67 k67 (G_fn1 F₈ T'.g hm114 k114 (G_any (nameX_L F₈ hoc₆ ⟨F₈.keep, ?_⟩)))
    refine stuffed_spec (s := ⟨h₈, _, _, _, _⟩) B' F₈ X' N₈ T' rfl (by show 1 + claimMargin + 1 + 3 < _; omega) (by show 4 + 3 + 24 < _; omega) (by omega) fun t₉ h₉ tk₉ F₉ N₉ => ⟨F₉.keep, ?_⟩
    refine unstuff_spec (s := ⟨h₉, _, _, _, _⟩) B' F₉ X' N₉ T' rfl (by show 1 + claimMargin + 1 + 8 < _; omega) (by show 4 + 3 + 40 < _; omega) (by omega) (fun o ho t₁₀ h₁₀ tk₁₀ F₁₀ N₁₀ => ?_) (fun z => absurd z (by rw [unstuff_stuff]; nofun))
    obtain rfl : l = o := Option.some.inj ((unstuff_stuff l).symm.trans ho)
    refine G_any (nameX_L (s := ⟨h₁₀, _, _, _, _⟩) F₁₀ hoc₆ ?_)
    refine ne_bytes_same (wpAny_truthy_bool ?_)
    rw [if_neg Bool.false_ne_true]
    refine G_nil ?_
    dsimp only
    refine G_nil ?_
    exact ⟨h₁₀, _, m₆, _, rfl, F₁₀, N₁₀, fun p hp z => hne p hp (by simpa using z), (ho₆ _ (by decide)).trans hso, (ho₆ _ (by decide)).trans hin, rfl⟩
  rintro h₆ tk₆ m₆ nx F₆ N₆ ⟨hso₆, hin₆, hnx⟩
  subst hnx
  clear F₅ N₅ hso₅ hin₅ m₅
  dsimp only
  refine G_cons (G_any (LCg.Assign_ListComp_U F₆ rfl rfl rfl (by decide) rfl (by decide) rfl rfl rfl ?_))
  iterate 11 walk1
  refine call_len_list (hl := ⟨_, (N₆ _ hIm).1, rfl, _, rfl⟩) (by rw [List.size_toArray]; omega) ?_
  iterate 3 walk1
  have hvz : ((vs.toArray.size : Nat) : Int) - 1 = ((r.length : Nat) : Int) := by rw [List.size_toArray]; omega
  rw [hvz]
  refine range1_rows (s := ⟨h₆, _, _, _, _⟩) F₆ N₆ fun h₇ tk₇ t₁ u₁ v₁ hr₇ F₇ N₇ _ => ?_
  refine LCg.CompSrc.range (s₁ := ⟨h₇, _, _, _, _⟩) rfl F₇ N₇ hr₇ (small_one (by omega) (by omega) (by omega) (by omega)) (range_size0 r.length) (by rw [sizeLine_eq]; omega) (fun gg => ?_)
  refine (show ∀ (k i : Nat) (ys : List Value) (nw : List (Addr × Obj)), (IntsAre ys (numsL 0 i) ∧ i + k = r.length ∧ nw = nx) → LCg.CompRest _ _ _ _ _ _ _ _ _ _ _ _ _ _ _ k i ys nw from ?_) r.length 0 [] _ ⟨.nil, Nat.zero_add _, rfl⟩
  intro k
  induction k with
  | succ k ih =>
    rintro i ys nw ⟨hys, hik, rfl⟩
    refine LCg.CompRest.succ fun v II oI C oC D m₂ hc tkc E' hP hC hxx Fc Nc offc hnec => ?_
    obtain ⟨tv, rfl⟩ := hP
    repeat' walk1
    have e9 : ((0 : Int) + (i : Int)).fmod 8 = ((i % 8 : Nat) : Int) := by
      rw [Int.fmod_eq_emod_of_nonneg _ (by decide)]; omega
    exact LCg.CompEnd.intro Fc Nc nw (fun p hp => hp) offc trivial (ih (i + 1) _ _ ⟨by rw [numsL_snoc, Nat.zero_add, ← e9]; exact ints_snoc hys _ _, by omega, rfl⟩)
  | zero =>
  rintro i ys nw ⟨hys, hik, rfl⟩
  refine LCg.CompRest.zero fun D h₈ tk₈ Fc N₈ offc => ?_
  obtain rfl : i = r.length := by omega
  obtain ⟨m₈, F₈, hnu₈, ho₈⟩ := fr_open Fc
  have hso₈ := (ho₈ "source" (by decide)).trans hso₆
  have hin₈ := (ho₈ "intervals" (by decide)).trans hin₆
  clear Fc
  dsimp only
  refine G_cons (G_Assign (G_fn2 F₈ T'.g hm121 k121 (G_any (nameX_L F₈ hin₈ (G_any ?_)))))
  walk1
  refine ⟨F₈.keep, ?_⟩
  refine data_spec (s := ⟨h₈, _, _, _, _⟩) (f := 0) B' F₈ X' N₈ T' rfl (by show 1 + claimMargin + 1 + 8 < _; omega) (by show 4 + 3 + 40 < _; omega) (by decide) (.tail _ hIm) hvs hal (by omega) (by omega) fun td h₉ tk₉ F₉ N₉ => ?_
  refine store_op (s := ⟨h₉, _, _, _, _⟩) F₉ N₉ fun h₁₀ m₁₀ F₁₀ N₁₀ hda₁₀ ho₁₀ => ?_
  have hso₁₀ := (ho₁₀ "source" (by decide)).trans hso₈
  have hin₁₀ := (ho₁₀ "intervals" (by decide)).trans hin₈
  have hnu₁₀ := (ho₁₀ "numbers" (by decide)).trans hnu₈
  clear F₉ N₉ F₈ N₈ F₇ N₇ F₆ N₆ ho₁₀ ho₈
  dsimp only
  refine G_cons (G_If (G_isTrue_Or2 (G_isTrue_Compare1 ?_)))
  refine G_fn1 F₁₀ T'.g hm88 k88 (G_any (nameX_L F₁₀ hin₁₀ ⟨F₁₀.keep, ?_⟩))
  refine join_spec (s := ⟨h₁₀, _, _, _, _⟩) B' F₁₀ X' N₁₀ T' rfl (by show 1 + claimMargin + 1 + 8 < _; omega) (by show 4 + 3 + 40 < _; omega) (.tail _ hIm) hvs hal (by omega) fun tj h₁₁ tk₁₁ F₁₁ N₁₁ => ?_
  refine G_any (nameX_L (s := ⟨h₁₁, _, _, _, _⟩) F₁₁ hda₁₀ ?_)
  refine ne_bytes_same (wpAny_truthy_bool ?_)
  rw [if_neg Bool.false_ne_true]
  refine G_isTrue_Compare1 ?_
  have hdl := dataL_le 0 (k := 100) hal
  refine G_fn1 (s := ⟨h₁₁, _, _, _, _⟩) F₁₁ T'.g hm81 k81 (G_any (nameX_L F₁₁ hda₁₀ ⟨F₁₁.keep, ?_⟩))
  refine split_spec (s := ⟨h₁₁, _, _, _, _⟩) B' F₁₁ X' N₁₁ T' rfl (by show 1 + claimMargin + 1 + 12 < _; omega) (by show 4 + 3 + 60 < _; omega) (by omega) (fun ivs' nums' hsc vs' us' n1 n2 I' J' Tt h₁₂ tk₁₂ hvs' hus' F₁₂ N₁₂ hI' hIJ' hJT' => ?_) (fun z => absurd z (by rw [scan_data]; nofun))
  rw [scan_data] at hsc
  cases hsc
  refine G_any ?_
  iterate 6 walk1
  refine newTuple_N (s := ⟨h₁₂, _, _, _, _⟩) F₁₂ N₁₂ (fun h₁₃ F₁₃ N₁₃ => ?_) (by rw [sizeLine_eq]; exact Nat.le_of_ble_eq_true rfl)
  refine ne_pair (s := ⟨h₁₃, _, _, _, _⟩) (N₁₃ _ (.tail _ (.head _))).1 (N₁₃ _ (.head _)).1 ⟨_, (N₁₃ _ (.tail _ (.tail _ (.tail _ (.head _))))).1, rfl, _, rfl⟩ ⟨_, (N₁₃ _ (.tail _ (.tail _ (.tail _ (.tail _ (.tail _ hIm)))))).1, rfl, _, rfl⟩ ⟨_, (N₁₃ _ (.tail _ (.tail _ (.head _)))).1, rfl, _, rfl⟩ ⟨_, (N₁₃ _ (.tail _ (.tail _ (.tail _ (.tail _ (.head _)))))).1, rfl, _, rfl⟩ hvs' hvs hus' hys (by show 7 + 64 < _; omega) (wpAny_truthy_bool ?_)
  rw [if_neg Bool.false_ne_true]
  refine G_nil ?_
  dsimp only
  have N₁₄ : News base L h₁₃ ((D, LCg.lst ys) :: nw) := news_sub N₁₃ fun p hp => .tail _ (.tail _ (.tail _ (.tail _ hp)))
  clear N₁₃ N₁₂ N₁₁ N₁₀ F₁₂ F₁₁ F₁₀
  rw [hnw₅] at offc N₁₄
  obtain ⟨oI, oS, o3, o2, o1, o0, -⟩ := offc
  have hl0 : 130 < L := ghost_lt hT9 F0 (130, tabObj #[]) (.head _)
  have s3 : L + 3 < S := hS (L + 3, ow) (.head _)
  have s2 : L + 2 < S := hS (L + 2, ou) (.tail _ (.head _))
  have s1 : L + 1 < S := hS (L + 1, oa) (.tail _ (.tail _ (.head _)))
  have s0 : 130 < S := hS (130, tabObj #[]) (.tail _ (.tail _ (.tail _ (.head _))))
  have nS : ∀ (w3 w2 w1 w0 : Obj) (od oi : Obj), ∀ p ∈ ((D, od) :: (I, oi) :: (L + 3, w3) :: (L + 2, w2) :: (L + 1, w1) :: (130, w0) :: ([] : List (Addr × Obj))), p.1 ≠ S := fun w3 w2 w1 w0 od oi p hp => by
    simp only [List.mem_cons, List.not_mem_nil, or_false] at hp
    rcases hp with rfl | rfl | rfl | rfl | rfl | rfl
    · exact Ne.symm oS
    · exact Nat.ne_of_gt hSI
    · exact Nat.ne_of_lt s3
    · exact Nat.ne_of_lt s2
    · exact Nat.ne_of_lt s1
    · exact Nat.ne_of_lt s0
  have N₁₅ : News base L h₁₃ ((S, listOf #[.int x₄ tx₄, .int y₄ ty₄] nS₄) :: (D, LCg.lst ys) :: (I, listOf vs.toArray nI) :: (L + 3, ow) :: (L + 2, ou) :: (L + 1, oa) :: (130, tabObj #[]) :: []) := news_sub N₁₄ fun p hp => by
    simp only [List.mem_cons, List.not_mem_nil, or_false] at hp
    rcases hp with rfl | rfl | rfl | rfl | rfl | rfl | rfl
    · exact .tail _ (.tail _ (.head _))
    · exact .head _
    · exact .tail _ (.head _)
    · exact .tail _ (.tail _ (.tail _ (.head _)))
    · exact .tail _ (.tail _ (.tail _ (.tail _ (.head _))))
    · exact .tail _ (.tail _ (.tail _ (.tail _ (.tail _ (.head _)))))
    · exact .tail _ (.tail _ (.tail _ (.tail _ (.tail _ (.tail _ (.head _))))))
  clear N₁₄ hIm hnw₅
  refine G_cons (G_Assign (G_fn2 F₁₃ T'.g hm102 k102 (G_any (nameX_L F₁₃ hso₁₀ (G_any ?_)))))
  walk1
  refine ⟨F₁₃.keep, G_any ?_⟩
  refine take_spec (s := ⟨h₁₃, _, _, _, _⟩) B' F₁₃ X' N₁₅ T' rfl (by show 1 + claimMargin + 1 + 3 < _; omega) (by show 4 + 3 + 24 < _; omega) rfl (nS _ _ _ _ _ _) hx₄ hy₄ hy₄' (by decide) (by decide) fun x₁ tx₁ y₁ ty₁ nS₁ rf tf h₁₄ tk₁₄ hx₁ hy₁ hy₁' hrf hrf' F₁₄ N₁₆ => ?_
  obtain ⟨f, rfl⟩ : ∃ f : Nat, rf = (f : Int) := ⟨rf.toNat, by omega⟩
  refine store_op (s := ⟨h₁₄, _, _, _, _⟩) F₁₄ N₁₆ fun h₁₅ m₁₅ F₁₅ N₁₇ hfi₁₅ ho₁₅ => ?_
  have hso₁₅ := (ho₁₅ "source" (by decide)).trans hso₁₀
  have hin₁₅ := (ho₁₅ "intervals" (by decide)).trans hin₁₀
  have hnu₁₅ := (ho₁₅ "numbers" (by decide)).trans hnu₁₀
  have hda₁₅ := (ho₁₅ "data" (by decide)).trans hda₁₀
  clear N₁₅ N₁₆ F₁₄ F₁₃ hso₁₀ hin₁₀ hnu₁₀ hda₁₀ ho₁₅ m₁₀
  have hdf := dataL_le f (k := 100) hal
  have hdf' : (y₀ :: r).length * (2 * 100 + f + 2) ≤ 10 * (2 * 100 + 8 + 2) := Nat.mul_le_mul hle10 (by omega)
  have hdl' : (y₀ :: r).length * (2 * 100 + 0 + 2) ≤ 10 * (2 * 100 + 8 + 2) := Nat.mul_le_mul hle10 (by omega)
  dsimp only
  refine G_cons (G_If (G_isTrue_Compare1 ?_))
  refine G_fn1 F₁₅ T'.g hm81 k81 (G_fn2 F₁₅ T'.g hm121 k121 (G_any (nameX_L F₁₅ hin₁₅ (G_any (nameX_L F₁₅ hfi₁₅ ⟨F₁₅.keep, ?_⟩)))))
  refine data_spec (s := ⟨h₁₅, _, _, _, _⟩) (f := f) B' F₁₅ X' N₁₇ T' rfl (by show 1 + claimMargin + 1 + 8 < _; omega) (by show 4 + 3 + 40 < _; omega) (by omega) (.tail _ (.tail _ (.head _))) hvs hal (by omega) (by omega) fun te h₁₆ tk₁₆ F₁₆ N₁₈ => ⟨F₁₆.keep, ?_⟩
  refine split_spec (s := ⟨h₁₆, _, _, _, _⟩) B' F₁₆ X' N₁₈ T' rfl (by show 1 + claimMargin + 1 + 12 < _; omega) (by show 4 + 3 + 60 < _; omega) (by omega) (fun ivs' nums' hsc vs' us' n1 n2 I' J' Tt h₁₇ tk₁₇ hvs' hus' F₁₇ N₁₉ hI' hIJ' hJT' => ?_) (fun z => absurd z (by rw [scan_data]; nofun))
  rw [scan_data] at hsc
  cases hsc
  refine G_any ?_
  iterate 6 walk1
  refine newTuple_N (s := ⟨h₁₇, _, _, _, _⟩) F₁₇ N₁₉ (fun h₁₈ F₁₈ N₂₀ => ?_) (by rw [sizeLine_eq]; exact Nat.le_of_ble_eq_true rfl)
  refine ne_pair (s := ⟨h₁₈, _, _, _, _⟩) (N₂₀ _ (.tail _ (.head _))).1 (N₂₀ _ (.head _)).1 ⟨_, (N₂₀ _ (.tail _ (.tail _ (.tail _ (.head _))))).1, rfl, _, rfl⟩ ⟨_, (N₂₀ _ (.tail _ (.tail _ (.tail _ (.tail _ (.tail _ (.tail _ (.head _)))))))).1, rfl, _, rfl⟩ ⟨_, (N₂₀ _ (.tail _ (.tail _ (.head _)))).1, rfl, _, rfl⟩ ⟨_, (N₂₀ _ (.tail _ (.tail _ (.tail _ (.tail _ (.tail _ (.head _))))))).1, rfl, _, rfl⟩ hvs' hvs hus' hys (by show 7 + 64 < _; omega) (wpAny_truthy_bool ?_)
  rw [if_neg Bool.false_ne_true]
  refine G_nil ?_
  dsimp only
  have N₂₁ := news_sub N₂₀ fun p hp => List.Mem.tail _ (List.Mem.tail _ (List.Mem.tail _ (List.Mem.tail _ hp)))
  clear N₂₀ N₁₉ N₁₈ N₁₇ F₁₇ F₁₆ F₁₅ hvs' hus'
  refine G_cons (G_Assign (G_any ?_))
  iterate 15 walk1
  refine newList_K (s := ⟨h₁₈, _, _, _, _⟩) F₁₈ N₂₁ (fun M h₁₉ F₁₉ N₂₂ hM => ?_) (by rw [sizeLine_eq]; exact Nat.le_of_ble_eq_true rfl)
  refine W_fn2 (s := ⟨h₁₉, _, _, _, _⟩) (h₀ := base) k102 (fun Q' hq => Name_function_global rfl rfl (loadGlobal_global (T'.g.keeps F₁₉.keep) hm102 hq) (by decide)) ?_
  refine nameX_L F₁₉ hso₁₅ ?_
  walk1
  refine ⟨F₁₉.keep, ?_⟩
  have hMS : ∀ (w3 w2 w1 w0 : Obj) (od oi om : Obj), ∀ p ∈ ((M, om) :: (D, od) :: (I, oi) :: (L + 3, w3) :: (L + 2, w2) :: (L + 1, w1) :: (130, w0) :: ([] : List (Addr × Obj))), p.1 ≠ S := fun w3 w2 w1 w0 od oi om p hp => (List.mem_cons.mp hp).elim (fun z => z ▸ Nat.ne_of_gt (hM _ (.head _))) (nS w3 w2 w1 w0 od oi p)
  refine take_spec (s := ⟨h₁₉, _, _, _, _⟩) B' F₁₉ X' (news_swap N₂₂) T' rfl (by show 1 + claimMargin + 1 + 3 < _; omega) (by show 4 + 3 + 24 < _; omega) rfl (hMS _ _ _ _ _ _ _) hx₁ hy₁ hy₁' (by decide) (by decide) fun x₂ tx₂ y₂ ty₂ nS₂ rw tw h₂₀ tk₂₀ hx₂ hy₂ hy₂' hrw hrw' F₂₀ N₂₃ => ?_
  obtain ⟨kw, rfl⟩ : ∃ kw : Nat, rw = (kw : Int) := ⟨rw.toNat, by omega⟩
  have hmenu : ∀ (t1 t2 t3 t4 t5 : Tok), ∃ b t, ([Value.bytes #[255] t1, Value.bytes #[255, 217] t2, Value.bytes #[255, 255] t3, Value.bytes #[255, 255, 0] t4, Value.bytes #[255, 1, 2] t5].toArray)[kw]? = some (.bytes (List.toArray b) t) ∧ (∀ x, scan x b = none) ∧ b.length ≤ 3 := fun t1 t2 t3 t4 t5 => by
    have hk : kw = 0 ∨ kw = 1 ∨ kw = 2 ∨ kw = 3 ∨ kw = 4 := by omega
    rcases hk with rfl | rfl | rfl | rfl | rfl
    · exact ⟨[255], t1, rfl, bad1, by decide⟩
    · exact ⟨[255, 217], t2, rfl, bad2, by decide⟩
    · exact ⟨[255, 255], t3, rfl, bad3, by decide⟩
    · exact ⟨[255, 255, 0], t4, rfl, bad4, by decide⟩
    · exact ⟨[255, 1, 2], t5, rfl, bad5, by decide⟩
  obtain ⟨bw, tbw, hbw, hbw', hbw3⟩ := hmenu _ _ _ _ _
  refine item_lt (s := ⟨h₂₀, _, _, _, _⟩) N₂₃ (.tail _ (.head _)) rfl hbw ?_ (by rw [sizeLine_eq]; exact Nat.le_of_ble_eq_true rfl)
  refine bytes_add_K (s := ⟨h₂₀, _, _, _, _⟩) (d := dataL 0 (y₀ :: r) ++ bw) (by rw [List.size_toArray, List.size_toArray]; omega) rfl fun twr k₂₀ => ?_
  have N₂₄ : News base L h₂₀ ((S, listOf #[.int x₂ tx₂, .int y₂ ty₂] nS₂) :: (D, LCg.lst ys) :: (I, listOf vs.toArray nI) :: (L + 3, ow) :: (L + 2, ou) :: (L + 1, oa) :: (130, tabObj #[]) :: []) := news_sub N₂₃ fun p hp => drop2 hp
  have AP : Apart S D I L 130 := ⟨s3, s2, s1, s0, hSI, Ne.symm o3, Ne.symm o2, Ne.symm o1, Ne.symm o0, Ne.symm oS, Ne.symm oI, hl0⟩
  refine storeX_C (s := ⟨h₂₀, _, _, _, _⟩) F₂₀ N₂₄ (c := L + 3) rfl AP.upd3 how (fun h₂₁ ow' F₂₁ N₂₅ how' => ?_)
  dsimp only at N₂₅ ⊢
  clear N₂₄ N₂₃ N₂₂ N₂₁ F₂₀ F₁₉ F₁₈ how
  have hnw : scan [] (dataL 0 (y₀ :: r) ++ bw) = none := scan_bad _ _ _ _ hbw'
  refine G_cons (G_If (G_isTrue_Not (G_isTrue_plain (G_fn1 F₂₁ T'.g hm128 k128 (G_any ?_)))))
  refine kla_eval rfl (kla_nest (s := ⟨h₂₁, _, _, _, _⟩) F₂₁ N₂₅ T' C'.1 rfl AP.updP (by kn_triples) (by kn_among) rfl fun f₁ c₁ oc₁ vs₁ t₁ ctv₁ h₂₂ tk₂₂ F₂₂ N₂₆ hoc₁ hvs₁ lc₁ lf₁ => ⟨F₂₂.keep, ?_⟩)
  dsimp only at N₂₆
  refine refused_spec (s := ⟨h₂₂, _, _, _, _⟩) B' F₂₂ X' N₂₆ T' rfl (by show 1 + claimMargin + 1 + 30 < _; omega) (by show 4 + 3 + 110 < _; omega) (.head _) rfl (fun P' hP' => ?_) (fun h₂₃ tk₂₃ F₂₃ N₂₇ => ?_)
  · subst hP'
    exact lam_split (.head _) (.tail _ (.head _)) hoc₁ hvs₁ rfl (.tail _ (.tail _ (.tail _ (.tail _ (.tail _ (.head _)))))) how' rfl rfl rfl rfl (by decide) rfl rfl (by decide) (by decide) (by show 1 + claimMargin + 1 + 1 + 20 < _; omega) (by show 4 + 3 + 3 + 100 < _; omega) (by rw [List.length_append]; omega) hnw
  refine wpAny_truthy_bool ?_
  rw [if_neg (show ¬ ((!true) = true) from Bool.false_ne_true)]
  refine G_nil ?_
  dsimp only
  have N₂₈ := news_sub N₂₇ fun p hp => List.Mem.tail _ (List.Mem.tail _ hp)
  clear N₂₇ N₂₆ N₂₅ F₂₂ F₂₁ hoc₁ hvs₁ lc₁ lf₁ hnw hM hMS
  refine G_cons (G_Assign (G_any ?_))
  iterate 14 walk1
  refine newList_K (s := ⟨h₂₃, _, _, _, _⟩) F₂₃ N₂₈ (fun M h₂₄ F₂₄ N₂₉ hM => ?_) (by rw [sizeLine_eq]; exact Nat.le_of_ble_eq_true rfl)
  refine W_fn2 (s := ⟨h₂₄, _, _, _, _⟩) (h₀ := base) k102 (fun Q' hq => Name_function_global rfl rfl (loadGlobal_global (T'.g.keeps F₂₄.keep) hm102 hq) (by decide)) ?_
  refine nameX_L F₂₄ hso₁₅ ?_
  walk1
  refine ⟨F₂₄.keep, ?_⟩
  have hMS : ∀ (w3 w2 w1 w0 : Obj) (od oi om : Obj), ∀ p ∈ ((M, om) :: (D, od) :: (I, oi) :: (L + 3, w3) :: (L + 2, w2) :: (L + 1, w1) :: (130, w0) :: ([] : List (Addr × Obj))), p.1 ≠ S := fun w3 w2 w1 w0 od oi om p hp => (List.mem_cons.mp hp).elim (fun z => z ▸ Nat.ne_of_gt (hM _ (.head _))) (nS w3 w2 w1 w0 od oi p)
  refine take_spec (s := ⟨h₂₄, _, _, _, _⟩) B' F₂₄ X' (news_swap N₂₉) T' rfl (by show 1 + claimMargin + 1 + 3 < _; omega) (by show 4 + 3 + 24 < _; omega) rfl (hMS _ _ _ _ _ _ _) hx₂ hy₂ hy₂' (by decide) (by decide) fun x₃ tx₃ y₃ ty₃ nS₃ ra ta h₂₅ tk₂₅ hx₃ hy₃ hy₃' hra hra' F₂₅ N₃₀ => ?_
  obtain ⟨ka, rfl⟩ : ∃ ka : Nat, ra = (ka : Int) := ⟨ra.toNat, by omega⟩
  have hmenu : ∀ (t1 t2 t3 t4 : Tok), ∃ b t, ([Value.bytes #[255, 217] t1, Value.bytes #[255, 1] t2, Value.bytes #[255, 255, 0] t3, Value.bytes #[255, 207] t4].toArray)[ka]? = some (.bytes (List.toArray b) t) ∧ (∀ x, scan [] (7 :: (b ++ x)) = none) ∧ b.length ≤ 3 := fun t1 t2 t3 t4 => by
    have hk : ka = 0 ∨ ka = 1 ∨ ka = 2 ∨ ka = 3 := by omega
    rcases hk with rfl | rfl | rfl | rfl
    · exact ⟨[255, 217], t1, rfl, ahead1, by decide⟩
    · exact ⟨[255, 1], t2, rfl, ahead2, by decide⟩
    · exact ⟨[255, 255, 0], t3, rfl, ahead3, by decide⟩
    · exact ⟨[255, 207], t4, rfl, ahead4, by decide⟩
  obtain ⟨ba, tba, hba, hba', hba3⟩ := hmenu _ _ _ _
  refine item_lt (s := ⟨h₂₅, _, _, _, _⟩) N₃₀ (.tail _ (.head _)) rfl hba ?_ (by rw [sizeLine_eq]; exact Nat.le_of_ble_eq_true rfl)
  refine bytes_add_K (s := ⟨h₂₅, _, _, _, _⟩) (b := [7]) (d := 7 :: ba) (by rw [List.size_toArray, List.size_toArray, List.length_singleton]; omega) rfl fun tar k₂₅ => ?_
  refine nameX_L (s := ⟨h₂₅, _, _, _, _⟩) F₂₅ hda₁₅ ?_
  refine bytes_add_K (s := ⟨h₂₅, _, _, _, _⟩) (b := 7 :: ba) (d := 7 :: (ba ++ dataL 0 (y₀ :: r))) (by rw [List.size_toArray, List.size_toArray, List.length_cons]; omega) rfl fun tas k₂₆ => ?_
  have N₃₁ := news_sub N₃₀ fun p hp => drop2 hp
  refine storeX_C (s := ⟨h₂₅, _, _, _, _⟩) F₂₅ N₃₁ (c := L + 1) rfl AP.upd1 hoa (fun h₂₇ oa' F₂₇ N₃₂ hoa' => ?_)
  dsimp only at N₃₂ ⊢
  clear N₃₁ N₃₀ N₂₉ N₂₈ F₂₅ F₂₄ F₂₃ hoa
  have hna : scan [] (7 :: (ba ++ dataL 0 (y₀ :: r))) = none := hba' _
  refine G_cons (G_If (G_isTrue_Not (G_isTrue_plain (G_fn1 F₂₇ T'.g hm128 k128 (G_any ?_)))))
  refine kla_eval rfl (kla_nest (s := ⟨h₂₇, _, _, _, _⟩) F₂₇ N₃₂ T' C'.1 rfl AP.updP (by kn_triples) (by kn_among) rfl fun f₂ c₂ oc₂ vs₂ t₂ ctv₂ h₂₈ tk₂₈ F₂₈ N₃₃ hoc₂ hvs₂ lc₂ lf₂ => ⟨F₂₈.keep, ?_⟩)
  dsimp only at N₃₃
  refine refused_spec (s := ⟨h₂₈, _, _, _, _⟩) B' F₂₈ X' N₃₃ T' rfl (by show 1 + claimMargin + 1 + 30 < _; omega) (by show 4 + 3 + 110 < _; omega) (.head _) rfl (fun P' hP' => ?_) (fun h₂₉ tk₂₉ F₂₉ N₃₄ => ?_)
  · subst hP'
    exact lam_split (.head _) (.tail _ (.head _)) hoc₂ hvs₂ rfl (.tail _ (.tail _ (.tail _ (.tail _ (.tail _ (.tail _ (.tail _ (.head _)))))))) hoa' rfl rfl rfl rfl (by decide) rfl rfl (by decide) (by decide) (by show 1 + claimMargin + 1 + 1 + 20 < _; omega) (by show 4 + 3 + 3 + 100 < _; omega) (by rw [List.length_cons, List.length_append]; omega) hna
  refine wpAny_truthy_bool ?_
  rw [if_neg (show ¬ ((!true) = true) from Bool.false_ne_true)]
  refine G_nil ?_
  dsimp only
  have N₃₅ := news_sub N₃₄ fun p hp => List.Mem.tail _ (List.Mem.tail _ hp)
  clear N₃₄ N₃₃ N₃₂ F₂₈ F₂₇ hoc₂ hvs₂ lc₂ lf₂ hna hM hMS
  refine G_cons (G_Assign (G_any ?_))
  iterate 7 walk1
  refine newList_K (s := ⟨h₂₉, _, _, _, _⟩) F₂₉ N₃₅ (fun M h₃₀ F₃₀ N₃₆ hM => ?_) (by rw [sizeLine_eq]; exact Nat.le_of_ble_eq_true rfl)
  walk1
  refine KMa.mul (s := ⟨h₃₀, _, _, _, _⟩) F₃₀ N₃₆ ⟨_, (N₃₆ _ (.head _)).1, rfl, _, rfl⟩ (ws := rowV tk₂₉ (tk₂₉ + 1)) (by decide) (by decide) (by simp only [List.length_cons, List.length_nil]; decide) rfl (fun Rr h₃₁ F₃₁ N₃₇ hRr => ?_)
  refine store_op (s := ⟨h₃₁, _, _, _, _⟩) F₃₁ N₃₇ fun h₃₂ m₃₂ F₃₂ N₃₈ hro₃₂ ho₃₂ => ?_
  have hso₃₂ := (ho₃₂ "source" (by decide)).trans hso₁₅
  have hin₃₂ := (ho₃₂ "intervals" (by decide)).trans hin₁₅
  have N₃₉ := news_sub N₃₈ fun p hp => drop2 hp
  clear N₃₈ N₃₇ N₃₆ N₃₅ F₃₁ F₃₀ F₂₉ hso₁₅ hin₁₅ hda₁₅ hfi₁₅ hnu₁₅ ho₃₂ hM hRr m₁₅
  dsimp only
  refine G_cons (G_If (G_isTrue_Or2 (G_isTrue_Compare1 ?_)))
  refine G_fn1 F₃₂ T'.g hm88 k88 (G_any (nameX_L F₃₂ hro₃₂ ⟨F₃₂.keep, ?_⟩))
  refine join_spec (s := ⟨h₃₂, _, _, _, _⟩) B' F₃₂ X' N₃₉ T' rfl (by show 1 + claimMargin + 1 + 8 < _; omega) (by show 4 + 3 + 40 < _; omega) (.head _) (row_are _ _) row_short (by decide) fun tj h₃₃ tk₃₃ F₃₃ N₄₀ => ?_
  refine G_fn2 (s := ⟨h₃₃, _, _, _, _⟩) F₃₃ T'.g hm121 k121 (G_any (nameX_L F₃₃ hro₃₂ (G_any ?_)))
  walk1
  refine ⟨F₃₃.keep, ?_⟩
  refine data_spec (s := ⟨h₃₃, _, _, _, _⟩) (f := 0) B' F₃₃ X' N₄₀ T' rfl (by show 1 + claimMargin + 1 + 8 < _; omega) (by show 4 + 3 + 40 < _; omega) (by decide) (.head _) (row_are _ _) row_short (by decide) (by decide) fun td₂ h₃₄ tk₃₄ F₃₄ N₄₁ => ?_
  refine ne_bytes_same (wpAny_truthy_bool ?_)
  rw [if_neg Bool.false_ne_true]
  refine G_isTrue_Compare1 ?_
  refine G_fn1 (s := ⟨h₃₄, _, _, _, _⟩) F₃₄ T'.g hm81 k81 (G_fn2 F₃₄ T'.g hm121 k121 (G_any (nameX_L F₃₄ hro₃₂ (G_any ?_))))
  walk1
  refine ⟨F₃₄.keep, ?_⟩
  refine data_spec (s := ⟨h₃₄, _, _, _, _⟩) (f := 0) B' F₃₄ X' N₄₁ T' rfl (by show 1 + claimMargin + 1 + 8 < _; omega) (by show 4 + 3 + 40 < _; omega) (by decide) (.head _) (row_are _ _) row_short (by decide) (by decide) fun te₂ h₃₅ tk₃₅ F₃₅ N₄₂ => ⟨F₃₅.keep, ?_⟩
  refine split_spec (s := ⟨h₃₅, _, _, _, _⟩) B' F₃₅ X' N₄₂ T' rfl (by show 1 + claimMargin + 1 + 12 < _; omega) (by show 4 + 3 + 60 < _; omega) row_data (fun ivs' nums' hsc vs' us' n1 n2 I' J' Tt h₃₆ tk₃₆ hvs' hus' F₃₆ N₄₃ hI' hIJ' hJT' => ?_) (fun z => absurd z (by rw [scan_data]; nofun))
  rw [scan_data] at hsc
  cases hsc
  rw [row_nums] at hus'
  refine G_any ?_
  iterate 24 walk1
  refine newList_K (s := ⟨h₃₆, _, _, _, _⟩) F₃₆ N₄₃ (fun M h₃₇ F₃₇ N₄₄ hM => ?_) (by rw [sizeLine_eq]; exact Nat.le_of_ble_eq_true rfl)
  walk1
  refine newTuple_N (s := ⟨h₃₇, _, _, _, _⟩) F₃₇ N₄₄ (fun h₃₈ F₃₈ N₄₅ => ?_) (by rw [sizeLine_eq]; exact Nat.le_of_ble_eq_true rfl)
  refine ne_pair (s := ⟨h₃₈, _, _, _, _⟩) (N₄₅ _ (.tail _ (.tail _ (.head _)))).1 (N₄₅ _ (.head _)).1 ⟨_, (N₄₅ _ (.tail _ (.tail _ (.tail _ (.tail _ (.head _)))))).1, rfl, _, rfl⟩ ⟨_, (N₄₅ _ (.tail _ (.tail _ (.tail _ (.tail _ (.tail _ (.head _))))))).1, rfl, _, rfl⟩ ⟨_, (N₄₅ _ (.tail _ (.tail _ (.tail _ (.head _))))).1, rfl, _, rfl⟩ ⟨_, (N₄₅ _ (.tail _ (.head _))).1, rfl, _, rfl⟩ hvs' (row_are _ _) hus' (.cons 0 _ (.cons 1 _ (.cons 2 _ (.cons 3 _ (.cons 4 _ (.cons 5 _ (.cons 6 _ (.cons 7 _ (.cons 0 _ .nil))))))))) (by show 7 + 64 < _; omega) (wpAny_truthy_bool ?_)
  rw [if_neg Bool.false_ne_true]
  refine G_nil ?_
  dsimp only
  have N₄₆ := news_sub N₄₅ fun p hp => List.Mem.tail _ (List.Mem.tail _ (List.Mem.tail _ (List.Mem.tail _ (List.Mem.tail _ (List.Mem.tail _ hp)))))
  clear N₄₅ N₄₄ N₄₃ N₄₂ N₄₁ N₄₀ N₃₉ F₃₇ F₃₆ F₃₅ F₃₄ F₃₃ F₃₂ hvs' hus'
  refine G_cons (G_Assign (G_BinOp (G_fn1 (s := ⟨h₃₈, _, _, _, _⟩) F₃₈ T'.g hm114 k114 (G_any ?_))))
  iterate 3 walk1
  obtain ⟨ty0, hv0⟩ : ∃ t, vs.toArray[0]? = some (.bytes y₀.toArray t) := by
    cases hvs with
    | cons l t h => exact ⟨t, rfl⟩
  refine item_lt (s := ⟨h₃₈, _, _, _, _⟩) (k := 0) N₄₆ (.tail _ (.tail _ (.head _))) rfl hv0 ⟨F₃₈.keep, ?_⟩ (by rw [List.size_toArray, sizeLine_eq]; omega)
  have hy05 : y₀.length ≤ 5 := hl5 y₀ (.head _)
  have hst := stuffL_length y₀
  refine stuffed_spec (s := ⟨h₃₈, _, _, _, _⟩) B' F₃₈ X' N₄₆ T' rfl (by show 1 + claimMargin + 1 + 3 < _; omega) (by show 4 + 3 + 24 < _; omega) (by omega) fun tst h₃₉ tk₃₉ F₃₉ N₄₇ => G_any ?_
  iterate 9 walk1
  refine newList_K (s := ⟨h₃₉, _, _, _, _⟩) F₃₉ N₄₇ (fun M h₄₀ F₄₀ N₄₈ hM => ?_) (by rw [sizeLine_eq]; exact Nat.le_of_ble_eq_true rfl)
  refine W_fn2 (s := ⟨h₄₀, _, _, _, _⟩) (h₀ := base) k102 (fun Q' hq => Name_function_global rfl rfl (loadGlobal_global (T'.g.keeps F₄₀.keep) hm102 hq) (by decide)) ?_
  refine nameX_L F₄₀ hso₃₂ ?_
  walk1
  refine ⟨F₄₀.keep, ?_⟩
  have hMS : ∀ (w3 w2 w1 w0 : Obj) (od oi om : Obj), ∀ p ∈ ((M, om) :: (D, od) :: (I, oi) :: (L + 3, w3) :: (L + 2, w2) :: (L + 1, w1) :: (130, w0) :: ([] : List (Addr × Obj))), p.1 ≠ S := fun w3 w2 w1 w0 od oi om p hp => (List.mem_cons.mp hp).elim (fun z => z ▸ Nat.ne_of_gt (hM _ (.head _))) (nS w3 w2 w1 w0 od oi p)
  refine take_spec (s := ⟨h₄₀, _, _, _, _⟩) B' F₄₀ X' (news_swap N₄₈) T' rfl (by show 1 + claimMargin + 1 + 3 < _; omega) (by show 4 + 3 + 24 < _; omega) rfl (hMS _ _ _ _ _ _ _) hx₃ hy₃ hy₃' (by decide) (by decide) fun x₅ tx₅ y₅ ty₅ nS₅ rc tc h₄₁ tk₄₁ hx₅ hy₅ hy₅' hrc hrc' F₄₁ N₄₉ => ?_
  obtain ⟨kc, rfl⟩ : ∃ kc : Nat, rc = (kc : Int) := ⟨rc.toNat, by omega⟩
  have hmenu : ∀ (t1 t2 t3 : Tok), ∃ b t, ([Value.bytes #[255] t1, Value.bytes #[255, 208] t2, Value.bytes #[255, 5] t3].toArray)[kc]? = some (.bytes (List.toArray b) t) ∧ unstuffL b = none ∧ b.length ≤ 3 := fun t1 t2 t3 => by
    have hk : kc = 0 ∨ kc = 1 ∨ kc = 2 := by omega
    rcases hk with rfl | rfl | rfl
    · exact ⟨[255], t1, rfl, rfl, by decide⟩
    · exact ⟨[255, 208], t2, rfl, rfl, by decide⟩
    · exact ⟨[255, 5], t3, rfl, rfl, by decide⟩
  obtain ⟨bc, tbc, hbc, hbc', hbc3⟩ := hmenu _ _ _
  refine item_lt (s := ⟨h₄₁, _, _, _, _⟩) N₄₉ (.tail _ (.head _)) rfl hbc ?_ (by rw [sizeLine_eq]; exact Nat.le_of_ble_eq_true rfl)
  refine bytes_add_K (s := ⟨h₄₁, _, _, _, _⟩) (d := stuffL y₀ ++ bc) (by rw [List.size_toArray, List.size_toArray]; omega) rfl fun tcr k₄₁ => ?_
  have N₅₀ := news_sub N₄₉ fun p hp => drop2 hp
  refine storeX_C (s := ⟨h₄₁, _, _, _, _⟩) F₄₁ N₅₀ (c := L + 2) rfl AP.upd2 hou (fun h₄₂ ou' F₄₂ N₅₁ hou' => ?_)
  dsimp only at N₅₁ ⊢
  clear N₅₀ N₄₉ N₄₈ N₄₇ N₄₆ F₄₁ F₄₀ F₃₉ F₃₈ hou
  have hnc : unstuffL (stuffL y₀ ++ bc) = none := cut_bad _ _ hbc'
  refine G_cons (G_Return (G_fn1 F₄₂ T'.g hm128 k128 (G_any ?_)))
  refine kla_eval rfl (kla_nest (s := ⟨h₄₂, _, _, _, _⟩) F₄₂ N₅₁ T' C'.1 rfl AP.updP (by kn_triples) (by kn_among) rfl fun f₃ c₃ oc₃ vs₃ t₃ ctv₃ h₄₃ tk₄₃ F₄₃ N₅₂ hoc₃ hvs₃ lc₃ lf₃ => ⟨F₄₃.keep, ?_⟩)
  dsimp only at N₅₂
  refine refused_spec (s := ⟨h₄₃, _, _, _, _⟩) B' F₄₃ X' N₅₂ T' rfl (by show 1 + claimMargin + 1 + 30 < _; omega) (by show 4 + 3 + 110 < _; omega) (.head _) rfl (fun P' hP' => ?_) (fun h₄₄ tk₄₄ F₄₄ N₅₃ => ?_)
  · subst hP'
    exact lam_unstuff (.head _) (.tail _ (.head _)) hoc₃ hvs₃ rfl (.tail _ (.tail _ (.tail _ (.tail _ (.tail _ (.tail _ (.head _))))))) hou' rfl rfl rfl rfl (by decide) rfl rfl (by decide) (by decide) (by show 1 + claimMargin + 1 + 1 + 20 < _; omega) (by show 4 + 3 + 3 + 100 < _; omega) (by rw [List.length_append]; omega) hnc
  dsimp only
  exact hfin _ _ _ _ _ F₄₄ N₅₃ (.tail _ (.tail _ (.tail _ (.tail _ (.tail _ (.tail _ (.tail _ (.tail _ (.head _)))))))))
end Mine

end
theorem PySem.Challenge.cw_nt0541_01_holds : PySem.Challenge.rw_nt0541_01.Holds :=
  Mine.law_holds
