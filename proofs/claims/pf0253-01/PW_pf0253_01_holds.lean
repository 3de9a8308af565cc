import PyProof.Rows.All
import Wide.All
import OpenK.AllK
import Wide.FinOn
import PySem.Challenge.RW_pf0253_01
open PySem PySem.W PySem.Spec PySem.Calls PyProof.Rows
set_option Elab.async false
set_option maxRecDepth 100000
set_option compiler.extract_closed false
namespace Mine
local macro_rules | `(tactic| walk_at $s:str) => `(tactic| k_extra $s)
theorem words1 : True := by
  k_with_none
  (k_with "mine shade" => (have wN := trivial; have wF := trivial; have wl := trivial; have wk := trivial; have wq := trivial; have wr := trivial; have wX := trivial; have we := trivial; have wt := trivial; have wh := trivial; have wf := trivial; have wo := trivial; have wb := trivial; have wp := trivial; have wx := trivial; have wy := trivial; have wz := trivial; have wv := trivial; have wM := trivial; have wO := trivial; have wY := trivial))
  (k_with "mine light" => (clear wN wF wl wk wq wr wX we wt wh wf wo wb wp wx wy wz wv wM wO wY))
  trivial
/-- a goal, as one letter -/
theorem cps {P : Prop} (h : ∀ G : Prop, (P → G) → G) : P := h P id
theorem room1 {x k n M : Nat} (h : x + k < M) (e : n ≤ k) : x + n < M := Nat.lt_of_le_of_lt (Nat.add_le_add_left e x) h
theorem room0 {x k M : Nat} (h : x + k < M) : x < M := Nat.lt_of_le_of_lt (Nat.le_add_right x k) h
theorem room2 {x k n n' M : Nat} (h : x + k < M) (e : n + n' ≤ k) : x + n + n' < M := by rw [Nat.add_assoc]; exact room1 h e
theorem room3 {x k n n' n'' M : Nat} (h : x + k < M) (e : n + n' + n'' ≤ k) : x + n + n' + n'' < M := by rw [Nat.add_assoc, Nat.add_assoc, ← Nat.add_assoc n]; exact room1 h e
theorem lk1 {k a b : Int} (h : k < a) (e : a + 1 ≤ b) : k + 1 < b := Int.lt_of_lt_of_le (Int.add_lt_add_right h 1) e
theorem lk2 {k a b : Int} (h : k < a) (e : a + 1 + 1 ≤ b) : k + 1 + 1 < b := lk1 (lk1 h (Int.le_refl _)) e
theorem lk3 {k a b : Int} (h : k < a) (e : a + 1 + 1 + 1 ≤ b) : k + 1 + 1 + 1 < b := lk1 (lk2 h (Int.le_refl _)) e
theorem ilt_le {v c d : Int} (h : v < c) (e : c ≤ d) : v ≤ d := Int.le_trans (Int.le_of_lt h) e
theorem ile_0 {v a : Int} (h : 0 ≤ v) (e : a ≤ 0) : a ≤ v := Int.le_trans e h
theorem i0_1 {k : Int} (h : 0 ≤ k) : 0 ≤ k + 1 := Int.le_add_one h
theorem i0_2 {k : Int} (h : 0 ≤ k) : 0 ≤ k + 1 + 1 := i0_1 (i0_1 h)
theorem i0_3 {k : Int} (h : 0 ≤ k) : 0 ≤ k + 1 + 1 + 1 := i0_1 (i0_2 h)
theorem i0_l {k v : Int} (h : 0 ≤ v) (e : 0 ≤ k) : 0 ≤ k + v := Int.add_nonneg e h
theorem allLt_get {d a : Addr} {o : Obj} : ∀ {l : List (Addr × Obj)}, AllLt d l → (a, o) ∈ l → @LT.lt Nat _ a d := by
  intro l
  induction l with
  | nil => exact fun _ h => nomatch h
  | cons q r ih =>
    intro x h
    unfold AllLt at x
    rcases List.mem_cons.mp h with e | h
    · rw [← e] at x; exact x.1
    · exact ih x.2 h
theorem lt2 {a b : Nat} (h : a < b) : a < b + 1 + 1 := Nat.lt_succ_of_lt (Nat.lt_succ_of_lt h)
theorem lt3 {a b : Nat} (h : a < b) : a < b + 1 + 1 + 1 := Nat.lt_succ_of_lt (lt2 h)
theorem lt4 {a b : Nat} (h : a < b) : a < b + 1 + 1 + 1 + 1 := Nat.lt_succ_of_lt (lt3 h)
theorem sl2 {a : Nat} : a < a + 1 + 1 := Nat.lt_succ_of_lt (Nat.lt_succ_self a)
theorem sl3 {a : Nat} : a < a + 1 + 1 + 1 := Nat.lt_succ_of_lt sl2
theorem sl4 {a : Nat} : a < a + 1 + 1 + 1 + 1 := Nat.lt_succ_of_lt sl3
theorem words2 : True := by
  (k_with "mine room" => (first | assumption | exact room1 (by assumption) (by decide) | exact room2 (by assumption) (by decide) | exact room3 (by assumption) (by decide) | exact room0 (by assumption)))
  trivial
theorem words3 : True := by
  (k_with "mine ktr_room" => ((try simp +zetaDelta only [depth_under_make, depth_under_kw, depth_in1, depth_deeper, depth_caller]); (try dsimp +zetaDelta only [ktrTop]); k_extra "mine room"))
  trivial
local macro_rules | `(tactic| ktr_room) => `(tactic| k_extra "mine ktr_room")
theorem words4 : True := by
  (k_with "mine ktr_units" => ((try simp +zetaDelta only [units_in1, units_deeper, Around.mark_units, units_caller]); (try dsimp +zetaDelta only [ktrTop]); k_extra "mine room"))
  trivial
local macro_rules | `(tactic| ktr_units) => `(tactic| k_extra "mine ktr_units")
theorem words5 : True := by
  (k_with "mine lt" => (first | assumption | exact Nat.lt_succ_self _ | exact sl2 | exact sl3 | exact sl4 | exact Nat.lt_succ_of_lt (by assumption) | exact lt2 (by assumption) | exact lt3 (by assumption) | exact lt4 (by assumption) | exact Nat.lt_add_right _ (by assumption) | exact Nat.lt_add_of_pos_right (by decide) | exact Nat.add_lt_add_left (by decide) _ | exact allLt_get (by assumption) (by k_dflt k_mem)))
  (k_with "mine ne" => with_reducible (first | assumption | exact Ne.symm (by assumption) | exact Nat.ne_of_lt (by k_extra "mine lt") | exact Nat.ne_of_gt (by k_extra "mine lt")))
  (k_with "mine small" => (first | (show @LT.lt Nat _ _ _; k_extra "mine lt") | (show @Ne Nat _ _; k_extra "mine ne") | (show @LE.le Int _ 0 _; first | exact i0_1 (by assumption) | exact i0_2 (by assumption) | exact i0_3 (by assumption) | exact i0_l (by assumption) (by decide)) | (show @LT.lt Int _ _ _; first | exact lk1 (by assumption) (by decide) | exact lk2 (by assumption) (by decide) | exact lk3 (by assumption) (by decide)) | (show @LE.le Int _ _ _; first | exact Int.le_refl _ | exact ilt_le (by assumption) (by decide) | exact ile_0 (by assumption) (by decide)) | (show False; refine absurd (by assumption : @Eq Nat _ _) ?_; k_extra "mine ne")))
  (k_with "mine omega" => (first | assumption | decide | exact Nat.le_trans (by assumption) (by decide) | exact Nat.lt_of_le_of_lt (by assumption) (by decide) | exact Int.lt_of_lt_of_le (by assumption) (by decide) | with_reducible (k_extra "mine small") | omega (config := {})))
  trivial
local macro_rules | `(tactic| omega) => `(tactic| k_extra "mine omega")
theorem words6 : True := by
  (k_with "mine k_ne" => (first | k_extra "mine ne" | (refine neN ?_; (try dsimp only); first | k_extra "mine ne" | omega (config := {}))))
  trivial
local macro_rules | `(tactic| k_ne) => `(tactic| k_extra "mine k_ne")
local macro_rules | `(tactic| k_lt $h:ident) => `(tactic| replace $h := allLt_of $h)
open Sem (wp)
/-- a decoder that may hold a bytearray -/
noncomputable def isDec : Code → Bool
  | .builtin id _ => Builtin.Bytes.decodersThatHold.contains id
  | _ => false
noncomputable def CleanL (l : List (Code × Pos)) : Prop := ∀ x ∈ l, isDec x.1 = false
/-- as wpAny, in contexts alone where no decoder runs -/
noncomputable def wpN {α : Type} (M : Model) (A : Around) (t : Sem α) (Q : α → Shared → Prop) (E : Value → Shared → Prop) (s : Shared) : Prop :=
  ∀ Γ p, Γ.In A → CleanL Γ.below → isDec Γ.code = false → wp M Γ t (fun a _ s' => Q a s') (fun e _ s' => E e s') p s
noncomputable def codeN (M : Model) (A : Around) (c : Code) (R : Result → Shared → Prop) (s : Shared) : Prop :=
  ∀ Γ p, Γ.code = c → Γ.Below A → CleanL Γ.below → wpCode M Γ R p s
theorem clean_cons {c : Code} {p : Pos} {l : List (Code × Pos)} (h : isDec c = false) (hl : CleanL l) : CleanL ((c, p) :: l) := fun x hx => by
  rcases List.mem_cons.mp hx with rfl | hx
  · exact h
  · exact hl x hx
section
variable {α β : Type} {M : Model} {A : Around} {E : Value → Shared → Prop} {s : Shared}
theorem wpN_any {t : Sem α} {Q : α → Shared → Prop} (h : wpAny M A t Q E s) : wpN M A t Q E s := fun Γ p hΓ _ _ => h Γ p hΓ
theorem codeN_any {c : Code} {R : Result → Shared → Prop} (h : codeAny M A c R s) : codeN M A c R s := fun Γ p hc hΓ _ => h Γ p hc hΓ
theorem wpN_pure {a : α} {Q : α → Shared → Prop} (h : Q a s) : wpN M A (pure a) Q E s := fun _ _ _ _ _ => h
theorem wpN_throw {e : Value} {Q : α → Shared → Prop} (h : E e s) : wpN M A (throw e : Sem α) Q E s := fun _ _ _ _ _ => h
theorem wpN_mono {t : Sem α} {Q Q' : α → Shared → Prop} {E' : Value → Shared → Prop} (h : wpN M A t Q E s) (hQ : ∀ a s, Q a s → Q' a s) (hE : ∀ e s, E e s → E' e s) : wpN M A t Q' E' s :=
  fun Γ p h1 h2 h3 => Sem.wp_mono M Γ t (fun a _ s => hQ a s) (fun e _ s => hE e s) p s (h Γ p h1 h2 h3)
theorem codeN_mono {c : Code} {R R' : Result → Shared → Prop} (h : codeN M A c R s) (hR : ∀ r s, R r s → R' r s) : codeN M A c R' s := fun Γ p hc hΓ hl => wpCode_mono hR (h Γ p hc hΓ hl)
theorem wpN_bind {m : Sem α} {f : α → Sem β} {Q : β → Shared → Prop} (h : wpN M A m (fun a s' => wpN M A (f a) Q E s') E s) : wpN M A (m >>= f) Q E s := fun Γ p h1 h2 h3 => by
  rw [Sem.wp_bind']
  exact Sem.wp_mono M Γ m (fun a p' s' h' => h' Γ p' h1 h2 h3) (fun _ _ _ h' => h') p s (h Γ p h1 h2 h3)
/-- a step off the spine, then the rest -/
theorem wpN_step {m : Sem α} {f : α → Sem β} {Q : β → Shared → Prop} (h : wpAny M A m (fun a s' => wpN M A (f a) Q E s') E s) : wpN M A (m >>= f) Q E s := wpN_bind (wpN_any h)
theorem wpN_onRaise {m : Sem α} {k : Value → Sem Unit} {Q : α → Shared → Prop} (h : wpN M A m Q (fun e s' => wpAny M A (k e) (fun _ s'' => E e s'') E s') s) : wpN M A (m.onRaise k) Q E s := fun Γ p h1 h2 h3 => by
  rw [Sem.wp_onRaise]
  exact Sem.wp_mono M Γ m (fun _ _ _ h' => h') (fun e p' s' h' => h' Γ p' h1) p s (h Γ p h1 h2 h3)
theorem wpN_attempt {m : Sem α} {Q : Except Value α → Shared → Prop} (h : wpN M A m (fun a => Q (.ok a)) (fun e => Q (.error e)) s) : wpN M A m.attempt Q E s := fun Γ p h1 h2 h3 => by rw [Sem.wp_attempt]; exact h Γ p h1 h2 h3
theorem wpN_holding {vs : List Value} {m : Sem α} {Q : α → Shared → Prop} (h : wpN M A m Q E s) : wpN M A (holding vs m) Q E s := fun Γ p h1 h2 h3 => by rw [Sem.wp_holding]; exact h Γ p h1 h2 h3
theorem wpN_keep {vs : List Value} {m : Sem α} {Q : α → Shared → Prop} (h : wpN M A m Q E s) : wpN M A (m.keep vs) Q E s := fun Γ p h1 h2 h3 => by rw [Sem.wp_keep]; exact h Γ p h1 h2 h3
theorem wpN_standAt {pos : Pos} {Q : Unit → Shared → Prop} (h : Q () s) : wpN M A (standAt pos) Q E s := fun _ _ _ _ _ => h
theorem wpN_rule {x : String} {Q : Unit → Shared → Prop} (h : Q () s) : wpN M A (rule x) Q E s := fun _ _ _ _ _ => h
theorem wpN_run {c : Code} {h : Option Value} {Q : Flow → Shared → Prop} (hc : codeN M (A.mark h) c (fun r s' => match r with | .ok f => Q f s' | .error e => E e s') s) (hnb : h ≠ some byPass := by intro x; cases x) : wpN M A (run c h) Q E s :=
  fun Γ p h1 h2 h3 => by rw [Sem.wp_run]; exact hc _ p rfl (h1.enter c h p hnb) (clean_cons h3 h2)
theorem wpN_call {f : Value} {pos : List Value} {kw : List (Str × Value)} {Q : Value → Shared → Prop} (hc : codeN M A (.call f ⟨pos, kw⟩) (fun r s' => match r with | .ok (.ret v) => Q v s' | .ok _ => False | .error e => E e s') s) : wpN M A (call f pos kw) Q E s :=
  fun Γ p h1 h2 h3 => by
    show wp M Γ (runValue (.call f ⟨pos, kw⟩)) _ _ p s
    rw [Sem.wp_runValue]; exact hc _ p rfl (h1.enter _ none p (by intro x; cases x)) (clean_cons h3 h2)
theorem codeN_of_tree {c : Code} {R : Result → Shared → Prop} (hd : isDec c = false)
    (h : wpN M (A.under c) (M.den c) (fun fin s' => match fin with | .done f => R (.ok f) s' | .again c' => c'.quiet = true ∧ codeN M A c' R s') (fun e s' => R (.error e) s') s) : codeN M A c R s := fun Γ p hc hΓ hl => by
  rw [wpCode_iff_wp, hc]
  refine Sem.wp_mono M Γ _ (fun fin p' s' h' => ?_) (fun _ _ _ h' => h') p s (h Γ p (hc ▸ hΓ.in) hl (hc ▸ hd))
  cases fin with
  | done f => exact h'
  | again c' => exact ⟨h'.1, h'.2 (Γ.goto c') p' rfl (hΓ.goto c') hl⟩
theorem wpN_ite {c : Prop} [Decidable c] {a b : Sem α} {Q : α → Shared → Prop} (h : if c then wpN M A a Q E s else wpN M A b Q E s) : wpN M A (if c then a else b) Q E s := by split <;> simp_all
theorem any_false {α : Type} {f : α → Bool} : ∀ {l : List α}, (∀ x ∈ l, f x = false) → l.any f = false
  | [], _ => rfl
  | x :: l, h => by rw [List.any_cons, h x (.head _), any_false fun y hy => h y (.tail _ hy)]; rfl
theorem guard_off {c : Code} (hg : c.isGuard = false) (hd : isDec c = false) (self : Value) (p : Pos) : (match (c, p) with
    | (.builtin "bytearray.__contains__" ⟨v :: _, _⟩, _) | (.builtin "bytearray.__mod__" ⟨v :: _, _⟩, _)
    | (.builtin "bytearray.__rmod__" ⟨_ :: v :: _, _⟩, _) | (.builtin "_struct.pack_into.held" ⟨v :: _, _⟩, _) => Builtin.Bytes.sameRef v self
    | (.builtin "bytearray.find.held" ⟨_ :: _ :: held, _⟩, _) => held.any (Builtin.Bytes.sameRef self)
    | (.builtin id ⟨v :: _, _⟩, _) => Builtin.Bytes.sameRef v self && Builtin.Bytes.decodersThatHold.contains id
    | _ => false) = false := by
  cases c with
  | builtin id a =>
    obtain ⟨pos, kw⟩ := a
    have hn : ∀ x : String, (Code.builtin x ⟨[], []⟩).isGuard = true → id ≠ x := fun x hx e => by
      subst e
      have : (Code.builtin id ⟨[], []⟩).isGuard = (Code.builtin id ⟨pos, kw⟩).isGuard := rfl
      rw [this, hg] at hx; cases hx
    unfold guard_off.match_1
    refine (show dite (id = "bytearray.__contains__") _ _ = false from ?_)
    refine Eq.trans (dif_neg (hn "bytearray.__contains__" (by decide))) ?_
    refine Eq.trans (dif_neg (hn "bytearray.__mod__" (by decide))) ?_
    refine Eq.trans (dif_neg (hn "bytearray.__rmod__" (by decide))) ?_
    refine Eq.trans (dif_neg (hn "_struct.pack_into.held" (by decide))) ?_
    refine Eq.trans (dif_neg (hn "bytearray.find.held" (by decide))) ?_
    cases pos with
    | nil => rfl
    | cons v r => exact (congrArg (Builtin.Bytes.sameRef v self && ·) hd).trans (Bool.and_false _)
  | _ => rfl
theorem wpN_exported {self : Value} {Q : Bool → Shared → Prop} (hg : A.guards = some []) (h : Q false s) : wpN M A (Builtin.Bytes.exported self) Q E s := fun Γ p h1 h2 h3 => by
  show Q (((Γ.code, p) :: Γ.below).any _) s
  have hgs : Γ.code.guards ++ guardsOf Γ.below = [] := h1.2.2.2.1 [] hg
  have hg1 : Γ.code.isGuard = false := by
    cases q : Γ.code.isGuard with
    | false => rfl
    | true => have := (List.append_eq_nil_iff.mp hgs).1; simp [Code.guards, q] at this
  have hg2 : ∀ x ∈ Γ.below, x.1.isGuard = false := fun x hx => by
    cases q : x.1.isGuard with
    | false => rfl
    | true =>
      have e := (List.append_eq_nil_iff.mp hgs).2
      have : x.1 ∈ guardsOf Γ.below := List.mem_filter.mpr ⟨List.mem_map_of_mem hx, q⟩
      rw [e] at this; cases this
  rw [any_false (fun x hx => ?_)]
  · exact h
  · obtain ⟨c, q⟩ := x
    have hh : c.isGuard = false ∧ isDec c = false := by
      rcases List.mem_cons.mp hx with e | hx
      · cases e; exact ⟨hg1, h3⟩
      · exact ⟨hg2 _ hx, h2 _ hx⟩
    exact guard_off hh.1 hh.2 self q
end
/-- the around and the env as letters -/
theorem n_letA {M : Model} {A : Around} {E : Value → Shared → Prop} {s : Shared} {env : Env} {body : List Stmt} {Q : Flow → Shared → Prop} (h : let env' := env; let A' := A.deeper env'; wpN M A' (execs body env') Q E s) : wpN M (A.deeper env) (execs body env) Q E s := h
theorem any_letA {M : Model} {A : Around} {E : Value → Shared → Prop} {s : Shared} {env : Env} {body : List Stmt} {Q : Flow → Shared → Prop} (h : let env' := env; let A' := A.deeper env'; wpAny M A' (execs body env') Q E s) : wpAny M (A.deeper env) (execs body env) Q E s := h
open Sem (wp)
/-- what is asked of the walk: as the library's WalkO, in contexts without a decoder -/
noncomputable abbrev WalkC (q : Program) (loose : List Str) (XP : (Str → Option Value) → Heap → Prop) (YP : World → Heap → Prop) (r : RowW) (d : DefRec) (kwd : List (Str × PySem.Expr)) (go : Value → List Value → Sem Value) : Prop :=
  ∀ (w : World) (s₀ s₁ : Shared) (mg mb : Str → Option Value), Ground q loose r.records XP w s₀ mg mb s₁.heap → YP w s₁.heap →
    ∀ (a : Addr) (o : Obj) (pm cd doc dV kV : Value), s₁.heap.get? a = some o → o.data = .func { docDef d.name d.params d.body d.scope pm cd doc with defaults := dV, kwdefaults := kV } → s₁.heap.CodeRec cd d.name → Dflts mg s₁.heap d.params kwd dV kV → mg d.name = some (.ref a) → s₁.gens = #[] →
    ∀ (args : List WData) (vals : List Value) (as : List Addr), r.claim.pre args = true → WData.layableAll args = true → ReadsAllW r.records (classAt s₀.heap) s₁.heap vals args as → WellAll w.params s₁.heap vals args → (∀ a ∈ as, (a == sysModules) = false) →
      wpN (model r.prog w) callerA (go (.ref a) vals) (fun v s' => GoodWG r.claim (classAt s₀.heap) (ExcName.means s₀.heap) args s₁ (.ok (.ret v)) s')
        (fun e s' => GoodWG r.claim (classAt s₀.heap) (ExcName.means s₀.heap) args s₁ (.error e) s') s₁
/-- at the claim's caller no code is below -/
theorem caller_clean {M : Model} {t : Sem Fin} {R : Result → Shared → Prop} {s : Shared} {p : Pos} (h : wpN M callerA t (fun fin s' => ∃ f, fin = .done f ∧ R (.ok f) s') (fun e s' => R (.error e) s') s) :
    wp M ⟨.builtin "claim.caller" {}, none, none, [], none⟩ t (Sem.finPost M ⟨.builtin "claim.caller" {}, none, none, [], none⟩ R) (fun e _ s' => R (.error e) s') p s :=
  Sem.wp_mono M _ t (fun _ _ _ ⟨_, e, x⟩ => e ▸ x) (fun _ _ _ x => x) p s (h _ p caller_in (fun _ hx => nomatch hx) (by decide))
/-- a thread whose tree ends well in wpN halts -/
theorem halts_clean {prog : Program} {w : World} {t : Sem Fin} {s : Shared} {R : Result → Shared → Prop} (hz : s.asleep)
    (h : wpN (model prog w) callerA t (fun fin s' => ∃ f, fin = .done f ∧ R (.ok f) s' ∧ AllBare s'.gens) (fun e s' => R (.error e) s' ∧ AllBare s'.gens) s) :
    ∃ n r s' s'', runN (denote table) prog w n s ⟨t, .builtin "claim.caller" {}, default, []⟩ = .halted (outcomeOf r) s' ∧ schedN (denote table) prog w n (.single s ⟨t, .builtin "claim.caller" {}, default, []⟩) = .halted (outcomeOf r) s' ∧ s'.forget = s''.forget ∧ R r s'' := by
  have h2 := wpN_mono h (Q' := fun fin s' => ∃ f, fin = .done f ∧ (R (.ok f) s' ∧ leftWithCleanup s'.gens = false)) (E' := fun e s' => R (.error e) s' ∧ leftWithCleanup s'.gens = false)
    (fun _ _ ⟨f, e, x, y⟩ => ⟨f, e, x, leftWithCleanup_false_of_bare y⟩) (fun _ _ x => ⟨x.1, leftWithCleanup_false_of_bare x.2⟩)
  obtain ⟨n, r, s₁, s₂, hs, hn, hf, hR⟩ := wp_halts_full (M := model prog w) (R := R) hz (caller_clean (R := fun r s' => R r s' ∧ leftWithCleanup s'.gens = false) (p := default) h2)
  exact ⟨n, r, s₂, s₁, hn, hs, hf, hR⟩
/-- the top, to be shown at once -/
noncomputable abbrev LeftQ (p q : Program) (loose : List Str) (Xt : Shared → Bool) {α : Type} (Yf : Shared → α) (Ya : World → α) (N : Nat) : Prop := LeftO p q loose Xt Yf Ya N
/-- the head, for a walk in contexts without a decoder -/
theorem PySem.W.holds_open {r : OpenRow} {q : Program} {loose : List Str} {Xt : Shared → Bool} {XP : (Str → Option Value) → Heap → Prop} {α : Type} {Yf : Shared → α} {Ya : World → α} {YP : World → Heap → Prop} {d : DefRec} {kwd : List (Str × PySem.Expr)} {N : Nat}
    (left : LeftQ r.prog q loose Xt Yf Ya N) (hY : ∀ w s, Yf s = Ya w → YP w s.heap) (hYk : ∀ w h h', YP w h → (∀ b o, h.get? b = some o → h'.get? b = some o) → YP w h')
    (hX : ∀ s, Xt s = true → XP (s.heap.nsMap mainGlobals) s.heap) (hXk : ∀ mg h h', XP mg h → (∀ b o, h.get? b = some o → h'.get? b = some o) → XP mg h')
    (hdef : defOf q r.name = some (d, kwd)) (hp : r.prog.theDef r.name = some (d.params, d.body, d.scope)) (hk : kwWritten? d.params.kwonlyargs d.params.kw_defaults = some kwd) (hRf : ∀ s, Xt s = true → RecFacts r.records s.heap) (hwr : (!r.writes || r.records.isEmpty) = true)
    (k1 : r.wellSaid = true) (ok : (chainsOk q && opensWell r.prog && (frees r.toRowW && r.within.isEmpty)) = true) (hb : r.prog.bare) (hw : r.toRowW.promised)
    (call : WalkC q loose XP YP r.toRowW d kwd fun f vs => PySem.call f vs) : r.Holds := by
  rw [Bool.and_eq_true, Bool.and_eq_true, Bool.and_eq_true] at ok
  obtain ⟨⟨c1, c2⟩, c3, c4⟩ := ok
  obtain ⟨f1, f2, f3, f4, f5⟩ := frees_parts c3
  refine ⟨k1, hw, ⟨hb, c2, show r.makers.map _ = [] by rw [f5]; rfl⟩, hw.witness, fun w => ?_⟩
  have lb := LeftO.behind left (XP := fun mg h => XP mg h ∧ RecFacts r.records h) (fun s hs => ⟨hX s hs, hRf s hs⟩) c1 w
  refine ⟨lb.1, fun sA hA => cps fun G9 ret9 => ?_⟩
  obtain ⟨s₀, e0, g0, s, T, hz, hg, hns, GX, y⟩ := lb.2 sA hA
  have Gp : Ground q loose [] XP w s (s.heap.nsMap mainGlobals) (s.heap.nsMap builtinsNs) s.heap := ⟨GX.T, GX.B, GX.D, GX.TE, GX.TD, GX.W, GX.X.1, GX.cls, GX.has, GX.apart, GX.once, GX.K⟩
  have GR := GX.X.2.ground Gp
  refine ret9 ⟨s₀, e0, g0, s, T, fun n hn => ?_, GX.X.2.1, GX.X.2.2.1, fun args hpre hlay ord hord => cps fun G8 ret8 => ?_⟩
  · have en : n = r.name := by split at hn <;> simp_all
    exact en ▸ pinned_of_view hns Gp hdef hp hk
  have hg0 : s.gens = #[] := Array.eq_empty_of_size_eq_zero (beq_iff_eq.mp hg)
  obtain ⟨⟨vs, s₁⟩, laid⟩ := Option.isSome_iff_exists.mp (layAllW_isSome (P := w.params) (ord := ord) GR.has args r.args s (pre_splitW hpre).1)
  have keep := layAllW_keeps _ _ _ laid
  have rest := layAllW_rest _ _ _ laid
  obtain ⟨as, rd, inn, old⟩ := reads_layAllW hord _ _ _ laid hlay s₁.heap (fun _ _ e => e)
  have L : Laid r.records w s s₁ args vs as := ⟨⟨ord, hord, laid⟩, rd, inn, old, keep, rest.1.trans hg0, rest.2.2.1⟩
  have G₁ := GR.keeps hXk keep
  obtain ⟨a, o, pm, cd, doc, dV, kV, h1, h2, h3, h4, h5⟩ := G₁.fn hdef
  have body := call w s s₁ _ _ G₁ (hYk _ _ _ (hY w s y) keep) a o pm cd doc dV kV h2 h3 h4 h5 (defOf_name hdef ▸ h1) L.gens args vs as hpre hlay L.reads L.well (L.low GR.low)
  have good := fun (x : Result) (s' : Shared) (g : GoodWG r.claim (classAt s.heap) (ExcName.means s.heap) args s₁ x s') =>
    have z := g.laid (c := r.claim) f1 (List.isEmpty_iff.mp c4) (ident_freeW f2 f3 f4) L
    (⟨⟨z.1, z.2.1, fun u => ⟨namesKept_of T hns r.keeps keep g.2.1.old, noTable hwr u⟩⟩, z.2.2⟩ : (r.claim.Ends s args vs s₁ x s' ∧ s'.os = s.os ∧ (r.writes = true → namesKept r.prog r.keeps s.heap s'.heap ∧ ∀ x ∈ r.records, ∀ a, classAt s.heap x.1 = some a → recordClass s'.heap a x.1 (x.2.map (·.1)) = true)) ∧ AllBare s'.gens)
  obtain ⟨k, x, s', s'', hrun, hsched, hfo, ends, eos, hkp⟩ := halts_clean (prog := r.prog) (w := w) (s := s₁) (R := fun x s' => r.claim.Ends s args vs s₁ x s' ∧ s'.os = s.os ∧ (r.writes = true → namesKept r.prog r.keeps s.heap s'.heap ∧ ∀ x ∈ r.records, ∀ a, classAt s.heap x.1 = some a → recordClass s'.heap a x.1 (x.2.map (·.1)) = true)) (t := do match ← nsGet mainNs r.name with
      | some f => do ret (← PySem.call f vs)
      | none => unsupported "claim.caller:no-such-global") (Shared.asleep_of_life rest.2.2.2 hz)
    (wpN_step (wpAny_nsGet G₁.T.g (by rw [h1]; exact wpN_bind (wpN_mono body (fun v s' g => wpN_pure ⟨_, rfl, good _ _ g⟩) fun e s' g => good _ _ g))))
  obtain ⟨eh, _, _, eo, _⟩ := Shared.forget_eq hfo
  have ends := ends.congr eh
  rw [← eo] at eos
  rw [← eh] at hkp
  refine ret8 ⟨vs, s₁, laid, k, _, s', hsched, ?_, (fun _ i v hv => by rw [hg0] at hv; simp at hv), hkp, by rw [(runN_life _ _ _ hrun).trans rest.2.2.2], Shared.rest_eq eos⟩
  rcases ends with ⟨v, rfl, d1, d2, d3, d4, d5⟩ | ⟨e, ob, cls, rfl, d1, d2, d3, d4, d5⟩
  · exact .inl ⟨v, rfl, d1, d2, d3, fun b o y _ => d4 b o y, d5⟩
  · exact .inr ⟨e, ob, cls, rfl, d1, d2, d3, d4, fun b o y _ => d5 b o y⟩
/-- programs that differ in their names -/
noncomputable abbrev Named : Type := Str → Str → Str → Str → Str → Str → Str → Str → Str → Str → Str → Str → Str → Str → Str → Str → Str → Str → Str → Str → Str → Str → Str → Str → Str → Str → Str → Str → Str → Str → Str → Str → Str → Str → Str → Str → Str → Str → Str → Str → Str → Str → Str → Str → Str → Str → Str → Str → Str → Str → Str → Str → Str → Str → Str → Str → Str → Str → Str → Str → Str → Str → Str → Str → Str → Str → Str → Str → Str → Str → Str → Str → Str → Str → Str → Str → Str → Str → Str → Str → Str → Str → Str → Str → Str → Str → Str → Str → Str → Str → Str → Str → Str → Str → Str → Str → Str → Str → Str → Str → Str → Str → Str → Str → Program
theorem nm0 : Str.ofString "_law_split_right" = ⟨⟨[95, 108, 97, 119, 95, 115, 112, 108, 105, 116, 95, 114, 105, 103, 104, 116]⟩⟩ := Fast.ofString_ofList ['_', 'l', 'a', 'w', '_', 's', 'p', 'l', 'i', 't', '_', 'r', 'i', 'g', 'h', 't']
theorem nm1 : Str.ofString "pen" = ⟨⟨[112, 101, 110]⟩⟩ := Fast.ofString_ofList ['p', 'e', 'n']
theorem nm2 : Str.ofString "most" = ⟨⟨[109, 111, 115, 116]⟩⟩ := Fast.ofString_ofList ['m', 'o', 's', 't']
theorem nm3 : Str.ofString "_law_next" = ⟨⟨[95, 108, 97, 119, 95, 110, 101, 120, 116]⟩⟩ := Fast.ofString_ofList ['_', 'l', 'a', 'w', '_', 'n', 'e', 'x', 't']
theorem nm4 : Str.ofString "rows" = ⟨⟨[114, 111, 119, 115]⟩⟩ := Fast.ofString_ofList ['r', 'o', 'w', 's']
theorem nm5 : Str.ofString "bytes" = ⟨⟨[98, 121, 116, 101, 115]⟩⟩ := Fast.ofString_ofList ['b', 'y', 't', 'e', 's']
theorem nm6 : Str.ofString "at" = ⟨⟨[97, 116]⟩⟩ := Fast.ofString_ofList ['a', 't']
theorem nm7 : Str.ofString "range" = ⟨⟨[114, 97, 110, 103, 101]⟩⟩ := Fast.ofString_ofList ['r', 'a', 'n', 'g', 'e']
theorem nm8 : Str.ofString ".0" = ⟨⟨[46, 48]⟩⟩ := Fast.ofString_ofList ['.', '0']
theorem nm9 : Str.ofString "whole" = ⟨⟨[119, 104, 111, 108, 101]⟩⟩ := Fast.ofString_ofList ['w', 'h', 'o', 'l', 'e']
theorem nm10 : Str.ofString "kind" = ⟨⟨[107, 105, 110, 100]⟩⟩ := Fast.ofString_ofList ['k', 'i', 'n', 'd']
theorem nm11 : Str.ofString "len" = ⟨⟨[108, 101, 110]⟩⟩ := Fast.ofString_ofList ['l', 'e', 'n']
theorem nm12 : Str.ofString "body" = ⟨⟨[98, 111, 100, 121]⟩⟩ := Fast.ofString_ofList ['b', 'o', 'd', 'y']
theorem nm13 : Str.ofString "put_message" = ⟨⟨[112, 117, 116, 95, 109, 101, 115, 115, 97, 103, 101]⟩⟩ := Fast.ofString_ofList ['p', 'u', 't', '_', 'm', 'e', 's', 's', 'a', 'g', 'e']
theorem nm14 : Str.ofString "data" = ⟨⟨[100, 97, 116, 97]⟩⟩ := Fast.ofString_ofList ['d', 'a', 't', 'a']
theorem nm15 : Str.ofString "join" = ⟨⟨[106, 111, 105, 110]⟩⟩ := Fast.ofString_ofList ['j', 'o', 'i', 'n']
theorem nm16 : Str.ofString "due" = ⟨⟨[100, 117, 101]⟩⟩ := Fast.ofString_ofList ['d', 'u', 'e']
theorem nm17 : Str.ofString "message" = ⟨⟨[109, 101, 115, 115, 97, 103, 101]⟩⟩ := Fast.ofString_ofList ['m', 'e', 's', 's', 'a', 'g', 'e']
theorem nm18 : Str.ofString "zip" = ⟨⟨[122, 105, 112]⟩⟩ := Fast.ofString_ofList ['z', 'i', 'p']
theorem nm19 : Str.ofString "_law_told" = ⟨⟨[95, 108, 97, 119, 95, 116, 111, 108, 100]⟩⟩ := Fast.ofString_ofList ['_', 'l', 'a', 'w', '_', 't', 'o', 'l', 'd']
theorem nm20 : Str.ofString "split_messages" = ⟨⟨[115, 112, 108, 105, 116, 95, 109, 101, 115, 115, 97, 103, 101, 115]⟩⟩ := Fast.ofString_ofList ['s', 'p', 'l', 'i', 't', '_', 'm', 'e', 's', 's', 'a', 'g', 'e', 's']
theorem nm21 : Str.ofString "refused" = ⟨⟨[114, 101, 102, 117, 115, 101, 100]⟩⟩ := Fast.ofString_ofList ['r', 'e', 'f', 'u', 's', 'e', 'd']
theorem nm22 : Str.ofString "told" = ⟨⟨[116, 111, 108, 100]⟩⟩ := Fast.ofString_ofList ['t', 'o', 'l', 'd']
theorem nm23 : Str.ofString "fast" = ⟨⟨[102, 97, 115, 116]⟩⟩ := Fast.ofString_ofList ['f', 'a', 's', 't']
theorem nm24 : Str.ofString "_law_fields_right" = ⟨⟨[95, 108, 97, 119, 95, 102, 105, 101, 108, 100, 115, 95, 114, 105, 103, 104, 116]⟩⟩ := Fast.ofString_ofList ['_', 'l', 'a', 'w', '_', 'f', 'i', 'e', 'l', 'd', 's', '_', 'r', 'i', 'g', 'h', 't']
theorem nm25 : Str.ofString "some" = ⟨⟨[115, 111, 109, 101]⟩⟩ := Fast.ofString_ofList ['s', 'o', 'm', 'e']
theorem nm26 : Str.ofString "one" = ⟨⟨[111, 110, 101]⟩⟩ := Fast.ofString_ofList ['o', 'n', 'e']
theorem nm27 : Str.ofString "put_field" = ⟨⟨[112, 117, 116, 95, 102, 105, 101, 108, 100]⟩⟩ := Fast.ofString_ofList ['p', 'u', 't', '_', 'f', 'i', 'e', 'l', 'd']
theorem nm28 : Str.ofString "read_fields" = ⟨⟨[114, 101, 97, 100, 95, 102, 105, 101, 108, 100, 115]⟩⟩ := Fast.ofString_ofList ['r', 'e', 'a', 'd', '_', 'f', 'i', 'e', 'l', 'd', 's']
theorem nm29 : Str.ofString "wrong" = ⟨⟨[119, 114, 111, 110, 103]⟩⟩ := Fast.ofString_ofList ['w', 'r', 'o', 'n', 'g']
theorem nm30 : Str.ofString "_law_hellos_right" = ⟨⟨[95, 108, 97, 119, 95, 104, 101, 108, 108, 111, 115, 95, 114, 105, 103, 104, 116]⟩⟩ := Fast.ofString_ofList ['_', 'l', 'a', 'w', '_', 'h', 'e', 'l', 'l', 'o', 's', '_', 'r', 'i', 'g', 'h', 't']
theorem nm31 : Str.ofString "random" = ⟨⟨[114, 97, 110, 100, 111, 109]⟩⟩ := Fast.ofString_ofList ['r', 'a', 'n', 'd', 'o', 'm']
theorem nm32 : Str.ofString "own" = ⟨⟨[111, 119, 110]⟩⟩ := Fast.ofString_ofList ['o', 'w', 'n']
theorem nm33 : Str.ofString "spoken" = ⟨⟨[115, 112, 111, 107, 101, 110]⟩⟩ := Fast.ofString_ofList ['s', 'p', 'o', 'k', 'e', 'n']
theorem nm34 : Str.ofString "read_client_hello" = ⟨⟨[114, 101, 97, 100, 95, 99, 108, 105, 101, 110, 116, 95, 104, 101, 108, 108, 111]⟩⟩ := Fast.ofString_ofList ['r', 'e', 'a', 'd', '_', 'c', 'l', 'i', 'e', 'n', 't', '_', 'h', 'e', 'l', 'l', 'o']
theorem nm35 : Str.ofString "client_hello" = ⟨⟨[99, 108, 105, 101, 110, 116, 95, 104, 101, 108, 108, 111]⟩⟩ := Fast.ofString_ofList ['c', 'l', 'i', 'e', 'n', 't', '_', 'h', 'e', 'l', 'l', 'o']
theorem nm36 : Str.ofString "read_server_hello" = ⟨⟨[114, 101, 97, 100, 95, 115, 101, 114, 118, 101, 114, 95, 104, 101, 108, 108, 111]⟩⟩ := Fast.ofString_ofList ['r', 'e', 'a', 'd', '_', 's', 'e', 'r', 'v', 'e', 'r', '_', 'h', 'e', 'l', 'l', 'o']
theorem nm37 : Str.ofString "server_hello" = ⟨⟨[115, 101, 114, 118, 101, 114, 95, 104, 101, 108, 108, 111]⟩⟩ := Fast.ofString_ofList ['s', 'e', 'r', 'v', 'e', 'r', '_', 'h', 'e', 'l', 'l', 'o']
theorem nm38 : Str.ofString "read_extensions" = ⟨⟨[114, 101, 97, 100, 95, 101, 120, 116, 101, 110, 115, 105, 111, 110, 115]⟩⟩ := Fast.ofString_ofList ['r', 'e', 'a', 'd', '_', 'e', 'x', 't', 'e', 'n', 's', 'i', 'o', 'n', 's']
theorem nm39 : Str.ofString "extensions" = ⟨⟨[101, 120, 116, 101, 110, 115, 105, 111, 110, 115]⟩⟩ := Fast.ofString_ofList ['e', 'x', 't', 'e', 'n', 's', 'i', 'o', 'n', 's']
theorem nm40 : Str.ofString "_law_chosen_right" = ⟨⟨[95, 108, 97, 119, 95, 99, 104, 111, 115, 101, 110, 95, 114, 105, 103, 104, 116]⟩⟩ := Fast.ofString_ofList ['_', 'l', 'a', 'w', '_', 'c', 'h', 'o', 's', 'e', 'n', '_', 'r', 'i', 'g', 'h', 't']
theorem nm41 : Str.ofString "names" = ⟨⟨[110, 97, 109, 101, 115]⟩⟩ := Fast.ofString_ofList ['n', 'a', 'm', 'e', 's']
theorem nm42 : Str.ofString "ours" = ⟨⟨[111, 117, 114, 115]⟩⟩ := Fast.ofString_ofList ['o', 'u', 'r', 's']
theorem nm43 : Str.ofString "theirs" = ⟨⟨[116, 104, 101, 105, 114, 115]⟩⟩ := Fast.ofString_ofList ['t', 'h', 'e', 'i', 'r', 's']
theorem nm44 : Str.ofString "turn" = ⟨⟨[116, 117, 114, 110]⟩⟩ := Fast.ofString_ofList ['t', 'u', 'r', 'n']
theorem nm45 : Str.ofString "side" = ⟨⟨[115, 105, 100, 101]⟩⟩ := Fast.ofString_ofList ['s', 'i', 'd', 'e']
theorem nm46 : Str.ofString "shared" = ⟨⟨[115, 104, 97, 114, 101, 100]⟩⟩ := Fast.ofString_ofList ['s', 'h', 'a', 'r', 'e', 'd']
theorem nm47 : Str.ofString "chosen_protocol" = ⟨⟨[99, 104, 111, 115, 101, 110, 95, 112, 114, 111, 116, 111, 99, 111, 108]⟩⟩ := Fast.ofString_ofList ['c', 'h', 'o', 's', 'e', 'n', '_', 'p', 'r', 'o', 't', 'o', 'c', 'o', 'l']
theorem nm48 : Str.ofString "law" = ⟨⟨[108, 97, 119]⟩⟩ := Fast.ofString_ofList ['l', 'a', 'w']
theorem nm49 : Str.ofString "script" = ⟨⟨[115, 99, 114, 105, 112, 116]⟩⟩ := Fast.ofString_ofList ['s', 'c', 'r', 'i', 'p', 't']
theorem nm50 : Str.ofString "list" = ⟨⟨[108, 105, 115, 116]⟩⟩ := Fast.ofString_ofList ['l', 'i', 's', 't']
theorem nm51 : Str.ofString "sum" = ⟨⟨[115, 117, 109]⟩⟩ := Fast.ofString_ofList ['s', 'u', 'm']
theorem nm52 : Str.ofString "protocol" = ⟨⟨[112, 114, 111, 116, 111, 99, 111, 108]⟩⟩ := Fast.ofString_ofList ['p', 'r', 'o', 't', 'o', 'c', 'o', 'l']
theorem nm53 : Str.ofString "params" = ⟨⟨[112, 97, 114, 97, 109, 115]⟩⟩ := Fast.ofString_ofList ['p', 'a', 'r', 'a', 'm', 's']
theorem nm54 : Str.ofString "tls_error" = ⟨⟨[116, 108, 115, 95, 101, 114, 114, 111, 114]⟩⟩ := Fast.ofString_ofList ['t', 'l', 's', '_', 'e', 'r', 'r', 'o', 'r']
theorem nm55 : Str.ofString "ALERT_NO_PROTOCOL" = ⟨⟨[65, 76, 69, 82, 84, 95, 78, 79, 95, 80, 82, 79, 84, 79, 67, 79, 76]⟩⟩ := Fast.ofString_ofList ['A', 'L', 'E', 'R', 'T', '_', 'N', 'O', '_', 'P', 'R', 'O', 'T', 'O', 'C', 'O', 'L']
theorem nm56 : Str.ofString "no protocol is spoken by both" = ⟨⟨[110, 111, 32, 112, 114, 111, 116, 111, 99, 111, 108, 32, 105, 115, 32, 115, 112, 111, 107, 101, 110, 32, 98, 121, 32, 98, 111, 116, 104]⟩⟩ := Fast.ofString_ofList ['n', 'o', ' ', 'p', 'r', 'o', 't', 'o', 'c', 'o', 'l', ' ', 'i', 's', ' ', 's', 'p', 'o', 'k', 'e', 'n', ' ', 'b', 'y', ' ', 'b', 'o', 't', 'h']
theorem nm57 : Str.ofString "__name__" = ⟨⟨[95, 95, 110, 97, 109, 101, 95, 95]⟩⟩ := Fast.ofString_ofList ['_', '_', 'n', 'a', 'm', 'e', '_', '_']
theorem nm58 : Str.ofString "law_pf0253_01" = ⟨⟨[108, 97, 119, 95, 112, 102, 48, 50, 53, 51, 95, 48, 49]⟩⟩ := Fast.ofString_ofList ['l', 'a', 'w', '_', 'p', 'f', '0', '2', '5', '3', '_', '0', '1']
theorem nm59 : Str.ofString "many" = ⟨⟨[109, 97, 110, 121]⟩⟩ := Fast.ofString_ofList ['m', 'a', 'n', 'y']
theorem nm60 : Str.ofString "work" = ⟨⟨[119, 111, 114, 107]⟩⟩ := Fast.ofString_ofList ['w', 'o', 'r', 'k']
theorem nm61 : Str.ofString "QuicError" = ⟨⟨[81, 117, 105, 99, 69, 114, 114, 111, 114]⟩⟩ := Fast.ofString_ofList ['Q', 'u', 'i', 'c', 'E', 'r', 'r', 'o', 'r']
theorem nm62 : Str.ofString "refusal" = ⟨⟨[114, 101, 102, 117, 115, 97, 108]⟩⟩ := Fast.ofString_ofList ['r', 'e', 'f', 'u', 's', 'a', 'l']
theorem nm63 : Str.ofString "code" = ⟨⟨[99, 111, 100, 101]⟩⟩ := Fast.ofString_ofList ['c', 'o', 'd', 'e']
theorem nm64 : Str.ofString "protocols" = ⟨⟨[112, 114, 111, 116, 111, 99, 111, 108, 115]⟩⟩ := Fast.ofString_ofList ['p', 'r', 'o', 't', 'o', 'c', 'o', 'l', 's']
theorem nm65 : Str.ofString "CLIENT_HELLO" = ⟨⟨[67, 76, 73, 69, 78, 84, 95, 72, 69, 76, 76, 79]⟩⟩ := Fast.ofString_ofList ['C', 'L', 'I', 'E', 'N', 'T', '_', 'H', 'E', 'L', 'L', 'O']
theorem nm66 : Str.ofString "RANDOM_SIZE" = ⟨⟨[82, 65, 78, 68, 79, 77, 95, 83, 73, 90, 69]⟩⟩ := Fast.ofString_ofList ['R', 'A', 'N', 'D', 'O', 'M', '_', 'S', 'I', 'Z', 'E']
theorem nm67 : Str.ofString "ALERT_DECODE" = ⟨⟨[65, 76, 69, 82, 84, 95, 68, 69, 67, 79, 68, 69]⟩⟩ := Fast.ofString_ofList ['A', 'L', 'E', 'R', 'T', '_', 'D', 'E', 'C', 'O', 'D', 'E']
theorem nm68 : Str.ofString "not so many random octets" = ⟨⟨[110, 111, 116, 32, 115, 111, 32, 109, 97, 110, 121, 32, 114, 97, 110, 100, 111, 109, 32, 111, 99, 116, 101, 116, 115]⟩⟩ := Fast.ofString_ofList ['n', 'o', 't', ' ', 's', 'o', ' ', 'm', 'a', 'n', 'y', ' ', 'r', 'a', 'n', 'd', 'o', 'm', ' ', 'o', 'c', 't', 'e', 't', 's']
theorem nm69 : Str.ofString "SERVER_HELLO" = ⟨⟨[83, 69, 82, 86, 69, 82, 95, 72, 69, 76, 76, 79]⟩⟩ := Fast.ofString_ofList ['S', 'E', 'R', 'V', 'E', 'R', '_', 'H', 'E', 'L', 'L', 'O']
theorem nm70 : Str.ofString "ENCRYPTED_EXTENSIONS" = ⟨⟨[69, 78, 67, 82, 89, 80, 84, 69, 68, 95, 69, 88, 84, 69, 78, 83, 73, 79, 78, 83]⟩⟩ := Fast.ofString_ofList ['E', 'N', 'C', 'R', 'Y', 'P', 'T', 'E', 'D', '_', 'E', 'X', 'T', 'E', 'N', 'S', 'I', 'O', 'N', 'S']
theorem nm71 : Str.ofString "put_whole" = ⟨⟨[112, 117, 116, 95, 119, 104, 111, 108, 101]⟩⟩ := Fast.ofString_ofList ['p', 'u', 't', '_', 'w', 'h', 'o', 'l', 'e']
theorem nm72 : Str.ofString "found" = ⟨⟨[102, 111, 117, 110, 100]⟩⟩ := Fast.ofString_ofList ['f', 'o', 'u', 'n', 'd']
theorem nm73 : Str.ofString "HEAD_SIZE" = ⟨⟨[72, 69, 65, 68, 95, 83, 73, 90, 69]⟩⟩ := Fast.ofString_ofList ['H', 'E', 'A', 'D', '_', 'S', 'I', 'Z', 'E']
theorem nm74 : Str.ofString "size" = ⟨⟨[115, 105, 122, 101]⟩⟩ := Fast.ofString_ofList ['s', 'i', 'z', 'e']
theorem nm75 : Str.ofString "get_whole" = ⟨⟨[103, 101, 116, 95, 119, 104, 111, 108, 101]⟩⟩ := Fast.ofString_ofList ['g', 'e', 't', '_', 'w', 'h', 'o', 'l', 'e']
theorem nm76 : Str.ofString "a message is too long" = ⟨⟨[97, 32, 109, 101, 115, 115, 97, 103, 101, 32, 105, 115, 32, 116, 111, 111, 32, 108, 111, 110, 103]⟩⟩ := Fast.ofString_ofList ['a', ' ', 'm', 'e', 's', 's', 'a', 'g', 'e', ' ', 'i', 's', ' ', 't', 'o', 'o', ' ', 'l', 'o', 'n', 'g']
theorem nm77 : Str.ofString "end" = ⟨⟨[101, 110, 100]⟩⟩ := Fast.ofString_ofList ['e', 'n', 'd']
theorem nm78 : Str.ofString "append" = ⟨⟨[97, 112, 112, 101, 110, 100]⟩⟩ := Fast.ofString_ofList ['a', 'p', 'p', 'e', 'n', 'd']
theorem nm79 : Str.ofString "a field has no length" = ⟨⟨[97, 32, 102, 105, 101, 108, 100, 32, 104, 97, 115, 32, 110, 111, 32, 108, 101, 110, 103, 116, 104]⟩⟩ := Fast.ofString_ofList ['a', ' ', 'f', 'i', 'e', 'l', 'd', ' ', 'h', 'a', 's', ' ', 'n', 'o', ' ', 'l', 'e', 'n', 'g', 't', 'h']
theorem nm80 : Str.ofString "a field is too short" = ⟨⟨[97, 32, 102, 105, 101, 108, 100, 32, 105, 115, 32, 116, 111, 111, 32, 115, 104, 111, 114, 116]⟩⟩ := Fast.ofString_ofList ['a', ' ', 'f', 'i', 'e', 'l', 'd', ' ', 'i', 's', ' ', 't', 'o', 'o', ' ', 's', 'h', 'o', 'r', 't']
theorem nm81 : Str.ofString "not so many fields" = ⟨⟨[110, 111, 116, 32, 115, 111, 32, 109, 97, 110, 121, 32, 102, 105, 101, 108, 100, 115]⟩⟩ := Fast.ofString_ofList ['n', 'o', 't', ' ', 's', 'o', ' ', 'm', 'a', 'n', 'y', ' ', 'f', 'i', 'e', 'l', 'd', 's']
theorem nm82 : Str.ofString "CRYPTO_FRAME" = ⟨⟨[67, 82, 89, 80, 84, 79, 95, 70, 82, 65, 77, 69]⟩⟩ := Fast.ofString_ofList ['C', 'R', 'Y', 'P', 'T', 'O', '_', 'F', 'R', 'A', 'M', 'E']
theorem nm83 : Str.ofString "alert" = ⟨⟨[97, 108, 101, 114, 116]⟩⟩ := Fast.ofString_ofList ['a', 'l', 'e', 'r', 't']
theorem nm84 : Str.ofString "text" = ⟨⟨[116, 101, 120, 116]⟩⟩ := Fast.ofString_ofList ['t', 'e', 'x', 't']
theorem nm85 : Str.ofString "CRYPTO_ERROR" = ⟨⟨[67, 82, 89, 80, 84, 79, 95, 69, 82, 82, 79, 82]⟩⟩ := Fast.ofString_ofList ['C', 'R', 'Y', 'P', 'T', 'O', '_', 'E', 'R', 'R', 'O', 'R']
theorem nm86 : Str.ofString "Short" = ⟨⟨[83, 104, 111, 114, 116]⟩⟩ := Fast.ofString_ofList ['S', 'h', 'o', 'r', 't']
theorem nm87 : Str.ofString "Exception" = ⟨⟨[69, 120, 99, 101, 112, 116, 105, 111, 110]⟩⟩ := Fast.ofString_ofList ['E', 'x', 'c', 'e', 'p', 't', 'i', 'o', 'n']
theorem nm88 : Str.ofString "__init__" = ⟨⟨[95, 95, 105, 110, 105, 116, 95, 95]⟩⟩ := Fast.ofString_ofList ['_', '_', 'i', 'n', 'i', 't', '_', '_']
theorem nm89 : Str.ofString "self" = ⟨⟨[115, 101, 108, 102]⟩⟩ := Fast.ofString_ofList ['s', 'e', 'l', 'f']
theorem nm90 : Str.ofString "quic.varint" = ⟨⟨[113, 117, 105, 99, 46, 118, 97, 114, 105, 110, 116]⟩⟩ := Fast.ofString_ofList ['q', 'u', 'i', 'c', '.', 'v', 'a', 'r', 'i', 'n', 't']
theorem nm91 : Str.ofString "n" = ⟨⟨[110]⟩⟩ := Fast.ofString_ofList ['n']
theorem nm92 : Str.ofString "INTERNAL_ERROR" = ⟨⟨[73, 78, 84, 69, 82, 78, 65, 76, 95, 69, 82, 82, 79, 82]⟩⟩ := Fast.ofString_ofList ['I', 'N', 'T', 'E', 'R', 'N', 'A', 'L', '_', 'E', 'R', 'R', 'O', 'R']
theorem nm93 : Str.ofString "a number that has no such octets" = ⟨⟨[97, 32, 110, 117, 109, 98, 101, 114, 32, 116, 104, 97, 116, 32, 104, 97, 115, 32, 110, 111, 32, 115, 117, 99, 104, 32, 111, 99, 116, 101, 116, 115]⟩⟩ := Fast.ofString_ofList ['a', ' ', 'n', 'u', 'm', 'b', 'e', 'r', ' ', 't', 'h', 'a', 't', ' ', 'h', 'a', 's', ' ', 'n', 'o', ' ', 's', 'u', 'c', 'h', ' ', 'o', 'c', 't', 'e', 't', 's']
theorem nm94 : Str.ofString "bytearray" = ⟨⟨[98, 121, 116, 101, 97, 114, 114, 97, 121]⟩⟩ := Fast.ofString_ofList ['b', 'y', 't', 'e', 'a', 'r', 'r', 'a', 'y']
theorem nm95 : Str.ofString "place" = ⟨⟨[112, 108, 97, 99, 101]⟩⟩ := Fast.ofString_ofList ['p', 'l', 'a', 'c', 'e']
theorem nm96 : Str.ofString "a number ends too early" = ⟨⟨[97, 32, 110, 117, 109, 98, 101, 114, 32, 101, 110, 100, 115, 32, 116, 111, 111, 32, 101, 97, 114, 108, 121]⟩⟩ := Fast.ofString_ofList ['a', ' ', 'n', 'u', 'm', 'b', 'e', 'r', ' ', 'e', 'n', 'd', 's', ' ', 't', 'o', 'o', ' ', 'e', 'a', 'r', 'l', 'y']
theorem nm97 : Str.ofString "octet" = ⟨⟨[111, 99, 116, 101, 116]⟩⟩ := Fast.ofString_ofList ['o', 'c', 't', 'e', 't']
theorem nm98 : Str.ofString "quic.toytls" = ⟨⟨[113, 117, 105, 99, 46, 116, 111, 121, 116, 108, 115]⟩⟩ := Fast.ofString_ofList ['q', 'u', 'i', 'c', '.', 't', 'o', 'y', 't', 'l', 's']
theorem nm99 : Str.ofString "quic.errors" = ⟨⟨[113, 117, 105, 99, 46, 101, 114, 114, 111, 114, 115]⟩⟩ := Fast.ofString_ofList ['q', 'u', 'i', 'c', '.', 'e', 'r', 'r', 'o', 'r', 's']
theorem nm100 : Str.ofString "frame_type" = ⟨⟨[102, 114, 97, 109, 101, 95, 116, 121, 112, 101]⟩⟩ := Fast.ofString_ofList ['f', 'r', 'a', 'm', 'e', '_', 't', 'y', 'p', 'e']
theorem nm101 : Str.ofString "str" = ⟨⟨[115, 116, 114]⟩⟩ := Fast.ofString_ofList ['s', 't', 'r']
theorem nm102 : Str.ofString ": " = ⟨⟨[58, 32]⟩⟩ := Fast.ofString_ofList [':', ' ']
theorem nm103 : Str.ofString "/claim/cut.py" = ⟨⟨[47, 99, 108, 97, 105, 109, 47, 99, 117, 116, 46, 112, 121]⟩⟩ := Fast.ofString_ofList ['/', 'c', 'l', 'a', 'i', 'm', '/', 'c', 'u', 't', '.', 'p', 'y']
set_option maxHeartbeats 8000000 in
noncomputable def Gw (P : Program → Type) (k : (f : Named) → (x0 x1 x2 x3 x4 x5 x6 x7 x8 x9 x10 x11 x12 x13 x14 x15 x16 x17 x18 x19 x20 x21 x22 x23 x24 x25 x26 x27 x28 x29 x30 x31 x32 x33 x34 x35 x36 x37 x38 x39 x40 x41 x42 x43 x44 x45 x46 x47 x48 x49 x50 x51 x52 x53 x54 x55 x56 x57 x58 x59 x60 x61 x62 x63 x64 x65 x66 x67 x68 x69 x70 x71 x72 x73 x74 x75 x76 x77 x78 x79 x80 x81 x82 x83 x84 x85 x86 x87 x88 x89 x90 x91 x92 x93 x94 x95 x96 x97 x98 x99 x100 x101 x102 x103 : Str) → P (f x0 x1 x2 x3 x4 x5 x6 x7 x8 x9 x10 x11 x12 x13 x14 x15 x16 x17 x18 x19 x20 x21 x22 x23 x24 x25 x26 x27 x28 x29 x30 x31 x32 x33 x34 x35 x36 x37 x38 x39 x40 x41 x42 x43 x44 x45 x46 x47 x48 x49 x50 x51 x52 x53 x54 x55 x56 x57 x58 x59 x60 x61 x62 x63 x64 x65 x66 x67 x68 x69 x70 x71 x72 x73 x74 x75 x76 x77 x78 x79 x80 x81 x82 x83 x84 x85 x86 x87 x88 x89 x90 x91 x92 x93 x94 x95 x96 x97 x98 x99 x100 x101 x102 x103)) : P PySem.Challenge.pw_pf0253_01 := by
  refine (?_ : P (Program.mk _ _ _ _ _ _))
  generalize Str.ofString "_law_split_right" = x0, Str.ofString "pen" = x1, Str.ofString "most" = x2, Str.ofString "_law_next" = x3, Str.ofString "rows" = x4, Str.ofString "bytes" = x5, Str.ofString "at" = x6, Str.ofString "range" = x7, Str.ofString ".0" = x8, Str.ofString "whole" = x9, Str.ofString "kind" = x10, Str.ofString "len" = x11, Str.ofString "body" = x12, Str.ofString "put_message" = x13, Str.ofString "data" = x14, Str.ofString "join" = x15, Str.ofString "due" = x16, Str.ofString "message" = x17, Str.ofString "zip" = x18, Str.ofString "_law_told" = x19, Str.ofString "split_messages" = x20, Str.ofString "refused" = x21, Str.ofString "told" = x22, Str.ofString "fast" = x23, Str.ofString "_law_fields_right" = x24, Str.ofString "some" = x25, Str.ofString "one" = x26, Str.ofString "put_field" = x27, Str.ofString "read_fields" = x28, Str.ofString "wrong" = x29, Str.ofString "_law_hellos_right" = x30, Str.ofString "random" = x31, Str.ofString "own" = x32, Str.ofString "spoken" = x33, Str.ofString "read_client_hello" = x34, Str.ofString "client_hello" = x35, Str.ofString "read_server_hello" = x36, Str.ofString "server_hello" = x37, Str.ofString "read_extensions" = x38, Str.ofString "extensions" = x39, Str.ofString "_law_chosen_right" = x40, Str.ofString "names" = x41, Str.ofString "ours" = x42, Str.ofString "theirs" = x43, Str.ofString "turn" = x44, Str.ofString "side" = x45, Str.ofString "shared" = x46, Str.ofString "chosen_protocol" = x47, Str.ofString "law" = x48, Str.ofString "script" = x49, Str.ofString "list" = x50, Str.ofString "sum" = x51, Str.ofString "protocol" = x52, Str.ofString "params" = x53, Str.ofString "tls_error" = x54, Str.ofString "ALERT_NO_PROTOCOL" = x55, Str.ofString "no protocol is spoken by both" = x56, Str.ofString "__name__" = x57, Str.ofString "law_pf0253_01" = x58, Str.ofString "many" = x59, Str.ofString "work" = x60, Str.ofString "QuicError" = x61, Str.ofString "refusal" = x62, Str.ofString "code" = x63, Str.ofString "protocols" = x64, Str.ofString "CLIENT_HELLO" = x65, Str.ofString "RANDOM_SIZE" = x66, Str.ofString "ALERT_DECODE" = x67, Str.ofString "not so many random octets" = x68, Str.ofString "SERVER_HELLO" = x69, Str.ofString "ENCRYPTED_EXTENSIONS" = x70, Str.ofString "put_whole" = x71, Str.ofString "found" = x72, Str.ofString "HEAD_SIZE" = x73, Str.ofString "size" = x74, Str.ofString "get_whole" = x75, Str.ofString "a message is too long" = x76, Str.ofString "end" = x77, Str.ofString "append" = x78, Str.ofString "a field has no length" = x79, Str.ofString "a field is too short" = x80, Str.ofString "not so many fields" = x81, Str.ofString "CRYPTO_FRAME" = x82, Str.ofString "alert" = x83, Str.ofString "text" = x84, Str.ofString "CRYPTO_ERROR" = x85, Str.ofString "Short" = x86, Str.ofString "Exception" = x87, Str.ofString "__init__" = x88, Str.ofString "self" = x89, Str.ofString "quic.varint" = x90, Str.ofString "n" = x91, Str.ofString "INTERNAL_ERROR" = x92, Str.ofString "a number that has no such octets" = x93, Str.ofString "bytearray" = x94, Str.ofString "place" = x95, Str.ofString "a number ends too early" = x96, Str.ofString "octet" = x97, Str.ofString "quic.toytls" = x98, Str.ofString "quic.errors" = x99, Str.ofString "frame_type" = x100, Str.ofString "str" = x101, Str.ofString ": " = x102, Str.ofString "/claim/cut.py" = x103
  revert x0 x1 x2 x3 x4 x5 x6 x7 x8 x9 x10 x11 x12 x13 x14 x15 x16 x17 x18 x19 x20 x21 x22 x23 x24 x25 x26 x27 x28 x29 x30 x31 x32 x33 x34 x35 x36 x37 x38 x39 x40 x41 x42 x43 x44 x45 x46 x47 x48 x49 x50 x51 x52 x53 x54 x55 x56 x57 x58 x59 x60 x61 x62 x63 x64 x65 x66 x67 x68 x69 x70 x71 x72 x73 x74 x75 x76 x77 x78 x79 x80 x81 x82 x83 x84 x85 x86 x87 x88 x89 x90 x91 x92 x93 x94 x95 x96 x97 x98 x99 x100 x101 x102 x103
  exact k _
noncomputable def G : Named := Gw (fun _ => Named) (fun f _ _ _ _ _ _ _ _ _ _ _ _ _ _ _ _ _ _ _ _ _ _ _ _ _ _ _ _ _ _ _ _ _ _ _ _ _ _ _ _ _ _ _ _ _ _ _ _ _ _ _ _ _ _ _ _ _ _ _ _ _ _ _ _ _ _ _ _ _ _ _ _ _ _ _ _ _ _ _ _ _ _ _ _ _ _ _ _ _ _ _ _ _ _ _ _ _ _ _ _ _ _ _ _ => f)
theorem pw_G : PySem.Challenge.pw_pf0253_01 = G (Str.ofString "_law_split_right") (Str.ofString "pen") (Str.ofString "most") (Str.ofString "_law_next") (Str.ofString "rows") (Str.ofString "bytes") (Str.ofString "at") (Str.ofString "range") (Str.ofString ".0") (Str.ofString "whole") (Str.ofString "kind") (Str.ofString "len") (Str.ofString "body") (Str.ofString "put_message") (Str.ofString "data") (Str.ofString "join") (Str.ofString "due") (Str.ofString "message") (Str.ofString "zip") (Str.ofString "_law_told") (Str.ofString "split_messages") (Str.ofString "refused") (Str.ofString "told") (Str.ofString "fast") (Str.ofString "_law_fields_right") (Str.ofString "some") (Str.ofString "one") (Str.ofString "put_field") (Str.ofString "read_fields") (Str.ofString "wrong") (Str.ofString "_law_hellos_right") (Str.ofString "random") (Str.ofString "own") (Str.ofString "spoken") (Str.ofString "read_client_hello") (Str.ofString "client_hello") (Str.ofString "read_server_hello") (Str.ofString "server_hello") (Str.ofString "read_extensions") (Str.ofString "extensions") (Str.ofString "_law_chosen_right") (Str.ofString "names") (Str.ofString "ours") (Str.ofString "theirs") (Str.ofString "turn") (Str.ofString "side") (Str.ofString "shared") (Str.ofString "chosen_protocol") (Str.ofString "law") (Str.ofString "script") (Str.ofString "list") (Str.ofString "sum") (Str.ofString "protocol") (Str.ofString "params") (Str.ofString "tls_error") (Str.ofString "ALERT_NO_PROTOCOL") (Str.ofString "no protocol is spoken by both") (Str.ofString "__name__") (Str.ofString "law_pf0253_01") (Str.ofString "many") (Str.ofString "work") (Str.ofString "QuicError") (Str.ofString "refusal") (Str.ofString "code") (Str.ofString "protocols") (Str.ofString "CLIENT_HELLO") (Str.ofString "RANDOM_SIZE") (Str.ofString "ALERT_DECODE") (Str.ofString "not so many random octets") (Str.ofString "SERVER_HELLO") (Str.ofString "ENCRYPTED_EXTENSIONS") (Str.ofString "put_whole") (Str.ofString "found") (Str.ofString "HEAD_SIZE") (Str.ofString "size") (Str.ofString "get_whole") (Str.ofString "a message is too long") (Str.ofString "end") (Str.ofString "append") (Str.ofString "a field has no length") (Str.ofString "a field is too short") (Str.ofString "not so many fields") (Str.ofString "CRYPTO_FRAME") (Str.ofString "alert") (Str.ofString "text") (Str.ofString "CRYPTO_ERROR") (Str.ofString "Short") (Str.ofString "Exception") (Str.ofString "__init__") (Str.ofString "self") (Str.ofString "quic.varint") (Str.ofString "n") (Str.ofString "INTERNAL_ERROR") (Str.ofString "a number that has no such octets") (Str.ofString "bytearray") (Str.ofString "place") (Str.ofString "a number ends too early") (Str.ofString "octet") (Str.ofString "quic.toytls") (Str.ofString "quic.errors") (Str.ofString "frame_type") (Str.ofString "str") (Str.ofString ": ") (Str.ofString "/claim/cut.py") := by with_unfolding_all rfl
noncomputable def pwT : Program := G ⟨⟨[95, 108, 97, 119, 95, 115, 112, 108, 105, 116, 95, 114, 105, 103, 104, 116]⟩⟩ ⟨⟨[112, 101, 110]⟩⟩ ⟨⟨[109, 111, 115, 116]⟩⟩ ⟨⟨[95, 108, 97, 119, 95, 110, 101, 120, 116]⟩⟩ ⟨⟨[114, 111, 119, 115]⟩⟩ ⟨⟨[98, 121, 116, 101, 115]⟩⟩ ⟨⟨[97, 116]⟩⟩ ⟨⟨[114, 97, 110, 103, 101]⟩⟩ ⟨⟨[46, 48]⟩⟩ ⟨⟨[119, 104, 111, 108, 101]⟩⟩ ⟨⟨[107, 105, 110, 100]⟩⟩ ⟨⟨[108, 101, 110]⟩⟩ ⟨⟨[98, 111, 100, 121]⟩⟩ ⟨⟨[112, 117, 116, 95, 109, 101, 115, 115, 97, 103, 101]⟩⟩ ⟨⟨[100, 97, 116, 97]⟩⟩ ⟨⟨[106, 111, 105, 110]⟩⟩ ⟨⟨[100, 117, 101]⟩⟩ ⟨⟨[109, 101, 115, 115, 97, 103, 101]⟩⟩ ⟨⟨[122, 105, 112]⟩⟩ ⟨⟨[95, 108, 97, 119, 95, 116, 111, 108, 100]⟩⟩ ⟨⟨[115, 112, 108, 105, 116, 95, 109, 101, 115, 115, 97, 103, 101, 115]⟩⟩ ⟨⟨[114, 101, 102, 117, 115, 101, 100]⟩⟩ ⟨⟨[116, 111, 108, 100]⟩⟩ ⟨⟨[102, 97, 115, 116]⟩⟩ ⟨⟨[95, 108, 97, 119, 95, 102, 105, 101, 108, 100, 115, 95, 114, 105, 103, 104, 116]⟩⟩ ⟨⟨[115, 111, 109, 101]⟩⟩ ⟨⟨[111, 110, 101]⟩⟩ ⟨⟨[112, 117, 116, 95, 102, 105, 101, 108, 100]⟩⟩ ⟨⟨[114, 101, 97, 100, 95, 102, 105, 101, 108, 100, 115]⟩⟩ ⟨⟨[119, 114, 111, 110, 103]⟩⟩ ⟨⟨[95, 108, 97, 119, 95, 104, 101, 108, 108, 111, 115, 95, 114, 105, 103, 104, 116]⟩⟩ ⟨⟨[114, 97, 110, 100, 111, 109]⟩⟩ ⟨⟨[111, 119, 110]⟩⟩ ⟨⟨[115, 112, 111, 107, 101, 110]⟩⟩ ⟨⟨[114, 101, 97, 100, 95, 99, 108, 105, 101, 110, 116, 95, 104, 101, 108, 108, 111]⟩⟩ ⟨⟨[99, 108, 105, 101, 110, 116, 95, 104, 101, 108, 108, 111]⟩⟩ ⟨⟨[114, 101, 97, 100, 95, 115, 101, 114, 118, 101, 114, 95, 104, 101, 108, 108, 111]⟩⟩ ⟨⟨[115, 101, 114, 118, 101, 114, 95, 104, 101, 108, 108, 111]⟩⟩ ⟨⟨[114, 101, 97, 100, 95, 101, 120, 116, 101, 110, 115, 105, 111, 110, 115]⟩⟩ ⟨⟨[101, 120, 116, 101, 110, 115, 105, 111, 110, 115]⟩⟩ ⟨⟨[95, 108, 97, 119, 95, 99, 104, 111, 115, 101, 110, 95, 114, 105, 103, 104, 116]⟩⟩ ⟨⟨[110, 97, 109, 101, 115]⟩⟩ ⟨⟨[111, 117, 114, 115]⟩⟩ ⟨⟨[116, 104, 101, 105, 114, 115]⟩⟩ ⟨⟨[116, 117, 114, 110]⟩⟩ ⟨⟨[115, 105, 100, 101]⟩⟩ ⟨⟨[115, 104, 97, 114, 101, 100]⟩⟩ ⟨⟨[99, 104, 111, 115, 101, 110, 95, 112, 114, 111, 116, 111, 99, 111, 108]⟩⟩ ⟨⟨[108, 97, 119]⟩⟩ ⟨⟨[115, 99, 114, 105, 112, 116]⟩⟩ ⟨⟨[108, 105, 115, 116]⟩⟩ ⟨⟨[115, 117, 109]⟩⟩ ⟨⟨[112, 114, 111, 116, 111, 99, 111, 108]⟩⟩ ⟨⟨[112, 97, 114, 97, 109, 115]⟩⟩ ⟨⟨[116, 108, 115, 95, 101, 114, 114, 111, 114]⟩⟩ ⟨⟨[65, 76, 69, 82, 84, 95, 78, 79, 95, 80, 82, 79, 84, 79, 67, 79, 76]⟩⟩ ⟨⟨[110, 111, 32, 112, 114, 111, 116, 111, 99, 111, 108, 32, 105, 115, 32, 115, 112, 111, 107, 101, 110, 32, 98, 121, 32, 98, 111, 116, 104]⟩⟩ ⟨⟨[95, 95, 110, 97, 109, 101, 95, 95]⟩⟩ ⟨⟨[108, 97, 119, 95, 112, 102, 48, 50, 53, 51, 95, 48, 49]⟩⟩ ⟨⟨[109, 97, 110, 121]⟩⟩ ⟨⟨[119, 111, 114, 107]⟩⟩ ⟨⟨[81, 117, 105, 99, 69, 114, 114, 111, 114]⟩⟩ ⟨⟨[114, 101, 102, 117, 115, 97, 108]⟩⟩ ⟨⟨[99, 111, 100, 101]⟩⟩ ⟨⟨[112, 114, 111, 116, 111, 99, 111, 108, 115]⟩⟩ ⟨⟨[67, 76, 73, 69, 78, 84, 95, 72, 69, 76, 76, 79]⟩⟩ ⟨⟨[82, 65, 78, 68, 79, 77, 95, 83, 73, 90, 69]⟩⟩ ⟨⟨[65, 76, 69, 82, 84, 95, 68, 69, 67, 79, 68, 69]⟩⟩ ⟨⟨[110, 111, 116, 32, 115, 111, 32, 109, 97, 110, 121, 32, 114, 97, 110, 100, 111, 109, 32, 111, 99, 116, 101, 116, 115]⟩⟩ ⟨⟨[83, 69, 82, 86, 69, 82, 95, 72, 69, 76, 76, 79]⟩⟩ ⟨⟨[69, 78, 67, 82, 89, 80, 84, 69, 68, 95, 69, 88, 84, 69, 78, 83, 73, 79, 78, 83]⟩⟩ ⟨⟨[112, 117, 116, 95, 119, 104, 111, 108, 101]⟩⟩ ⟨⟨[102, 111, 117, 110, 100]⟩⟩ ⟨⟨[72, 69, 65, 68, 95, 83, 73, 90, 69]⟩⟩ ⟨⟨[115, 105, 122, 101]⟩⟩ ⟨⟨[103, 101, 116, 95, 119, 104, 111, 108, 101]⟩⟩ ⟨⟨[97, 32, 109, 101, 115, 115, 97, 103, 101, 32, 105, 115, 32, 116, 111, 111, 32, 108, 111, 110, 103]⟩⟩ ⟨⟨[101, 110, 100]⟩⟩ ⟨⟨[97, 112, 112, 101, 110, 100]⟩⟩ ⟨⟨[97, 32, 102, 105, 101, 108, 100, 32, 104, 97, 115, 32, 110, 111, 32, 108, 101, 110, 103, 116, 104]⟩⟩ ⟨⟨[97, 32, 102, 105, 101, 108, 100, 32, 105, 115, 32, 116, 111, 111, 32, 115, 104, 111, 114, 116]⟩⟩ ⟨⟨[110, 111, 116, 32, 115, 111, 32, 109, 97, 110, 121, 32, 102, 105, 101, 108, 100, 115]⟩⟩ ⟨⟨[67, 82, 89, 80, 84, 79, 95, 70, 82, 65, 77, 69]⟩⟩ ⟨⟨[97, 108, 101, 114, 116]⟩⟩ ⟨⟨[116, 101, 120, 116]⟩⟩ ⟨⟨[67, 82, 89, 80, 84, 79, 95, 69, 82, 82, 79, 82]⟩⟩ ⟨⟨[83, 104, 111, 114, 116]⟩⟩ ⟨⟨[69, 120, 99, 101, 112, 116, 105, 111, 110]⟩⟩ ⟨⟨[95, 95, 105, 110, 105, 116, 95, 95]⟩⟩ ⟨⟨[115, 101, 108, 102]⟩⟩ ⟨⟨[113, 117, 105, 99, 46, 118, 97, 114, 105, 110, 116]⟩⟩ ⟨⟨[110]⟩⟩ ⟨⟨[73, 78, 84, 69, 82, 78, 65, 76, 95, 69, 82, 82, 79, 82]⟩⟩ ⟨⟨[97, 32, 110, 117, 109, 98, 101, 114, 32, 116, 104, 97, 116, 32, 104, 97, 115, 32, 110, 111, 32, 115, 117, 99, 104, 32, 111, 99, 116, 101, 116, 115]⟩⟩ ⟨⟨[98, 121, 116, 101, 97, 114, 114, 97, 121]⟩⟩ ⟨⟨[112, 108, 97, 99, 101]⟩⟩ ⟨⟨[97, 32, 110, 117, 109, 98, 101, 114, 32, 101, 110, 100, 115, 32, 116, 111, 111, 32, 101, 97, 114, 108, 121]⟩⟩ ⟨⟨[111, 99, 116, 101, 116]⟩⟩ ⟨⟨[113, 117, 105, 99, 46, 116, 111, 121, 116, 108, 115]⟩⟩ ⟨⟨[113, 117, 105, 99, 46, 101, 114, 114, 111, 114, 115]⟩⟩ ⟨⟨[102, 114, 97, 109, 101, 95, 116, 121, 112, 101]⟩⟩ ⟨⟨[115, 116, 114]⟩⟩ ⟨⟨[58, 32]⟩⟩ ⟨⟨[47, 99, 108, 97, 105, 109, 47, 99, 117, 116, 46, 112, 121]⟩⟩
theorem pw_T : PySem.Challenge.pw_pf0253_01 = pwT := pw_G.trans (congr (congr (congr (congr (congr (congr (congr (congr (congr (congr (congr (congr (congr (congr (congr (congr (congr (congr (congr (congr (congr (congr (congr (congr (congr (congr (congr (congr (congr (congr (congr (congr (congr (congr (congr (congr (congr (congr (congr (congr (congr (congr (congr (congr (congr (congr (congr (congr (congr (congr (congr (congr (congr (congr (congr (congr (congr (congr (congr (congr (congr (congr (congr (congr (congr (congr (congr (congr (congr (congr (congr (congr (congr (congr (congr (congr (congr (congr (congr (congr (congr (congr (congr (congr (congr (congr (congr (congr (congr (congr (congr (congr (congr (congr (congr (congr (congr (congr (congr (congr (congr (congr (congr (congr (rfl : G = G) nm0) nm1) nm2) nm3) nm4) nm5) nm6) nm7) nm8) nm9) nm10) nm11) nm12) nm13) nm14) nm15) nm16) nm17) nm18) nm19) nm20) nm21) nm22) nm23) nm24) nm25) nm26) nm27) nm28) nm29) nm30) nm31) nm32) nm33) nm34) nm35) nm36) nm37) nm38) nm39) nm40) nm41) nm42) nm43) nm44) nm45) nm46) nm47) nm48) nm49) nm50) nm51) nm52) nm53) nm54) nm55) nm56) nm57) nm58) nm59) nm60) nm61) nm62) nm63) nm64) nm65) nm66) nm67) nm68) nm69) nm70) nm71) nm72) nm73) nm74) nm75) nm76) nm77) nm78) nm79) nm80) nm81) nm82) nm83) nm84) nm85) nm86) nm87) nm88) nm89) nm90) nm91) nm92) nm93) nm94) nm95) nm96) nm97) nm98) nm99) nm100) nm101) nm102) nm103)
noncomputable def rwT : OpenLaw := ⟨pwT, ⟨⟨[108, 97, 119]⟩⟩, [⟨⟨[115, 112, 108, 105, 116, 95, 109, 101, 115, 115, 97, 103, 101, 115]⟩⟩], 7, some 63, none, false⟩
theorem rw_T : PySem.Challenge.rw_pf0253_01 = rwT := by
  show OpenLaw.mk PySem.Challenge.pw_pf0253_01 (Str.ofString "law") [Str.ofString "split_messages"] 7 (some 63) none false = OpenLaw.mk pwT ⟨⟨[108, 97, 119]⟩⟩ [⟨⟨[115, 112, 108, 105, 116, 95, 109, 101, 115, 115, 97, 103, 101, 115]⟩⟩] 7 (some 63) none false
  rw [pw_T, nm48, nm20]
set_option maxHeartbeats 8000000 in
theorem said_T : rwT.wellSaid = true := by k_qdec
theorem law_said : PySem.Challenge.rw_pf0253_01.wellSaid = true := by rw [rw_T]; exact said_T
local macro_rules | `(tactic| o_law) => `(tactic| refine holds_law Mine.law_said fun said => ?_)
set_option maxRecDepth 100000 in
set_option maxHeartbeats 8000000 in
open_top hd for PySem.Challenge.rw_pf0253_01
theorem off_Base : True := by
  w_top off
  trivial
/-- all that stood stays, but what mt names -/
noncomputable def Keeps (mt : List Addr) (h h' : Heap) : Prop := ∀ b o, h.get? b = some o → b ∉ mt → h'.get? b = some o
theorem Keeps.of_all {mt : List Addr} {h h' : Heap} (k : ∀ b o, h.get? b = some o → h'.get? b = some o) : Keeps mt h h' := fun b o e _ => k b o e
theorem Keeps.all {h h' : Heap} (k : Keeps [] h h') : ∀ b o, h.get? b = some o → h'.get? b = some o := fun b o e => k b o e (by simp)
theorem Keeps.fr {mt : List Addr} {h g h' : Heap} {L' : Addr} {m' : Str → Option Value} (k : Keeps mt h g) (F : Fr g L' h' m') : Keeps mt h h' := fun b o e n => F.keep b o (k b o e n)
theorem Keeps.trans {mt : List Addr} {h g h' : Heap} (k : Keeps mt h g) (k' : Keeps mt g h') : Keeps mt h h' := fun b o e n => k' b o (k b o e n) n
theorem fr_kept {mt : List Addr} {h₀ h h' : Heap} {L : Addr} {m : Str → Option Value} (F : Fr h₀ L h m) (k : Keeps mt h h') (hm : ∀ a ∈ mt, h₀.get? a = none ∧ a ≠ L) : Fr h₀ L h' m := by
  refine cps fun G9 r9 => ?_
  obtain ⟨o, es, ep, ho, r⟩ := F.ns
  refine r9 ?_
  clear r9 G9
  refine ⟨⟨o, es, ep, k _ _ ho (fun q => (hm _ q).2 rfl), r⟩, fun b ob e => k _ _ (F.keep _ _ e) (fun q => ?_), F.above⟩
  rw [(hm _ q).1] at e; cases e
theorem fr_kept0 {h₀ h h' : Heap} {L : Addr} {m : Str → Option Value} (F : Fr h₀ L h m) (k : Keeps [] h h') : Fr h₀ L h' m := fr_kept F k (fun _ q => nomatch q)
theorem news_kept0 {h₀ h h' : Heap} {L : Addr} {news : List (Addr × Obj)} (N : News h₀ L h news) (k : Keeps [] h h') : News h₀ L h' news := fun p hp => ⟨k.all _ _ (N p hp).1, (N p hp).2⟩
theorem fr_keptU {h₀ h h' : Heap} {L P : Addr} {m : Str → Option Value} {o : Obj} {news : List (Addr × Obj)} {g : Obj → List (Addr × Obj)} (F : Fr h₀ L h m) (N : News h₀ L h news) (U : UpdF P o news g) (k : Keeps [P] h h') : Fr h₀ L h' m := by
  refine cps fun G9 r9 => ?_
  obtain ⟨pre, post, rfl, _, _, _⟩ := U.split
  refine r9 ?_
  clear r9 G9
  have := N (P, o) (List.mem_append_right _ (.head _))
  exact fr_kept F k fun a q => by rw [List.mem_singleton.mp q]; exact ⟨this.2.2, this.2.1⟩
theorem news_keptU {h₀ h h' : Heap} {L P : Addr} {o o' : Obj} {news : List (Addr × Obj)} {g : Obj → List (Addr × Obj)} (N : News h₀ L h news) (U : UpdF P o news g) (k : Keeps [P] h h') (hP : h'.get? P = some o') : News h₀ L h' (g o') := by
  refine cps fun G9 r9 => ?_
  obtain ⟨pre, post, rfl, hg, n1, n2⟩ := U.split
  refine r9 ?_
  clear r9 G9
  intro p hp
  rw [hg] at hp
  rcases List.mem_append.mp hp with q | q
  · have n := N p (List.mem_append_left _ q)
    exact ⟨k _ _ n.1 (by simpa using n1 p q), n.2⟩
  · rcases List.mem_cons.mp q with rfl | q
    · have n := N (P, o) (List.mem_append_right _ (.head _))
      exact ⟨hP, n.2⟩
    · have n := N p (List.mem_append_right _ (.tail _ q))
      exact ⟨k _ _ n.1 (by simpa using n2 p q), n.2⟩
theorem news_got {h₀ h : Heap} {L P : Addr} {o : Obj} {news : List (Addr × Obj)} {g : Obj → List (Addr × Obj)} (N : News h₀ L h news) (U : UpdF P o news g) : News h₀ L h [(P, o)] := by
  refine cps fun G9 r9 => ?_
  obtain ⟨pre, post, rfl, _, _, _⟩ := U.split
  refine r9 ?_
  clear r9 G9
  intro p hp
  rw [List.mem_singleton.mp hp]
  exact N (P, o) (List.mem_append_right _ (.head _))
theorem news_add {h₀ h h' : Heap} {L r : Addr} {m : Str → Option Value} {o : Obj} {news : List (Addr × Obj)} (F : Fr h₀ L h m) (N : News h₀ L h' news) (hr : h.objs.size ≤ r) (ho : h'.get? r = some o) : News h₀ L h' ((r, o) :: news) := by
  intro p hp
  rcases List.mem_cons.mp hp with rfl | hp
  · have := F.ns.lt
    exact ⟨ho, Nat.ne_of_gt (Nat.lt_of_lt_of_le this hr), Heap.get?_none_of_le (Nat.le_trans F.above (Nat.le_of_lt (Nat.lt_of_lt_of_le this hr)))⟩
  · exact N p hp
theorem news_below {h₀ h : Heap} {L r : Addr} {news : List (Addr × Obj)} (N : News h₀ L h news) (hr : h.objs.size ≤ r) : ∀ p ∈ news, p.1 < r := fun p hp => Nat.lt_of_lt_of_le (Heap.lt_size (N p hp).1) hr
section
variable {prog : Program} {w : World} {A₀ A : Around} {s : Shared} {base h₀ : Heap} {outer : List Env} {L : Addr} {m mg mb : Str → Option Value} {env : Env} {news : List (Addr × Obj)} {K : Frag} {p : Program} {loose : List Str} {mean : ExcName → Option Value}
  {R : Result → Shared → Prop} {name qual : Str} {params : Arguments} {body : List Stmt} {scope : Scope} {dV kV doc pm cdv ct oc : Value} {an od : Option Addr} {osl : Array (Option Value)} {f : Addr} {args : Args} {binds : List (Str × Value)}
theorem hide_facts (B : Below A₀ base outer h₀) (F : Fr h₀ L s.heap m) (N : News h₀ L s.heap news) (hA : A.frames = some (env :: outer)) (hf : env.frame = some L) (hke : env.scope.kind = .function) :
    Below A base (env :: outer) (hideAll s.heap (news.map (·.1))) ∧ h₀.StaysIn (hideAll s.heap (news.map (·.1))) ∧ Keeps (news.map (·.1)) s.heap (hideAll s.heap (news.map (·.1))) := by
  refine cps fun G9 r9 => ?_
  obtain ⟨_, BG, st, _⟩ := groundX (R := fun _ _ => True) B F N hA hf hke
  refine r9 ?_
  clear r9 G9
  exact ⟨BG, st, fun b o e n => hideAll_get _ e n⟩
/-- a def is entered: what the ledger names is at hand, all else is the ground -/
theorem enter_raw (hA : A.frames = some (env :: outer) := by exact rfl) (hf : env.frame = some L := by exact rfl) (hke : env.scope.kind = .function := by assumption) (B : Below A₀ base outer h₀ := by k_asm) (F : Fr h₀ L s.heap m := by k_asm) (X₀ : K.In h₀ := by k_asm) (N : News h₀ L s.heap news := by k_asm) (T : Top p loose mean mg mb h₀ := by k_asm)
    (ho : K.lookup f = some ⟨oc, od, .func (fnOf name qual params body scope dV kV doc pm an cdv ct), osl⟩ := by k_is) (hcd : codeIn K cdv qual = true := by k_is) (hroom : A.depth < recursionLimit := by ktr_room)
    (hbind : BindsTo s (fnOf name qual params body scope dV kV doc pm an cdv ct) args binds := by exact BindsTo.of_eq rfl) (hloc : ∀ y ∈ binds, scope.names.lookup y.1 = some .local := by exact locs rfl)
    (h : ∀ g L' h₁ tk, Fr g L' h₁ (fun y => binds.reverse.lookup y) → News g L' h₁ news → Below A base (env :: outer) g → K.In g → Top p loose mean mg mb g → Keeps (news.map (·.1)) s.heap g → L' = s.heap.objs.size →
      wpAny (model prog w) (A.deeper (envOf qual scope L' f cdv)) (execs body (envOf qual scope L' f cdv))
        (fun fl s' => R (.ok (.ret (match fl with | .ret v => v | _ => .none))) s')
        (fun e s' => wpAny (model prog w) (A.deeper (envOf qual scope L' f cdv)) (leaving (envOf qual scope L' f cdv) e) (fun _ s'' => R (.error e) s'') (fun e' s'' => R (.error e') s'') s')
        { s with heap := h₁, toks := tk })
    (hco : scope.isCoroutine = false := by exact rfl) (hgen : scope.isGenerator = false := by exact rfl) (hk : scope.kind = .function := by exact rfl)
    (hcell : ∀ x ∈ scope.names, x.2 ≠ .cell := by decide) : codeAny (model prog w) A (.call (.ref f) args) R s := by
  obtain ⟨BG, st, kp⟩ := hide_facts B F N hA hf hke
  have X := X₀.keeps F.keep
  refine codeAny_call_def (fd := fnOf name qual params body scope dV kV doc pm an cdv ct) (body := body) (binds := binds) hroom (X _ _ ho) rfl (T.nolimit.keeps F.keep) (codeRec_of X hcd) rfl hbind hcell hloc (fun h₁ hns hk₁ => ?_) hco hgen hk
  exact h _ _ h₁ _ ⟨hns, fun b o e => hk₁ b o (of_hideAll _ e), Nat.le_of_eq (hideAll_size _ _)⟩ (fun q hq => ⟨hk₁ _ _ (N q hq).1, Nat.ne_of_lt (Heap.lt_size (N q hq).1), hideAll_none _ (List.mem_map_of_mem hq)⟩) BG (X₀.keeps st) (T.keeps st) kp rfl
end
/-- a def's contract: called from any def's frame; mt: the objects that it may change -/
noncomputable def Ctr (prog : Program) (w : World) (f : Addr) (vs : List Value) (dd uu : Nat) (mt : List (Addr × Obj)) (post : Heap → Heap → Value → Prop) : Prop :=
  ∀ (dp un : Nat) (gd : Option (List Code)) (cn : Str) (cs : Scope) (a : Addr) (ccd : Value) (cl : List (Str × Addr)) (outer : List Env) (A₀ : Around) (base h₀ : Heap) (L : Addr) (m : Str → Option Value) (s : Shared)
    (p : Program) (loose : List Str) (mean : ExcName → Option Value) (mg mb : Str → Option Value) (Q E : Value → Shared → Prop),
    Below A₀ base outer h₀ → Fr h₀ L s.heap m → (hd.heap_1 w.params).In h₀ → News h₀ L s.heap mt → Top p loose mean mg mb h₀ → cs.kind = .function → dp + dd < recursionLimit → un + uu < cLine →
    (∀ r h' tk', Keeps (mt.map (·.1)) s.heap h' → post s.heap h' r → Q r { s with heap := h', toks := tk' }) →
    wpAny (model prog w) (ktrTop dp un gd cn cs L a ccd cl outer) (call (.ref f) vs) Q E s
theorem words7 : True := by
  (k_with "mine enter" => (refine enter_raw (h := ?_); k_whole; intro _ _ _ _ _ _ _ _ _ _ _; (try dsimp only); (try k_fold); (refine any_letA ?_; intro envW aroundW)))
  trivial
/-- two lists side by side -/
inductive All2 {α β : Type} (R : α → β → Prop) : List α → List β → Prop
  | nil : All2 R [] []
  | cons {a : α} {b : β} {as : List α} {bs : List β} : R a b → All2 R as bs → All2 R (a :: as) (b :: bs)
theorem All2.length {α β : Type} {R : α → β → Prop} {as : List α} {bs : List β} (h : All2 R as bs) : as.length = bs.length := by
  induction h with
  | nil => rfl
  | cons _ _ ih => exact congrArg (· + 1) ih
theorem All2.snoc {α β : Type} {R : α → β → Prop} {as : List α} {bs : List β} {a : α} {b : β} (h : All2 R as bs) (r : R a b) : All2 R (as ++ [a]) (bs ++ [b]) := by
  induction h with
  | nil => exact .cons r .nil
  | cons q _ ih => exact .cons q ih
theorem All2.mono {α β : Type} {R R' : α → β → Prop} {as : List α} {bs : List β} (h : All2 R as bs) (k : ∀ a b, R a b → R' a b) : All2 R' as bs := by
  induction h with
  | nil => exact .nil
  | cons q _ ih => exact .cons (k _ _ q) ih
theorem All2.get {α β : Type} {R : α → β → Prop} {as : List α} {bs : List β} (h : All2 R as bs) : ∀ j (h1 : j < as.length) (h2 : j < bs.length), R as[j] bs[j] := by
  induction h with
  | nil => exact fun _ h1 => nomatch h1
  | cons r _ ih =>
    intro j h1 h2
    cases j with
    | zero => exact r
    | succ j => exact ih j (Nat.lt_of_succ_lt_succ h1) (Nat.lt_of_succ_lt_succ h2)
theorem off_T1 : True := by
  w_top off
  trivial
theorem fill (h : hd.heap_1 = hd.heap_1) (h' : PySem.Challenge.rw_pf0253_01 = PySem.Challenge.rw_pf0253_01) : hd.heap_1 = hd.heap_1 ∧ PySem.Challenge.rw_pf0253_01 = PySem.Challenge.rw_pf0253_01 := by
  k_fill
  exact ⟨h, h'⟩
noncomputable def penO (l : Addr) (k c : Int) (tk tc : Tok) (n : Nat) : Obj := listOf #[.ref l, .int k tk, .int c tc] n
set_option maxHeartbeats 4000000 in
theorem next_spec {prog : Program} {w : World} {P l : Addr} {vs : List Value} {ns : List Int} {k c many : Int} {tk tc tm : Tok} {n : Nat}
   (hi : IntsAre vs ns) (hn : ns.length ≤ 63) (k0 : 0 ≤ k) (k1 : k < 10000) (c0 : 0 ≤ c) (c1 : c < 997) (m0 : 0 < many) (m1 : many ≤ 1000) :
   ∀ (dp un : Nat) (gd : Option (List Code)) (cn : Str) (cs : Scope) (a : Addr) (ccd : Value) (cl : List (Str × Addr)) (outer : List Env) (A₀ : Around) (base h₀ : Heap) (L : Addr) (m : Str → Option Value) (s : Shared)
    (p : Program) (loose : List Str) (mean : ExcName → Option Value) (mg mb : Str → Option Value) (Q E : Value → Shared → Prop),
    Below A₀ base outer h₀ → Fr h₀ L s.heap m → (hd.heap_1 w.params).In h₀ → News h₀ L s.heap [(P, listOf #[.ref l, .int k tk, .int c tc] n)] → Top p loose mean mg mb h₀ → cs.kind = .function → dp + 1 < recursionLimit → un + 8 < cLine →
    s.heap.IsList l vs.toArray → l ≠ P →
    (∀ v t t' h' tk', Keeps [P] s.heap h' → h'.get? P = some (listOf #[.ref l, .int (k+1) t', .int c tc] n) → 0 ≤ v → v < many → Q (.int v t) { s with heap := h', toks := tk' }) →
    wpAny (model prog w) (ktrTop dp un gd cn cs L a ccd cl outer) (call (.ref 157) [.ref P, .int many tm]) Q E s := by
  intro dp un gd cn cs a ccd cl outer A₀ base h₀ L m s p loose mean mg mb Q E B F X N T hk hd hu hl hlP hret
  refine wpAny_call ?_
  walk_at "mine enter"
  (walk_at "mine shade"; rename_i g' L' h' tk' F' N' B' X' T' S' e'; walk_at "mine light")
  have hl' : g'.IsList l vs.toArray := let ⟨o, ho, r⟩ := hl; ⟨o, S' _ _ ho (by simpa using hlP), r⟩
  k_steps
  all_goals
    refine hret _ _ _ _ _ (Keeps.fr S' (by assumption)) ((‹News g' L' _ [(P, _)]› _ (.head _)).1) (Int.fmod_nonneg_of_pos _ m0) (Int.fmod_lt_of_pos _ m0)
theorem off_BA : True := by
  w_top off
  trivial
noncomputable abbrev baObj (b : Array UInt8) : Obj := { cls := .type "bytearray", data := .bytearray b }
theorem ba_mro : mroOf (.type "bytearray") = pure [.type "bytearray", .type "object"] := by rw [mroOf_type]; kernel_rfl
theorem ba_lookup_new : typeLookup (.type "bytearray") "__new__" = pure (some (.builtin "bytearray.__new__")) := by rw [typeLookup_type, builtinLookup_eq_fast]; kernel_rfl
theorem ba_made : Bind.madeBy (.type "bytearray") = pure (some "bytearray.__new__") := madeBy_type ba_mro ba_lookup_new (by decide +kernel)
theorem ba_sub : isSubtype (.type "bytearray") (.type "bytearray") = pure true := by rw [isSubtype_type]; kernel_rfl
theorem ba_init : Slot "bytearray" "__init__" "bytearray.__init__" :=
  .of (owner := "bytearray") (n := "__init__") (by rw [typeLookup_type, builtinLookup_eq_fast]; kernel_rfl) (by decide +kernel) (by decide +kernel) (by decide +kernel)
    (by first | exact .inl (by decide +kernel) | exact .inr (by decide +kernel)) ba_sub
theorem ba_setitem : Slot "bytearray" "__setitem__" "bytearray.__setitem__" :=
  .of (owner := "bytearray") (n := "__setitem__") (by rw [typeLookup_type, builtinLookup_eq_fast]; kernel_rfl) (by decide +kernel) (by decide +kernel) (by decide +kernel)
    (by first | exact .inl (by decide +kernel) | exact .inr (by decide +kernel)) ba_sub
theorem ba_called : TypeCalled "bytearray" "bytearray.__new__" "bytearray.__init__" :=
  ⟨by decide +kernel, by decide +kernel, ⟨_, _, ba_mro⟩, ba_made, by decide +kernel, ba_sub, ba_init⟩
theorem ba_typeCall (a : Value) : checkTypeCall "bytearray" ⟨[a], []⟩ = pure () := by kernel_rfl
theorem ba_newCall (a : Value) : checkBuiltinCall "bytearray.__new__" ⟨[.type "bytearray", a], []⟩ = pure () := by kernel_rfl
theorem ba_plain_new : plainId "bytearray.__new__" = true := by decide +kernel
theorem ba_plain_init : plainId "bytearray.__init__" = true := by decide +kernel
theorem ba_entry_new : entryFor table "bytearray.__new__" = some Builtin.«list.__new__» := entryFor_alias (id' := "list.__new__") (by kernel_rfl) (by decide +kernel) (by decide +kernel) (by kernel_rfl)
theorem ba_entry_init : entryFor table "bytearray.__init__" = some Builtin.«bytearray.__init__» := by first | exact entryFor_of_fast (by kernel_rfl) | exact entryFor_of_tree (by kernel_rfl)
theorem ba_entry_setitem : entryFor table "bytearray.__setitem__" = some Builtin.«bytearray.__setitem__» := by first | exact entryFor_of_fast (by kernel_rfl) | exact entryFor_of_tree (by kernel_rfl)
theorem ba_bind (v : Value) : Builtin.Bytes.bindOptional "bytearray.__init__" "bytearray" ["source", "encoding", "errors"] [v] [] = pure [some v, none, none] := by kernel_rfl
theorem ba_no_release : typeLookup (.type "bytearray") "__release_buffer__" = pure (some (.builtin "bytearray.__release_buffer__")) := by rw [typeLookup_type, builtinLookup_eq_fast]; kernel_rfl
theorem ba_buffer : typeLookup (.type "bytearray") "__buffer__" = pure (some (.builtin "bytearray.__buffer__")) := by rw [typeLookup_type, builtinLookup_eq_fast]; kernel_rfl
theorem ba_no_bytes : typeLookup (.type "bytearray") "__bytes__" = pure none := by rw [typeLookup_type, builtinLookup_eq_fast]; kernel_rfl
theorem ba_no_index : typeLookup (.type "bytearray") "__index__" = pure none := by rw [typeLookup_type, builtinLookup_eq_fast]; kernel_rfl
set_option maxRecDepth 1000000 in
set_option maxHeartbeats 4000000 in
theorem ba_owner : ("bytearray.__new__".splitOn ".__new__").headD "" = "bytearray" := by simp +decide [String.splitOn, String.splitOnAux]
section
variable {prog : Program} {w : World} {A : Around} {E : Value → Shared → Prop} {s : Shared}
theorem code_ba_new (a : Value) {Q₁ : Value → Shared → Prop}
    (h : Q₁ (.ref s.heap.objs.size) { s with heap := s.heap.push (baObj #[]) }) :
    codeAny (model prog w) A (.call (.builtin "bytearray.__new__") ⟨[.type "bytearray", a], []⟩) (wants Q₁ E) s := by
  refine codeAny_of_tree ?_
  show wpAny _ A.in1 (do checkBuiltinCall "bytearray.__new__" ⟨[.type "bytearray", a], []⟩; again (.builtin "bytearray.__new__" ⟨[.type "bytearray", a], []⟩)) _ _ s
  refine wpAny_bind (wpAny_of_eq (ba_newCall a) (wpAny_pure ⟨plainId_quiet ba_plain_new _, codeAny_builtin_stack ba_entry_new rfl fun p st => ?_⟩))
  rw [Around.under_plainId ba_plain_new _]
  have hsub := ba_sub
  have hown := ba_owner
  refine cps fun G9 r9 => ?_
  obtain ⟨hp, g, d, tk, os⟩ := s
  refine r9 ?_
  clear r9 G9
  simp only [hown]
  wp_walk
  exact h
end
theorem off_BB : True := by
  w_top off
  trivial
section
variable {prog : Program} {w : World} {A : Around} {E : Value → Shared → Prop} {s : Shared} {R : Result → Shared → Prop}
theorem codeN_builtin {id : String} {args : Args} {b : Builtin} (hb : entryFor table id = some b) (hd : isDec (.builtin id args) = false)
    (h : wpN (model prog w) (A.under (.builtin id args)) (b args) (fun fin s' => match fin with | .done f => R (.ok f) s' | .again c' => c'.quiet = true ∧ codeN (model prog w) A c' R s') (fun e s' => R (.error e) s') s) :
    codeN (model prog w) A (.builtin id args) R s := by
  refine codeN_of_tree hd ?_
  show wpN _ _ (match entryFor table id with | some b => b args | none => unsupported ((withoutEnding? id "#data").getD id)) _ _ s
  rw [hb]; exact h
theorem ba_own {a : Addr} {b : Array UInt8} {name id : String} {Q : Bool → Shared → Prop} (ha : s.heap.get? a = some (baObj b)) (hl : typeLookup (.type "bytearray") (name : Str) = pure (some (.builtin id))) (h1 : id.endsWith ("." ++ name) = true) (h2 : id.dropRight (name.length + 1) = "bytearray")
    (h : Q true s) : wpAny (model prog w) A (Builtin.Bytes.slotIsOwn (.ref a) name) Q E s := by
  have hT : s.TypeIs (.ref a) "bytearray" := ⟨_, ha, rfl⟩
  unfold Builtin.Bytes.slotIsOwn
  refine wpAny_bind (wpAny_specialOf hT hl ?_)
  dsimp only
  rw [h1, h2]
  refine bm_if_false rfl ?_
  exact wpAny_isInstance hT ba_sub h
theorem ba_release {a : Addr} {b : Array UInt8} {Q : Bool → Shared → Prop} (ha : s.heap.get? a = some (baObj b)) (h : Q false s) : wpAny (model prog w) A (Builtin.Bytes.ownRelease (.ref a)) Q E s := by
  unfold Builtin.Bytes.ownRelease
  exact wpAny_bind (ba_own (name := "__release_buffer__") ha ba_no_release (by decide +kernel) (by decide +kernel) (wpAny_pure h))
theorem ba_write {a : Addr} {b : Array UInt8} {f : Array UInt8 → Array UInt8} {Q : Unit → Shared → Prop} (ha : s.heap.get? a = some (baObj b)) (hz : (f b).size ≤ sizeLine) (h : Q () { s with heap := s.heap.update a (Obj.mapBytearray f) }) :
    wpAny (model prog w) A (Builtin.Bytes.write (.ref a) f) Q E s := by
  show wpAny _ _ (updateBytearray a f) _ _ _
  unfold updateBytearray
  refine wpAny_bind (wpAny_load ha ?_)
  show wpAny _ _ (update a (Obj.mapBytearray f) >>= fun _ => lookBehind a) _ _ _
  refine wpAny_bind (wpAny_update ha ?_)
  have hS : (s.heap.update a (Obj.mapBytearray f)).get? a = some (baObj (f b)) := Heap.get?_update_self (Obj.mapBytearray f) ha rfl
  refine wpAny_lookBehind hS ?_ h
  show (if (f b).size > sizeLine then some "bytearray:memory" else none) = none
  rw [if_neg]; omega
theorem ba_payload {a : Addr} {b : Array UInt8} {Q : Array UInt8 → Shared → Prop} (ha : s.heap.get? a = some (baObj b)) (h : Q b s) : wpAny (model prog w) A (Builtin.Bytes.payload (.ref a)) Q E s := by
  unfold Builtin.Bytes.payload Builtin.Bytes.payload?
  exact wpAny_bind (wpAny_bind (wpAny_load ha (wpAny_pure (wpAny_pure h))))
theorem n_if_false {α : Type} {M : Model} {c : Bool} {a b : Sem α} {Q : α → Shared → Prop} (hc : c = false) (h : wpN M A b Q E s) : wpN M A (if c = true then a else b) Q E s := by
  subst hc
  exact h
theorem n_if_true {α : Type} {M : Model} {c : Bool} {a b : Sem α} {Q : α → Shared → Prop} (hc : c = true) (h : wpN M A a Q E s) : wpN M A (if c = true then a else b) Q E s := by
  subst hc
  exact h
theorem code_ba_init {a : Addr} {b : Array UInt8} {n : Int} {t : Tok} {Q₁ : Value → Shared → Prop} (hg : A.guards = some []) (ha : s.heap.get? a = some (baObj b)) (h0 : 0 ≤ n) (h1 : n ≤ 1000)
    (h : ∀ h', (∀ b o, b ≠ a → s.heap.get? b = some o → h'.get? b = some o) → h'.get? a = some (baObj (Array.replicate n.toNat 0)) → Q₁ .none { s with heap := h' }) :
    codeN (model prog w) A (.call (.builtin "bytearray.__init__") ⟨[.ref a, .int n t], []⟩) (wants Q₁ E) s := by
  refine codeN_of_tree rfl ?_
  have hT : s.TypeIs (.ref a) "bytearray" := ⟨_, ha, rfl⟩
  show wpN _ A.in1 (do checkBuiltinCall "bytearray.__init__" ⟨[.ref a, .int n t], []⟩; again (.builtin "bytearray.__init__" ⟨[.ref a, .int n t], []⟩)) _ _ s
  refine wpN_step (ba_init.check _ _ _ _ _ _ _ _ hT (by kernel_rfl) (wpN_pure ⟨plainId_quiet ba_plain_init _, codeN_builtin ba_entry_init (by show Builtin.Bytes.decodersThatHold.contains "bytearray.__init__" = false; decide +kernel) ?_⟩))
  rw [Around.under_plainId ba_plain_init _]
  unfold Builtin.«bytearray.__init__»
  refine wpN_step (ba_release ha ?_)
  refine n_if_false rfl ?_
  refine wpN_step (wpAny_of_eq (ba_bind _) ?_)
  refine wpN_step (wpAny_of_eq (a := ()) rfl ?_)
  refine wpN_step (wpAny_of_eq (a := ()) rfl ?_)
  refine wpN_bind ?_
  refine wpN_bind (m := Builtin.Bytes.exported (.ref a)) (wpN_exported hg ?_)
  refine wpN_any ?_
  refine wpAny_bind (m := Builtin.Bytes.exportsOf (.ref a)) ?_
  unfold Builtin.Bytes.exportsOf
  refine wpAny_bind (wpAny_load ha ?_)
  refine wpAny_pure (wpAny_pure ?_)
  refine n_if_false rfl ?_
  refine wpN_step (ba_write ha (Nat.zero_le _) ?_)
  have ha₁ : (s.heap.update a (Obj.mapBytearray fun _ => #[])).get? a = some (baObj #[]) := Heap.get?_update_self (Obj.mapBytearray fun _ => #[]) ha rfl
  refine wpN_any ?_
  show wpAny _ _ (asStr? (.int n t) >>= _) _ _ _
  refine wpAny_bind (wpAny_of_eq (a := none) rfl ?_)
  refine bm_if_false rfl ?_
  refine wpAny_bind (wpAny_of_eq (a := ()) rfl ?_)
  refine wpAny_bind (wpAny_specialOf (T := "int") (typeIs_int _ _ _) F.slot_int_index.lookup ?_)
  refine bm_if_true rfl ?_
  refine wpAny_bind (wpAny_attempt (wpAny_of_eq (rfl : asIndex (.int n t) = pure n) ?_))
  dsimp only
  refine bm_if_false (by simp only [Builtin.Bytes.fitsIndex, Bool.not_eq_false', Bool.and_eq_true, decide_eq_true_eq]; omega) ?_
  refine wpAny_ite (KBy.ite_no (by omega) ?_)
  refine bm_if_false (by simp only [beq_eq_false_iff_ne]; omega) ?_
  refine bm_if_false (by simp only [Builtin.Bytes.tooLong, sizeLine_eq, decide_eq_false_iff_not]; omega) ?_
  refine wpAny_bind (wpAny_rule ?_)
  refine wpAny_ite ?_
  split
  · refine wpAny_bind (ba_write ha₁ (by rw [Array.size_replicate, sizeLine_eq]; omega) ?_)
    refine wpAny_pure (h _ (fun b o hb e => ?_) ?_)
    · exact (Heap.get?_update_other _ _ (Ne.symm hb)).trans ((Heap.get?_update_other _ _ (Ne.symm hb)).trans e)
    · exact Heap.get?_update_self (Obj.mapBytearray fun _ => Array.replicate n.toNat 0) ha₁ rfl
  · obtain rfl : n = 0 := by omega
    refine wpAny_pure (h _ (fun b o hb e => ?_) ?_)
    · exact (Heap.get?_update_other _ _ (Ne.symm hb)).trans e
    · exact ha₁
theorem n_bytearray {n : Int} {t : Tok} {Q : Value → Shared → Prop} (hg : A.guards = some []) (h0 : 0 ≤ n) (h1 : n ≤ 1000)
    (h : ∀ h', Keeps [] s.heap h' → h'.get? s.heap.objs.size = some (baObj (Array.replicate n.toNat 0)) → Q (.ref s.heap.objs.size) { s with heap := h' }) :
    wpN (model prog w) A (call (.type "bytearray") [.int n t]) Q E s := by
  refine wpN_call (codeN_of_tree rfl ?_)
  show wpN _ _ (callAny (.type "bytearray") _) _ _ _
  refine wpN_pure ⟨Code.quiet_builtin _ (by decide +kernel), codeN_builtin F.entry_type_call (by show Builtin.Bytes.decodersThatHold.contains "type.__call__" = false; decide +kernel) ?_⟩
  rw [Around.under_plain (weight_type_call_type "bytearray" [.int n t] []) rfl]
  unfold Builtin.«type.__call__»
  refine n_if_false rfl ?_
  refine n_if_false ba_called.canCreate ?_
  refine wpN_step (wpAny_of_eq (ba_typeCall _) ?_)
  refine wpN_step (wpAny_of_eq ba_mro ?_)
  refine n_if_false rfl ?_
  refine wpN_step (wpAny_of_eq ba_made ?_)
  refine wpN_step (m := pure _) (wpAny_pure ?_)
  refine wpN_step (wpAny_holding (wpAny_call (code_ba_new _ ?_)))
  have ha : (s.heap.push (baObj #[])).get? s.heap.objs.size = some (baObj #[]) := Heap.get?_push_size _ rfl
  refine wpN_step (wpAny_isInstance (T := "bytearray") ⟨_, ha, rfl⟩ ba_sub ?_)
  refine n_if_false rfl ?_
  refine wpN_bind (wpN_holding ?_)
  unfold callSpecial?
  refine wpN_step (wpAny_specialOf (T := "bytearray") ⟨_, ha, rfl⟩ ba_init.lookup ?_)
  refine wpN_holding ?_
  refine wpN_step (wpAny_of_eq (ba_init.bind _) ?_)
  refine wpN_bind (wpN_call (code_ba_init hg ha h0 h1 fun h' hk hh => ?_))
  refine wpN_pure ?_
  refine n_if_false rfl ?_
  refine wpN_pure (h h' (fun b o e _ => hk b o (Nat.ne_of_lt (Heap.lt_size e)) (Heap.get?_push_of_some _ e)) hh)
end
theorem off_BC : True := by
  w_top off
  trivial
theorem ba_args_setitem (x y z : Value) : argsOk "bytearray.__setitem__" ⟨[x, y, z], []⟩ := by kernel_rfl
section
variable {prog : Program} {w : World} {A : Around} {E : Value → Shared → Prop} {s : Shared} {R : Result → Shared → Prop}
theorem ba_setItem {a : Addr} {b : Array UInt8} {k v : Int} {t u : Tok} {Q : Unit → Shared → Prop} (ha : s.heap.get? a = some (baObj b)) (h0 : 0 ≤ k) (hn : k < b.size) (hb : b.size ≤ 1000) (v0 : 0 ≤ v) (v1 : v < 256)
    (hQ : Q () { s with heap := s.heap.update a (Obj.mapBytearray (·.setIfInBounds k.toNat v.toNat.toUInt8)) }) : wpAny (model prog w) A (setItem (.ref a) (.int k t) (.int v u)) Q E s := by
  have hT : s.TypeIs (.ref a) "bytearray" := ⟨_, ha, rfl⟩
  unfold setItem
  try with_reducible refine wpAny_holding ?_
  first | refine wpAny_bind (wpAny_pure ?_) | skip
  refine wpAny_bind (wpAny_sequenceKey hT (by decide) ?_)
  refine wpAny_bind (wpAny_callSpecial?_slot (name := Str.ofString "__setitem__") hT ba_setitem
    (wpAny_call_entry ba_setitem hT ba_entry_setitem ?_ (ba_args_setitem _ _ _)))
  unfold Builtin.«bytearray.__setitem__»
  refine bm_if_false rfl ?_
  show wpAny _ _ (Builtin.Bytes.subscript? (.int k t) >>= _) _ _ s
  refine wpAny_bind ?_
  unfold Builtin.Bytes.subscript?
  refine wpAny_bind (wpAny_specialOf (T := "int") (typeIs_int _ _ _) F.slot_int_index.lookup ?_)
  refine bm_if_false rfl ?_
  refine wpAny_bind (wpAny_of_eq (rfl : asIndex (.int k t) = pure k) ?_)
  refine bm_if_false (by simp only [Builtin.Bytes.fitsIndex, Bool.not_eq_false', Bool.and_eq_true, decide_eq_true_eq]; omega) ?_
  refine wpAny_pure ?_
  try dsimp only
  refine wpAny_bind ?_
  unfold Builtin.Bytes.byteValue
  refine wpAny_bind (wpAny_of_eq (rfl : asIndex (.int v u) = pure v) ?_)
  refine bm_if_false (by simp only [Bool.or_eq_false_iff, decide_eq_false_iff_not]; omega) ?_
  refine wpAny_pure ?_
  refine wpAny_bind (ba_payload ha ?_)
  have e : seqIndex? k b.size = some k.toNat := by
    have h2 : ¬ k < 0 := by omega
    have h3 : k.toNat < b.size := by omega
    simp [seqIndex?, h0, h2, hn]
  rw [e]
  refine wpAny_bind (ba_write ha (by rw [Array.size_setIfInBounds, sizeLine_eq]; omega) ?_)
  first
    | exact wpAny_bind (wpAny_pure (wpAny_pure ⟨.none, rfl, wpAny_pure hQ⟩))
    | exact wpAny_pure ⟨.none, rfl, wpAny_pure hQ⟩
theorem ba_bytes_new {a : Addr} {b : Array UInt8} {Q : Value → Shared → Prop} (ha : s.heap.get? a = some (baObj b)) (hb : b.size ≤ 1000)
    (hQ : ∀ t k, Q (.bytes b t) { s with toks := k }) :
    codeAny (model prog w) A (.call (.builtin "bytes.__new__") ⟨[.type "bytes", .ref a], []⟩) (wants Q E) s := by
  refine codeAny_of_tree ?_
  have hT : s.TypeIs (.ref a) "bytearray" := ⟨_, ha, rfl⟩
  show wpAny _ A.in1 (do checkBuiltinCall "bytes.__new__" ⟨[.type "bytes", .ref a], []⟩; again (.builtin "bytes.__new__" ⟨[.type "bytes", .ref a], []⟩)) _ _ s
  refine wpAny_bind (wpAny_of_eq (F.bm_newCall _) (wpAny_pure ⟨plainId_quiet F.bm_plain _, codeAny_builtin F.bm_entry ?_⟩))
  rw [Around.under_plainId F.bm_plain _]
  unfold Builtin.«bytes.__new__»
  refine wpAny_bind (wpAny_of_eq (a := true) rfl ?_)
  refine bm_if_false rfl ?_
  refine wpAny_bind (wpAny_of_eq F.bm_sub ?_)
  refine bm_if_false rfl ?_
  refine wpAny_bind (wpAny_of_eq (F.bm_bind _) ?_)
  refine wpAny_bind (wpAny_of_eq (a := ()) rfl ?_)
  refine wpAny_bind (wpAny_of_eq (a := ()) rfl ?_)
  refine bm_if_false rfl ?_
  refine wpAny_bind (wpAny_specialOf hT ba_no_bytes ?_)
  refine wpAny_bind (wpAny_bind ?_)
  show wpAny _ _ (load a >>= _) _ _ _
  refine wpAny_bind (wpAny_load ha ?_)
  refine wpAny_pure (wpAny_pure ?_)
  refine bm_if_false rfl ?_
  refine wpAny_bind (wpAny_specialOf hT ba_no_index ?_)
  refine bm_if_true rfl ?_
  first
    | show wpAny _ _ (Builtin.Bytes.buffer? "bytes.__new__" (.ref a) true >>= _) _ _ _
    | (refine wpAny_bind ?_; show wpAny _ _ (Builtin.Bytes.buffer? "bytes.__new__" (.ref a) true >>= _) _ _ _)
  refine wpAny_bind ?_
  unfold Builtin.Bytes.buffer?
  refine wpAny_bind (wpAny_specialOf hT ba_buffer ?_)
  try dsimp only
  refine wpAny_bind (ba_own (name := "__buffer__") ha ba_buffer (by decide +kernel) (by decide +kernel) ?_)
  refine bm_if_false rfl ?_
  refine wpAny_bind (wpAny_specialOf hT ba_buffer ?_)
  try dsimp only
  refine wpAny_bind (ba_release ha ?_)
  refine bm_if_false rfl ?_
  refine wpAny_bind (ba_payload ha ?_)
  refine wpAny_pure ?_
  try dsimp only
  refine wpAny_bind (wpAny_rule ?_)
  refine wpAny_bind (wpAny_mkBytes ?_ (by rw [sizeLine_eq]; omega))
  first
    | exact wpAny_pure (hQ _ _)
    | exact wpAny_bind (wpAny_pure (wpAny_pure (hQ _ _)))
    | (refine bm_if_true (by decide) ?_; first | exact wpAny_pure (hQ _ _) | exact wpAny_bind (wpAny_pure (wpAny_pure (hQ _ _))))
    | (show wpAny _ _ (if (Value.type "bytes" == Value.type "bytes") = true then _ else _) _ _ _; refine bm_if_true (by decide) ?_; first | exact wpAny_pure (hQ _ _) | exact wpAny_pure (wpAny_pure (hQ _ _)) | exact wpAny_bind (wpAny_pure (wpAny_pure (hQ _ _))))
theorem ba_bytes {a : Addr} {b : Array UInt8} {Q : Value → Shared → Prop} (ha : s.heap.get? a = some (baObj b)) (hb : b.size ≤ 1000) (hQ : ∀ t k, Q (.bytes b t) { s with toks := k }) : wpAny (model prog w) A (call (.type "bytes") [.ref a]) Q E s := by
  refine callType_codes (Q₁ := fun obj s₁ => s₁.TypeIs obj "bytes" ∧ Q obj s₁) F.bm_called (F.bm_typeCall _) F.entry_object_init
    (ba_bytes_new ha hb fun t k => ⟨PySem.W.typeIs_bytes _ _ _, hQ t k⟩) fun obj s₁ h₁ => ?_
  exact ⟨h₁.1, F.args_object_init_2 obj _, object_init_meets F.bm_called.init.lookup F.bm_called.made (by decide) prog w A.in1 _ s₁ ⟨h₁.1, rfl, h₁.2⟩⟩
end
theorem off_NS : True := by
  w_top off
  trivial
section
variable {M : Model} {A : Around} {E : Value → Shared → Prop} {s : Shared} {env : Env}
theorem n_execs_nil {Q : Flow → Shared → Prop} (h : Q .next s) : wpN M A (execs [] env) Q E s := fun _ _ _ _ _ => h
theorem n_execs_cons {st rest} {Q : Flow → Shared → Prop} (h : wpN M A (exec st env) (fun f s' => match f with | .next => wpN M A (execs rest env) Q E s' | f => Q f s') E s) : wpN M A (execs (st :: rest) env) Q E s := by
  rw [arm_execs_cons]
  refine wpN_bind (wpN_mono h (fun f s' h' => ?_) fun _ _ x => x)
  cases f <;> first | exact h' | exact wpN_pure h'
theorem n_execs_let {st rest} {Q : Flow → Shared → Prop} (h : let Q' := Q; let E' := E; wpN M A (exec st env) (fun f s' => match f with | .next => wpN M A (execs rest env) Q' E' s' | f => Q' f s') E' s) : wpN M A (execs (st :: rest) env) Q E s := n_execs_cons h
theorem n_let {α : Type} {t : Sem α} {Q : α → Shared → Prop} (h : let Q' := Q; let E' := E; wpN M A t Q' E' s) : wpN M A t Q E s := h
theorem n_Return {e pos} {Q : Flow → Shared → Prop} (h : wpN M A (eval e env) (fun v => Q (.ret v)) E s) : wpN M A (exec (.Return (some e) pos) env) Q E s := by
  rw [arm_exec_Return]
  refine wpN_bind (wpN_standAt ?_)
  show wpN M A (eval e env >>= fun v => pure (.ret v)) Q E s
  exact wpN_bind (wpN_mono h (fun v s' h' => wpN_pure h') fun _ _ x => x)
theorem n_Assign {x pos' value pos} {Q : Flow → Shared → Prop}
    (h : wpN M A (eval value env) (fun v s₁ => wpAny M A (storeName env x v) (fun _ => Q .next) E s₁) E s)
    (hs : swapsWith value (some (.Name x pos')) pos.line env = pure false := by rfl) : wpN M A (exec (.Assign [.Name x pos'] value pos) env) Q E s := by
  rw [exec_Assign_Name env x pos' value pos hs]
  refine wpN_bind (wpN_standAt ?_)
  refine wpN_bind (wpN_mono h (fun v s₁ h₁ => ?_) fun _ _ x => x)
  refine wpN_any fun Γ p hΓ => ?_
  simp only [Sem.wp_bind', Sem.wp_cmd_standAt, Sem.wp_bindName, Sem.wp_pure']
  exact h₁ Γ _ hΓ
theorem n_If {test body orelse pos} {Q : Flow → Shared → Prop}
    (h : wpN M A (isTrue test env (eval test env)) (fun b s₂ => if b then wpN M A (execs body env) Q E s₂ else wpN M A (execs orelse env) Q E s₂) E s) :
    wpN M A (exec (.If test body orelse pos) env) Q E s := by
  rw [arm_exec_If]
  refine wpN_bind (wpN_standAt (wpN_bind (wpN_mono h (fun b s₂ h₂ => ?_) fun _ _ x => x)))
  cases b <;> exact h₂
theorem n_BinOp {l op r pos} {Q : Value → Shared → Prop} (h : wpN M A (eval l env) (fun a s₁ => wpN M A (eval r env) (fun b s₂ => wpAny M A (binaryOp op a b) Q E s₂) E s₁) E s) :
    wpN M A (eval (.BinOp l op r pos) env) Q E s := by
  rw [arm_eval_BinOp]
  refine wpN_bind (wpN_mono h (fun a s₁ h₁ => wpN_bind (wpN_holding (wpN_mono h₁ (fun b s₂ h₂ => wpN_bind (wpN_standAt (wpN_any (wpAny_operateT h₂)))) fun _ _ x => x))) fun _ _ x => x)
theorem n_Compare {l op r pos} {Q : Value → Shared → Prop} (h : wpN M A (eval l env) (fun a s₁ => wpN M A (eval r env) (fun b s₂ => wpAny M A (compareOp op a b) Q E s₂) E s₁) E s)
    (hm : behindInMarks op r = false := by with_unfolding_all rfl) : wpN M A (eval (.Compare l [op] [r] pos) env) Q E s := by
  rw [eval_Compare1, markedBehindIn_of_false hm]
  refine wpN_bind (wpN_mono h (fun a s₁ h₁ => wpN_bind (wpN_holding (wpN_mono h₁ (fun b s₂ h₂ => wpN_bind (wpN_standAt (wpN_any (wpAny_operateT h₂)))) fun _ _ x => x))) fun _ _ x => x)
theorem n_isTrue {e : Expr} {whole : Sem Value} {Q : Bool → Shared → Prop} (h : wpN M A whole (fun v s₁ => wpAny M A (truthy v) Q E s₁) E s)
    (he : isTrue e env whole = (do let v ← whole; standAt e.pos; holding [v] (truthy v)) := by rfl) : wpN M A (isTrue e env whole) Q E s := by
  rw [he]
  exact wpN_bind (wpN_mono h (fun v s₁ h₁ => wpN_bind (wpN_standAt (wpN_holding (wpN_any h₁)))) fun _ _ x => x)
theorem n_isTrue_not {x pos whole} {Q : Bool → Shared → Prop} (h : wpN M A (isTrue x env (eval x env)) (fun c s' => Q (!c) s') E s) : wpN M A (isTrue (.UnaryOp .Not x pos) env whole) Q E s := by
  show wpN M A (do return !(← isTrue x env (eval x env))) Q E s
  exact wpN_bind (wpN_mono h (fun c s' h' => wpN_pure h') fun _ _ x => x)
theorem n_isTrue_or_nil {pos whole} {Q : Bool → Shared → Prop} (h : Q false s) : wpN M A (isTrue (.BoolOp .Or [] pos) env whole) Q E s := wpN_pure (a := false) h
theorem n_isTrue_or {x rest pos whole} {Q : Bool → Shared → Prop}
    (h : wpN M A (isTrue x env (eval x env)) (fun c s' => if c then Q true s' else wpN M A (isTrue (.BoolOp .Or rest pos) env whole) Q E s') E s) :
    wpN M A (isTrue (.BoolOp .Or (x :: rest) pos) env whole) Q E s := by
  show wpN M A (do
    match BoolOp.Or, ← isTrue x env (eval x env) with
    | .And, false => pure false
    | .Or, true => pure true
    | _, _ => allTrue .Or rest env) Q E s
  refine wpN_bind (wpN_mono h (fun c s' h' => ?_) fun _ _ x => x)
  cases c
  · exact h'
  · exact wpN_pure h'
/-- left and right -/
theorem n_And2 {x y pos} {Q : Value → Shared → Prop}
    (h : wpN M A (eval x env) (fun v s₁ => wpAny M A (truthy v) (fun b s₂ => if b then wpN M A (eval y env) Q E s₂ else Q v s₂) E s₁) E s) :
    wpN M A (eval (.BoolOp .And [x, y] pos) env) Q E s := by
  show wpN M A (do
    let v ← eval x env
    standAt pos
    let t ← holding [v] (truthy v)
    match BoolOp.And, t with
    | .And, false | .Or, true => pure v
    | _, _ => eval y env) Q E s
  refine wpN_bind (wpN_mono h (fun v s₁ h₁ => wpN_bind (wpN_standAt (wpN_bind (wpN_holding (wpN_any (wpAny_mono h₁ (fun b s₂ h₂ => ?_) fun _ _ x => x)))))) fun _ _ x => x)
  cases b
  · exact wpN_pure h₂
  · exact h₂
theorem n_Call_Name {id : Str} {p pos : Pos} {args : List Expr} {Q : Value → Shared → Prop}
    (h : wpAny M A (eval (.Name id p) env) (fun f s₁ => wpN M A (callWith pos f [] (backTo pos (starEach args env)) []) Q E s₁) E s) :
    wpN M A (eval (.Call (.Name id p) args [] pos) env) Q E s := by
  rw [arm_eval_Call_Name']
  exact wpN_step h
theorem n_spliced_nil {Q : List Value → Shared → Prop} (h : Q [] s) : wpN M A (spliced []) Q E s := wpN_pure h
theorem n_spliced_cons {x : Sem Value} {rest : List (Bool × Sem Value)} {Q : List Value → Shared → Prop}
    (h : wpN M A x (fun v s₁ => wpN M A (spliced rest) (fun vs s₂ => Q (v :: vs) s₂) E s₁) E s) : wpN M A (spliced ((false, x) :: rest)) Q E s := by
  rw [spliced]
  refine wpN_bind (wpN_mono h (fun v s₁ h₁ => ?_) fun _ _ x => x)
  simp only [Bool.false_eq_true, if_false]
  exact wpN_bind (wpN_pure (wpN_bind (wpN_holding (wpN_mono h₁ (fun vs s₂ h₂ => wpN_pure h₂) fun _ _ x => x))))
theorem n_args_nil {pos : Pos} {Q : List Value → Shared → Prop} (h : Q [] s) : wpN M A (spliced (backTo pos (starEach [] env))) Q E s := wpN_pure h
theorem n_args_cons {pos : Pos} {e : Expr} {rest : List Expr} {Q : List Value → Shared → Prop}
    (h : wpN M A (eval e env) (fun v s₁ => wpN M A (spliced (backTo pos (starEach rest env))) (fun vs s₂ => Q (v :: vs) s₂) E s₁) E s)
    (he : starEach (e :: rest) env = (false, eval e env) :: starEach rest env := by rfl) : wpN M A (spliced (backTo pos (starEach (e :: rest) env))) Q E s := by
  rw [he]
  exact n_spliced_cons h
theorem n_evalArgs {f : Value} {x : Sem Value} {rest : List (Bool × Sem Value)} {Q : Args → Shared → Prop}
    (h : wpN M A (spliced ((false, x) :: rest)) (fun vs s' => Q ⟨vs, []⟩ s') E s) : wpN M A (evalArgs f true ((false, x) :: rest) []) Q E s := by
  unfold evalArgs
  show wpN M A (spliced ((false, x) :: rest) >>= _) Q E s
  refine wpN_bind (wpN_mono h (fun vs s' h' => ?_) fun _ _ x => x)
  refine wpN_holding ?_
  exact wpN_bind (wpN_pure (wpN_bind (wpN_pure (wpN_pure h'))))
theorem n_evalArgs0 {f : Value} {Q : Args → Shared → Prop} (h : Q ⟨[], []⟩ s) : wpN M A (evalArgs f true [] []) Q E s := by
  unfold evalArgs
  show wpN M A (spliced [] >>= _) Q E s
  refine wpN_bind (n_spliced_nil (wpN_bind (wpN_pure ?_)))
  refine wpN_holding ?_
  exact wpN_bind (wpN_pure (wpN_bind (wpN_pure (wpN_pure h))))
theorem n_callWith {pos : Pos} {f : Value} {first : List Value} {Q : Value → Shared → Prop} {P : Heap → Prop} {args : List (Bool × Sem Value)} (hplain : (args.any (·.1) || ([] : List (Option Str × Sem Value)).any (·.1.isNone)) = false)
    (hk : ∀ h, P h → ∃ k, (k = Keeper.frame ∨ k = Keeper.machine ∨ k = Keeper.boundFrame) ∧ Looks M h (keeperOf f) k)
    (h : wpN M A (evalArgs f true args []) (fun a s₁ => P s₁.heap ∧ wpN M A (call f (first ++ a.pos) a.kw) Q E s₁) E s) : wpN M A (callWith pos f first args []) Q E s := by
  unfold callWith
  refine wpN_bind (wpN_holding (wpN_mono h (fun a s₁ h₁ => wpN_bind (wpN_standAt ?_)) fun _ _ x => x))
  obtain ⟨k, hk', L⟩ := hk _ h₁.1
  simp only [hplain]
  refine wpN_step (L.here ?_)
  have tail : ∀ {t : Sem Value}, wpN M A t Q E s₁ → wpN M A (t >>= fun r => holding [r] point >>= fun _ => pure r) Q E s₁ :=
    fun ht => wpN_bind (wpN_mono ht (fun r s₂ hr => wpN_step (wpAny_holding (wpAny_point (wpN_pure hr)))) fun _ _ x => x)
  have marked (mk : Value) : wpN M A (callMarked mk f (first ++ a.pos) a.kw) Q E s₁ := by unfold callMarked; exact wpN_keep h₁.2
  rcases hk' with rfl | rfl | rfl <;> dsimp only <;> first | exact tail h₁.2 | (split <;> first | exact tail h₁.2 | exact tail (marked _))
theorem n_callWith_K {K : Frag} {h₀ : Heap} {pos : Pos} {f : Value} {first : List Value} {Q : Value → Shared → Prop} {e : Expr} {rest : List Expr} (_X : K.In h₀) (hk : keepIn K f = true)
    (h : wpN M A (spliced (backTo pos (starEach (e :: rest) env))) (fun vs s₁ => K.In s₁.heap ∧ wpN M A (call f (first ++ vs)) Q E s₁) E s)
    (he : starEach (e :: rest) env = (false, eval e env) :: starEach rest env := by rfl) (hplain : (backTo pos (starEach rest env)).any (·.1) = false := by rfl) :
    wpN M A (callWith pos f first (backTo pos (starEach (e :: rest) env)) []) Q E s := by
  rw [he] at h ⊢
  exact n_callWith (by show ((false || (backTo pos (starEach rest env)).any (·.1)) || false) = false; rw [hplain]; rfl) (keeps_K hk) (n_evalArgs h)
theorem n_callWith_type {pos : Pos} {T : String} {first : List Value} {Q : Value → Shared → Prop} {e : Expr} {rest : List Expr}
    (h : wpN M A (spliced (backTo pos (starEach (e :: rest) env))) (fun vs s₁ => wpN M A (call (.type T) (first ++ vs)) Q E s₁) E s)
    (he : starEach (e :: rest) env = (false, eval e env) :: starEach rest env := by rfl) (hplain : (backTo pos (starEach rest env)).any (·.1) = false := by rfl) :
    wpN M A (callWith pos (.type T) first (backTo pos (starEach (e :: rest) env)) []) Q E s := by
  rw [he] at h ⊢
  exact n_callWith (P := fun _ => True) (by show ((false || (backTo pos (starEach rest env)).any (·.1)) || false) = false; rw [hplain]; rfl) (fun h _ => ⟨.machine, .inr (.inl rfl), Looks.of_pure rfl⟩) (n_evalArgs (wpN_mono h (fun _ _ x => ⟨trivial, x⟩) fun _ _ x => x))
theorem n_Subscript {value slice pos} {Q : Value → Shared → Prop}
    (h : wpN M A (eval value env) (fun o s₁ => wpAny M A (eval slice env) (fun i s₂ => wpAny M A (subscriptTail value slice o i) Q E s₂) E s₁) E s) : wpN M A (eval (.Subscript value slice pos) env) Q E s := by
  rw [eval_Subscript]
  exact wpN_bind (wpN_mono h (fun o s₁ h₁ => wpN_any (wpAny_bind (wpAny_holding (wpAny_mono h₁ (fun i s₂ h₂ => wpAny_bind (wpAny_standAt h₂)) fun _ _ x => x)))) fun _ _ x => x)
end
section
variable {prog : Program} {w : World} {A : Around} {E : Value → Shared → Prop} {s : Shared} {R : Result → Shared → Prop}
theorem codeN_func {body env}
    (h : wpN (model prog w) (A.deeper env) (execs body env) (fun f s' => R (.ok (.ret (match f with | .ret v => v | _ => .none))) s')
      (fun e s' => wpAny (model prog w) (A.deeper env) (leaving env e) (fun _ s'' => R (.error e) s'') (fun e' s'' => R (.error e') s'') s') s) :
    codeN (model prog w) A (.func body env) R s := by
  refine codeN_of_tree rfl ?_
  show wpN _ (A.deeper env) (do point; match ← (execs body env).onRaise (leaving env) with | .ret v => ret v | _ => ret .none) _ _ s
  refine wpN_step (wpAny_point (wpN_bind ?_))
  have key : ∀ {t : Sem Flow} {k : Value → Sem Unit} {Q : Flow → Shared → Prop} {E' : Value → Shared → Prop} {s : Shared}, wpN (model prog w) (A.deeper env) t Q (fun e s' => wpAny (model prog w) (A.deeper env) (k e) (fun _ s'' => E' e s'') (fun e' s'' => E' e' s'') s') s → wpN (model prog w) (A.deeper env) (t.onRaise k) Q E' s := fun {t k Q E' s} h => fun Γ p h1 h2 h3 => by
    rw [Sem.wp_onRaise]
    exact Sem.wp_mono _ Γ t (fun _ _ _ h' => h') (fun e p' s' h' => h' Γ p' h1) p s (h Γ p h1 h2 h3)
  refine key (wpN_mono h (fun f s' h' => ?_) fun _ _ h' => h')
  cases f <;> exact wpN_pure h'
theorem codeN_call_function {a : Addr} {args : Args} {o : Obj} {fd : FuncData} {body : List Stmt} (hroom : A.depth < recursionLimit) (ho : s.heap.get? a = some o)
    (hd' : o.data = .func fd) (hco : fd.scope.isCoroutine = false) (hgen : fd.scope.isGenerator = false) (hbody : fd.body = .stmts body) (hcd : s.heap.CodeRec fd.code fd.qualname)
    (h : wpAny (model prog w) A.in1 (bindArgs fd args) (fun binds s₁ =>
      wpAny (model prog w) A.in1 (newFunctionEnv fd.scope fd.globals fd.closure binds (fd.qualname ++ ".<locals>.") (some a) fd.code none fd.builtins)
        (fun env s₂ => s₂.heap.NoLimit ∧ codeN (model prog w) A (.func body env) R s₂) (fun e s' => R (.error e) s') s₁) (fun e s' => R (.error e) s') s) :
    codeN (model prog w) A (.call (.ref a) args) R s := by
  refine codeN_of_tree rfl ?_
  show wpN _ A.in1 (callAny (.ref a) args) _ _ s
  simp only [callAny]
  refine wpN_step (wpAny_load ho ?_)
  refine cps fun G9 r9 => ?_
  obtain ⟨c, oc, vs, tq, hc, hoc, hdc, hq⟩ := hcd
  refine r9 ?_
  clear r9 G9
  simp only [hd', callFunction, hco, hgen, hbody, hc]
  rw [hc] at h
  refine wpN_step (m := field (.ref c) 1) (wpAny_field hoc hdc hq (wpN_bind (wpN_pure ?_)))
  exact wpN_step (wpAny_mono h (fun binds s₁ h₁ => wpN_step (wpAny_mono h₁ (fun env s₂ h₂ => wpN_step (wpAny_enterFrame h₂.1 hroom
    (wpN_pure (And.intro rfl h₂.2)))) fun _ _ h' => h')) fun _ _ h' => h')
end
section
variable {prog : Program} {w : World} {A₀ A : Around} {s : Shared} {base h₀ : Heap} {outer : List Env} {L : Addr} {m mg mb : Str → Option Value} {env : Env} {news : List (Addr × Obj)} {K : Frag} {p : Program} {loose : List Str} {mean : ExcName → Option Value}
  {R : Result → Shared → Prop} {name qual : Str} {params : Arguments} {body : List Stmt} {scope : Scope} {dV kV doc pm cdv ct oc : Value} {an od : Option Addr} {osl : Array (Option Value)} {f : Addr} {args : Args} {binds : List (Str × Value)}
/-- a def on the spine is entered -/
theorem enterN_raw (hA : A.frames = some (env :: outer) := by exact rfl) (hf : env.frame = some L := by exact rfl) (hke : env.scope.kind = .function := by assumption) (B : Below A₀ base outer h₀ := by k_asm) (F : Fr h₀ L s.heap m := by k_asm) (X₀ : K.In h₀ := by k_asm) (N : News h₀ L s.heap news := by k_asm) (T : Top p loose mean mg mb h₀ := by k_asm)
    (ho : K.lookup f = some ⟨oc, od, .func (fnOf name qual params body scope dV kV doc pm an cdv ct), osl⟩ := by k_is) (hcd : codeIn K cdv qual = true := by k_is) (hroom : A.depth < recursionLimit := by ktr_room)
    (hbind : BindsTo s (fnOf name qual params body scope dV kV doc pm an cdv ct) args binds := by exact BindsTo.of_eq rfl) (hloc : ∀ y ∈ binds, scope.names.lookup y.1 = some .local := by exact locs rfl)
    (h : ∀ g L' h₁ tk, Fr g L' h₁ (fun y => binds.reverse.lookup y) → News g L' h₁ news → Below A base (env :: outer) g → K.In g → Top p loose mean mg mb g → Keeps (news.map (·.1)) s.heap g → L' = s.heap.objs.size →
      wpN (model prog w) (A.deeper (envOf qual scope L' f cdv)) (execs body (envOf qual scope L' f cdv))
        (fun fl s' => R (.ok (.ret (match fl with | .ret v => v | _ => .none))) s')
        (fun e s' => wpAny (model prog w) (A.deeper (envOf qual scope L' f cdv)) (leaving (envOf qual scope L' f cdv) e) (fun _ s'' => R (.error e) s'') (fun e' s'' => R (.error e') s'') s')
        { s with heap := h₁, toks := tk })
    (hco : scope.isCoroutine = false := by exact rfl) (hgen : scope.isGenerator = false := by exact rfl) (hk : scope.kind = .function := by exact rfl)
    (hcell : ∀ x ∈ scope.names, x.2 ≠ .cell := by decide) : codeN (model prog w) A (.call (.ref f) args) R s := by
  obtain ⟨BG, st, kp⟩ := hide_facts B F N hA hf hke
  have X := X₀.keeps F.keep
  refine codeN_call_function (fd := fnOf name qual params body scope dV kV doc pm an cdv ct) (body := body) hroom (X _ _ ho) rfl hco hgen rfl (codeRec_of X hcd) (hbind _ _ _ _ ?_)
  refine wpAny_newFunctionEnv hcell hloc (fun h₁ hns₀ hsb₀ => ⟨(T.nolimit.keeps F.keep).fresh _ hsb₀, codeN_func ?_⟩) hk
  have hk₁ : ∀ b o, s.heap.get? b = some o → h₁.get? b = some o := fun b o e => hsb₀.extBut b o (Nat.ne_of_lt (Heap.lt_size e)) (Heap.get?_push_of_some _ e)
  exact h _ _ h₁ _ ⟨hns₀, fun b o e => hk₁ b o (of_hideAll _ e), Nat.le_of_eq (hideAll_size _ _)⟩ (fun q hq => ⟨hk₁ _ _ (N q hq).1, Nat.ne_of_lt (Heap.lt_size (N q hq).1), hideAll_none _ (List.mem_map_of_mem hq)⟩) BG (X₀.keeps st) (T.keeps st) kp rfl
end
theorem words8 : True := by
  (k_with "mine enterN" => (refine enterN_raw (h := ?_); k_whole; intro _ _ _ _ _ _ _ _ _ _ _; (try dsimp only); (refine n_letA ?_; intro envW aroundW)))
  trivial
/-- a contract on the spine -/
noncomputable def CtrN (prog : Program) (w : World) (f : Addr) (vs : List Value) (dd uu : Nat) (mt : List (Addr × Obj)) (pre : Heap → Prop) (post : Heap → Heap → Value → Prop) : Prop :=
  ∀ (dp un : Nat) (cn : Str) (cs : Scope) (a : Addr) (ccd : Value) (cl : List (Str × Addr)) (outer : List Env) (A₀ : Around) (base h₀ : Heap) (L : Addr) (m : Str → Option Value) (s : Shared)
    (p : Program) (loose : List Str) (mean : ExcName → Option Value) (mg mb : Str → Option Value) (Q E : Value → Shared → Prop),
    Below A₀ base outer h₀ → Fr h₀ L s.heap m → (hd.heap_1 w.params).In h₀ → News h₀ L s.heap mt → Top p loose mean mg mb h₀ → cs.kind = .function → dp + dd < recursionLimit → un + uu < cLine → pre s.heap →
    (∀ r h' tk', Keeps (mt.map (·.1)) s.heap h' → post s.heap h' r → Q r { s with heap := h', toks := tk' }) →
    wpN (model prog w) (ktrTop dp un (some []) cn cs L a ccd cl outer) (call (.ref f) vs) Q E s
open Lean Elab Tactic Meta in
theorem n_seqmark : True := trivial
theorem words9 : True := by
  (k_with "mine nstep" => (
  (with_reducible show wpN _ _ _ _ _ _);
  first
  | with_reducible refine n_execs_nil ?_
  | (with_reducible refine n_execs_let ?_; intro _ _)
  | with_reducible refine n_Return ?_
  | with_reducible refine n_If ?_
  | with_reducible refine n_Assign ?_ (by k_dflt rfl)
  | with_reducible refine n_BinOp ?_
  | with_reducible refine n_Compare ?_ (by with_unfolding_all rfl)
  | with_reducible refine n_isTrue_not ?_
  | with_reducible refine n_isTrue_or_nil ?_
  | with_reducible refine n_isTrue_or ?_
  | with_reducible refine n_And2 ?_
  | with_reducible refine n_Call_Name ?_
  | with_reducible refine n_Subscript ?_
  | with_reducible refine n_args_nil ?_
  | with_reducible refine n_args_cons ?_ (by k_dflt rfl)
  | with_reducible refine n_spliced_nil ?_
  | with_reducible refine n_callWith_type ?_ (by k_dflt rfl) (by k_dflt rfl)
  | (with_reducible refine n_callWith_K (by k_asm) (by k_is) ?_ (by k_dflt rfl) (by k_dflt rfl); k_whole)
  | k_extra "mine ncall"
  | with_reducible refine n_isTrue ?_ (by k_dflt rfl)
  | (with_reducible refine wpN_any ?_; (try k_fold))))
  trivial
theorem words10 : True := by
  (k_with "mine steps" => repeat' (first
  | k_extra "mine nstep"
  | (k_unfold; (try dsimp only))
  | walk1
  | (dsimp only; (first | k_extra "mine nstep" | walk1))
  | (leave1; (try dsimp only))
  | fail "no step"))
  trivial
theorem off_BY : True := by
  w_top off
  trivial
/-- a slice's octets -/
noncomputable def cut (x : List UInt8) (lo hi : Option Int) : List UInt8 := (x.drop (lo.elim 0 (clipAt x.length))).take (hi.elim x.length (clipAt x.length) - lo.elim 0 (clipAt x.length))
theorem beq_dec (l r : List UInt8) : (l == r) = decide (l = r) := by rw [Bool.eq_iff_iff]; simp
theorem cut_le (x : List UInt8) (lo hi : Option Int) : (cut x lo hi).length ≤ x.length := by
  unfold cut
  rw [List.length_take, List.length_drop]
  omega
section
variable {prog : Program} {w : World} {A : Around} {E : Value → Shared → Prop} {s : Shared} {h₀ : Heap} {L : Addr} {m : Str → Option Value} {news : List (Addr × Obj)} {l r x : List UInt8} {t u : Tok} {value slice : PySem.Expr} {Q : Value → Shared → Prop}
theorem by_add (hz : l.length + r.length ≤ 100000) (h : ∀ y t' k, y = l ++ r → y.length = l.length + r.length → Q (.bytes y.toArray t') { s with toks := k }) : wpAny (model prog w) A (binaryOp .Add (.bytes l.toArray t) (.bytes r.toArray u)) Q E s := by
  refine KBy.add_bytes (by rw [List.size_toArray, List.size_toArray]; omega) fun t' k => ?_
  rw [List.append_toArray]
  exact h _ t' k rfl (List.length_append ..)
theorem by_len (hz : x.length ≤ 100000) (h : ∀ k t', Q (.int (x.length : Int) t') { s with toks := k }) : wpAny (model prog w) A (call (.builtin "len") [.bytes x.toArray t]) Q E s :=
  len_bytes (by rw [List.size_toArray]; omega) (by rw [List.size_toArray]; exact h _ _)
theorem by_eq (h : Q (.bool (decide (l = r))) s) : wpAny (model prog w) A (compareOp .Eq (.bytes l.toArray t) (.bytes r.toArray u)) Q E s := by
  refine eq_bytes ?_
  rw [List.toList_toArray, List.toList_toArray, beq_dec]
  exact h
theorem by_ne (h : Q (.bool (!decide (l = r))) s) : wpAny (model prog w) A (compareOp .NotEq (.bytes l.toArray t) (.bytes r.toArray u)) Q E s := by
  refine ne_bytes ?_
  rw [List.toList_toArray, List.toList_toArray]
  show Q (.bool (!(l == r))) s
  rw [beq_dec]
  exact h
theorem by_item {i : Int} {ui : Tok} (hz : x.length ≤ 100000) (h0 : 0 ≤ i) (h1 : i < (x.length : Int)) (h : ∀ t' k, Q (.int (x.getD i.toNat 0).toNat t') { s with toks := k })
    (hs : subscripted slice false (.bytes x.toArray t) (.int i ui) = operate [.bytes x.toArray t, .int i ui] (getItem (.bytes x.toArray t) (.int i ui)))
    (ht : ∀ r, letTemporaryGo value (.bytes x.toArray t) r = pure ()) : wpAny (model prog w) A (subscriptTail value slice (.bytes x.toArray t) (.int i ui)) Q E s :=
  KBy.item_N (by omega) h0 h1 (h _ _) hs ht
theorem by_slice {lv uv : Value} {lo hi : Option Int} (hF : Fr h₀ L s.heap m) (hN : News h₀ L s.heap news) (hl : IsPart lv lo) (hu : IsPart uv hi) (hz : x.length ≤ 100000)
    (h : ∀ h' y t' k, Fr h₀ L h' m → News h₀ L h' news → y = cut x lo hi → y.length ≤ x.length → Q (.bytes y.toArray t') { s with heap := h', toks := k })
    (hs : subscripted slice false (.bytes x.toArray t) (.ref s.heap.objs.size) = operate [.ref s.heap.objs.size, .bytes x.toArray t] (getItem (.bytes x.toArray t) (.ref s.heap.objs.size)))
    (ht : ∀ r, letTemporaryGo value (.bytes x.toArray t) r = pure ()) :
    wpAny (model prog w) A (subscriptTail value slice (.bytes x.toArray t) (.ref s.heap.objs.size)) Q E { s with heap := s.heap.push { cls := .type "slice", data := .fields #[lv, uv, .none] } } := by
  have e : KBy.picked x.toArray lo hi = (cut x lo hi).toArray := by
    rw [KBc.picked_eq]
    unfold cut
    simp only [List.size_toArray, List.toList_toArray]
  refine tail_of_ItemOn ⟨"bytes", _, FB.slot_bytes_getitem.lookup, typeIs_bytes _ _ _, getItem_meets (typeIs_bytes _ _ _) (by decide) FB.slot_bytes_getitem FB.entry_bytes_getitem (FB.args_bytes_getitem_2 _ _) (KBc.meets_slice2 x.toArray t _ hl hu)
    ⟨Heap.IsSliceOf.new _ _ _ _, Nat.le_trans (KBc.size_picked_le _ lo hi) (by rw [List.size_toArray, sizeLine_eq]; omega), fun t' k => ?_⟩⟩ hs ht
  rw [e]
  exact h _ _ t' k (hF.push _) (News.pushKeep hN _) rfl (cut_le x lo hi)
end
theorem words11 : True := by
  (k_with "binaryOp Add bytes bytes" => ((with_reducible show wpAny _ _ (binaryOp Operator.Add (Value.bytes (List.toArray _) _) (Value.bytes (List.toArray _) _)) _ _ _); (refine by_add (by ((try simp only [List.length_cons, List.length_nil]); omega)) ?_); intro _ _ _ _ wl; (try simp only [List.length_cons, List.length_nil] at wl)))
  trivial
theorem words12 : True := by
  (k_with "call builtin:len" => ((with_reducible show wpAny _ _ (call (Value.builtin "len") [Value.bytes (List.toArray _) _]) _ _ _); (refine by_len (by ((try simp only [List.length_cons, List.length_nil]); omega)) ?_); intro _ _))
  trivial
theorem words13 : True := by
  (k_with "compareOp Eq bytes bytes" => ((with_reducible show wpAny _ _ (compareOp CmpOp.Eq (Value.bytes (List.toArray _) _) (Value.bytes (List.toArray _) _)) _ _ _); (refine by_eq ?_)))
  trivial
theorem words14 : True := by
  (k_with "compareOp NotEq bytes bytes" => ((with_reducible show wpAny _ _ (compareOp CmpOp.NotEq (Value.bytes (List.toArray _) _) (Value.bytes (List.toArray _) _)) _ _ _); (refine by_ne ?_)))
  trivial
theorem words15 : True := by
  (k_with "subscriptTail" => ((with_reducible show wpAny _ _ (subscriptTail _ _ (Value.bytes (List.toArray _) _) (Value.int _ _)) _ _ _); (refine by_item (by omega) (by omega) (by omega) ?_ (by with_unfolding_all rfl) (by intro _; with_unfolding_all rfl)); intro _ _))
  trivial
theorem words16 : True := by
  (k_with "subscriptTail" => ((with_reducible show wpAny _ _ (subscriptTail _ (Expr.Slice _ _ none _) (Value.bytes (List.toArray _) _) (Value.ref _)) _ _ _); (with_reducible rename Fr _ _ _ _ => wF); (with_reducible rename News _ _ _ _ => wN); (refine by_slice (s := ⟨_, _, _, _, _⟩) wF wN (by constructor) (by constructor) (by omega) ?_ (by with_unfolding_all rfl) (by intro _; with_unfolding_all rfl)); intro _ _ _ _ _ _ _ _))
  trivial
section
variable {prog : Program} {w : World} {f : Addr} {vs : List Value} {dd uu : Nat} {mt : List (Addr × Obj)} {pre : Heap → Prop} {post : Heap → Heap → Value → Prop}
theorem CtrN.use (C : CtrN prog w f vs dd uu mt pre post) {dp un : Nat} {cn : Str} {cs : Scope} {a : Addr} {ccd : Value} {cl : List (Str × Addr)} {outer : List Env} {A₀ : Around} {base h₀ : Heap} {L : Addr} {m : Str → Option Value} {s : Shared}
    {p : Program} {loose : List Str} {mean : ExcName → Option Value} {mg mb : Str → Option Value} {Q E : Value → Shared → Prop}
    (B : Below A₀ base outer h₀ := by k_asm) (F : Fr h₀ L s.heap m := by k_asm) (X : (hd.heap_1 w.params).In h₀ := by k_asm) (N : News h₀ L s.heap mt := by exact News.nil) (T : Top p loose mean mg mb h₀ := by k_asm) (hk : cs.kind = .function := by first | exact rfl | assumption) (hd : dp + dd < recursionLimit := by ktr_room) (hu : un + uu < cLine := by ktr_units) (hp : pre s.heap := by first | trivial | assumption)
    (ret : ∀ r h' tk', Keeps (mt.map (·.1)) s.heap h' → post s.heap h' r → Q r { s with heap := h', toks := tk' }) :
    wpN (model prog w) (ktrTop dp un (some []) cn cs L a ccd cl outer) (call (.ref f) vs) Q E s := C _ _ _ _ _ _ _ _ _ _ _ _ _ _ _ _ _ _ _ _ _ B F X N T hk hd hu hp ret
end
theorem off_GW : True := by
  w_top off
  trivial
/-- a contract off the spine, for a call that does not raise -/
noncomputable def CtrA (prog : Program) (w : World) (f : Addr) (vs : List Value) (dd uu : Nat) (mt : List (Addr × Obj)) (pre : Heap → Prop) (post : Heap → Heap → Value → Prop) : Prop :=
  ∀ (dp un : Nat) (gd : Option (List Code)) (cn : Str) (cs : Scope) (a : Addr) (ccd : Value) (cl : List (Str × Addr)) (outer : List Env) (A₀ : Around) (base h₀ : Heap) (L : Addr) (m : Str → Option Value) (s : Shared)
    (p : Program) (loose : List Str) (mean : ExcName → Option Value) (mg mb : Str → Option Value) (Q E : Value → Shared → Prop),
    Below A₀ base outer h₀ → Fr h₀ L s.heap m → (hd.heap_1 w.params).In h₀ → News h₀ L s.heap mt → Top p loose mean mg mb h₀ → cs.kind = .function → dp + dd < recursionLimit → un + uu < cLine → pre s.heap →
    (∀ r h' tk', Keeps (mt.map (·.1)) s.heap h' → post s.heap h' r → Q r { s with heap := h', toks := tk' }) →
    wpAny (model prog w) (ktrTop dp un gd cn cs L a ccd cl outer) (call (.ref f) vs) Q E s
section
variable {prog : Program} {w : World} {f : Addr} {vs : List Value} {dd uu : Nat} {mt : List (Addr × Obj)} {pre : Heap → Prop} {post : Heap → Heap → Value → Prop}
theorem CtrA.use (C : CtrA prog w f vs dd uu mt pre post) {dp un : Nat} {gd : Option (List Code)} {cn : Str} {cs : Scope} {a : Addr} {ccd : Value} {cl : List (Str × Addr)} {outer : List Env} {A₀ : Around} {base h₀ : Heap} {L : Addr} {m : Str → Option Value} {s : Shared}
    {p : Program} {loose : List Str} {mean : ExcName → Option Value} {mg mb : Str → Option Value} {Q E : Value → Shared → Prop}
    (B : Below A₀ base outer h₀ := by k_asm) (F : Fr h₀ L s.heap m := by k_asm) (X : (hd.heap_1 w.params).In h₀ := by k_asm) (N : News h₀ L s.heap mt := by exact News.nil) (T : Top p loose mean mg mb h₀ := by k_asm) (hk : cs.kind = .function := by first | exact rfl | assumption) (hd : dp + dd < recursionLimit := by ktr_room) (hu : un + uu < cLine := by ktr_units) (hp : pre s.heap := by first | trivial | assumption)
    (ret : ∀ r h' tk', Keeps (mt.map (·.1)) s.heap h' → post s.heap h' r → Q r { s with heap := h', toks := tk' }) :
    wpAny (model prog w) (ktrTop dp un gd cn cs L a ccd cl outer) (call (.ref f) vs) Q E s := C _ _ _ _ _ _ _ _ _ _ _ _ _ _ _ _ _ _ _ _ _ _ B F X N T hk hd hu hp ret
end
theorem words17 : True := by
  (k_with "exec For Name Subscript cons nil" => (k_here; (rename Fr _ _ _ _ => wF); (with_unfolding_all refine For_invVF wF (by exact rfl) (by exact rfl) ?_; k_whole)))
  trivial
/-- the number that octets tell -/
noncomputable def whole (l : List UInt8) : Int := (KBw.bInts l.toArray).foldl (fun a k => a * 256 + k) 0
set_option maxHeartbeats 4000000 in
theorem get_spec {prog : Program} {w : World} {x : List UInt8} {at' size : Int} {t1 t2 t3 : Tok} (h0 : 0 ≤ at') (h1 : 0 ≤ size) (h2 : at' + size ≤ x.length) (h3 : x.length ≤ 1000) :
    CtrA prog w 68 [.bytes x.toArray t1, .int at' t2, .int size t3] 1 8 [] (fun _ => True) (fun _ _ r => ∃ t, r = .int (whole (cut x (some at') (some (at' + size)))) t) := by
  unfold CtrA
  intro dp un gd cn cs a ccd cl outer A₀ base h₀ L m s p loose mean mg mb Q E B F X N T hk hd hu _ hret
  refine wpAny_call ?_
  walk_at "mine enter"
  (walk_at "mine shade"; rename_i g' L' h' tk' F' N' B' X' T' S' e'; walk_at "mine light")
  k_steps
  with_unfolding_all refine' KBw.iterBytes_acc1 (y := Str.ofString "found") (fun a k => a * 256 + k) rfl (by rfl) (by assumption) (by assumption) (by rfl) (fun k' t' a' ta' h' tk' own' hmem' hlo' hhi' hoff' F' N' => ?_) (fun u' t' h' tk' F' N' => ?_)
  all_goals (try k_fold)
  all_goals k_steps
  have e9 := ‹_ = cut x _ _›
  subst e9
  exact hret _ _ _ (Keeps.fr S' (by assumption)) ⟨_, rfl⟩
section
open Builtin Builtin.ObjectAttr Builtin.Getset_descriptor
theorem off_EX : True := by
  w_top off
  trivial
noncomputable abbrev qbm : List Value := [.type "Exception", .type "BaseException", .type "object"]
theorem q_cls (w : World) : ∃ cd, clsIn (hd.heap_1 w.params) 31 = some cd ∧ cd.mro = .ref 31 :: qbm ∧ cd.hasDict = true := by
  refine ⟨_, by k_is, rfl, rfl⟩
theorem q_taker_code (w : World) : takerIn (hd.heap_1 w.params) 31 "code" = some none := by k_is
theorem q_taker_ft (w : World) : takerIn (hd.heap_1 w.params) 31 "frame_type" = some none := by k_is
theorem q_taker_text (w : World) : takerIn (hd.heap_1 w.params) 31 "text" = some none := by k_is
theorem q_sa (w : World) : findIn (hd.heap_1 w.params) (.ref 31) "__setattr__" = some (some (.builtin "object.__setattr__")) := by k_is
theorem q_init (w : World) : findIn (hd.heap_1 w.params) (.ref 31) "__init__" = some (some (.ref 28)) := by k_is
theorem q_exc (w : World) : ktsIn (hd.heap_1 w.params) 31 "Exception" = true := by kernel_rfl
theorem q_ga (w : World) : findIn (hd.heap_1 w.params) (.ref 31) "__getattribute__" = some (some (.builtin "BaseException.__getattribute__")) := by k_is
theorem q_code (w : World) : findIn (hd.heap_1 w.params) (.ref 31) "code" = some none := by k_is
theorem q_gat (w : World) : findIn (hd.heap_1 w.params) (.ref 31) "__getattr__" = some none := by k_is
theorem q_call (w : World) : specialIn (hd.heap_1 w.params) (.ref 31) "__call__" = some (some (.builtin "type.__call__")) := by k_is
theorem q_refuse (self : Value) : refuseLoop self "__setattr__" qbm = pure () := by kernel_rfl
theorem q_hasdict (w : World) : hasDictIn (hd.heap_1 w.params) 31 = true := by k_is
section
variable {prog : Program} {w : World} {A : Around} {s : Shared} {R : Result → Shared → Prop} {E : Value → Shared → Prop} {x : Addr} {ox : Obj} {od : Option Obj} {name : Str} {tk : Tok} {v : Value}
theorem q_osa (X : (hd.heap_1 w.params).In s.heap) (I : InstAt s.heap x ox 31 od) (ht : takerIn (hd.heap_1 w.params) 31 name = some none)
    (h : ∀ b, wpAny (model prog w) A.in1 (storeInOwnDict (.ref x) (.ref 31) (.str name tk) name v b)
      (fun fin s' => match fin with | .done f => R (.ok f) s' | .again c' => c'.quiet = true ∧ codeAny (model prog w) A c' R s') (fun e s' => R (.error e) s') s) :
    codeAny (model prog w) A (.call (.builtin "object.__setattr__") ⟨[.ref x, .str name tk, v], []⟩) R s := by
  have SF := PySem.F.store_object
  refine cps fun G9 r9 => ?_
  obtain ⟨cd, hc, hm, hdc⟩ := q_cls w
  refine r9 ?_
  clear r9 G9
  have sub : Looks (model prog w) s.heap (isInstance (.ref x) (.type "object")) true := I.type.andThen (looks_mroIn X (by unfold mroIn; rw [hc, Option.bind_some, hm]; rfl))
  refine codeAny_call_builtin SF.slot.plain SF.entry (@check_slot (model prog w) _ _ s "object.__setattr__" "object" "__setattr__" (.ref x) [.str name tk, v] [] _ SF.kind SF.split sub (SF.args (.ref x) (.str name tk) v) ?_)
  obtain ⟨attr, ha, hr⟩ := Option.bind_eq_some_iff.mp ht
  have hm' : Looks (model prog w) s.heap (mroOf (.ref 31)) cd.mro := (looks_clsIn X hc).andThen .now
  have L3 : Looks (model prog w) s.heap (storeTaker? attr) none := by
    cases attr with
    | none => exact .now
    | some a =>
      obtain ⟨b, hb, e⟩ := Option.map_eq_some_iff.mp hr
      refine (looks_takesIn X hb).andThen ?_
      cases b
      · exact .now
      · cases e
  rw [osa_eq, refuse_eq]
  refine wpAny_bind (wpAny_bind (I.type.here (wpAny_bind (hm'.here ?_))))
  rw [hm, refuseLoop_ref, q_refuse]
  refine wpAny_pure (wpAny_bind (I.type.here (wpAny_bind ((looks_findIn X ha).here (wpAny_bind (L3.here ?_))))))
  exact h _
/-- an own name of an exception is set over its dict -/
theorem q_put {vs : Array Value} {sl : Array (Option Value)} {d : Addr} {es : List DictEntry} {n : Nat} {Q : Unit → Shared → Prop} (X : (hd.heap_1 w.params).In s.heap) (hx : s.heap.get? x = some ⟨.ref 31, some d, .fields vs, sl⟩)
    (hdd : s.heap.get? d = some (dictOf es n)) (ht : takerIn (hd.heap_1 w.params) 31 name = some none) (hl : (getL name es).isSome = true) (hz : (putL name (PyData.keyHash w.params name) (.str name (s.toks + 1)) v es).length ≤ 1000)
    (h : ∀ h', Keeps [d] s.heap h' → h'.get? d = some (dictOf (putL name (PyData.keyHash w.params name) (.str name (s.toks + 1)) v es) (putN name es n)) → Q () { s with heap := h', toks := s.toks + 2 }) :
    wpAny (model prog w) A (setAttr (.ref x) name v) Q E s := by
  have I : InstAt s.heap x ⟨.ref 31, some d, .fields vs, sl⟩ 31 (some (dictOf es n)) := ⟨hx, rfl, rfl, hdd⟩
  refine set_plain X I (q_sa w) (q_osa (s := { s with toks := s.toks + 1 }) X I ht fun b => ?_)
  refine cps fun G9 r9 => ?_
  obtain ⟨cd, hc, hm, hdc⟩ := q_cls w
  refine r9 ?_
  clear r9 G9
  have LC := looks_clsIn (M := model prog w) X hc
  refine wpAny_bind (wpAny_pure (wpAny_bind (wpAny_bind (wpAny_loadPart hx (wpAny_bind (LC.at ?_))))))
  rw [hdc]
  refine wpAny_pure (a := some d) (wpAny_bind (wpAny_pure (wpAny_bind ?_)))
  unfold nsSet
  refine wpAny_bind (wpAny_bind (wpAny_askSetting (wpAny_pure (wpAny_bind (wpAny_mkText (wpAny_bind (wpAny_loadPart hdd ?_)))))))
  dsimp only
  have c : (!es.any (·.key.isStr name) && es.any (·.refKey)) = false := by
    unfold getL at hl
    split at hl
    · rename_i en he
      rw [List.any_eq_true.mpr ⟨en, List.mem_of_find?_eq_some he, List.find?_some he⟩]; rfl
    · split at hl
      · cases hl
      · rename_i z; rw [Bool.not_eq_true] at z; rw [z, Bool.and_false]
  rw [aRefKeyMayBeTheName_at, ← Array.any_toList, ← Array.any_toList, c]
  refine wpAny_updatePart hdd ?_
  have hd' := Heap.get?_update_self (Obj.putName name (PyData.keyHash w.params name) (.str name (s.toks + 1)) v) hdd (by rw [putName_dict]; rfl)
  rw [putName_dict] at hd'
  refine wpAny_bind (wpAny_lookBehind hd' (pastItsLine_dict (by rw [List.size_toArray, sizeLine_eq]; omega)) ?_)
  exact wpAny_pure (h _ (fun b' o e nb => (Heap.get?_update_other _ _ (fun q => nb (by rw [q]; exact .head _))).trans e) hd')
/-- the first own name: the dict is made -/
theorem q_put0 {vs : Array Value} {sl : Array (Option Value)} {Q : Unit → Shared → Prop} (X : (hd.heap_1 w.params).In s.heap) (hx : s.heap.get? x = some ⟨.ref 31, none, .fields vs, sl⟩)
    (ht : takerIn (hd.heap_1 w.params) 31 name = some none)
    (h : ∀ h', Keeps [x] s.heap h' → s.heap.objs.size < h'.objs.size → h'.get? x = some ⟨.ref 31, some s.heap.objs.size, .fields vs, sl⟩ → h'.get? s.heap.objs.size = some (dictOf [⟨PyData.keyHash w.params name, .str name (s.toks + 1), v⟩] 1) → Q () { s with heap := h', toks := s.toks + 2 }) :
    wpAny (model prog w) A (setAttr (.ref x) name v) Q E s := by
  have I : InstAt s.heap x ⟨.ref 31, none, .fields vs, sl⟩ 31 none := ⟨hx, rfl, rfl, trivial⟩
  refine set_plain X I (q_sa w) (q_osa (s := { s with toks := s.toks + 1 }) X I ht fun b => ?_)
  refine cps fun G9 r9 => ?_
  obtain ⟨cd, hc, hm, hdc⟩ := q_cls w
  refine r9 ?_
  clear r9 G9
  have hlt := Heap.lt_size hx
  have ne : x ≠ s.heap.objs.size := Nat.ne_of_lt hlt
  have hx₁ := Heap.get?_push_of_some (dictOf [] 0) hx
  have hx₂ := Heap.get?_update_self (fun o => { o with dict := some s.heap.objs.size }) hx₁ rfl
  have hd₂ := (Heap.get?_update_other (s.heap.push (dictOf [] 0)) (fun o => { o with dict := some s.heap.objs.size }) ne).trans (Heap.get?_push_size s.heap rfl)
  have LC := looks_clsIn (M := model prog w) X hc
  refine wpAny_bind (wpAny_pure (wpAny_bind (wpAny_bind (wpAny_loadPart hx (wpAny_bind (LC.at ?_))))))
  rw [hdc]
  show wpAny _ _ (alloc { cls := .type "dict", data := .dict #[] } >>= fun d => update x (fun o => { o with dict := some d }) >>= fun _ => dictMade (.ref 31) x d) _ _ _
  refine wpAny_bind (wpAny_alloc (wpAny_bind (wpAny_update hx₁ ?_)))
  refine wpAny_pure (wpAny_bind (wpAny_pure (wpAny_bind ?_)))
  unfold nsSet
  refine wpAny_bind (wpAny_bind (wpAny_askSetting (wpAny_pure (wpAny_bind (wpAny_mkText (wpAny_bind (wpAny_loadPart hd₂ ?_)))))))
  dsimp only
  rw [aRefKeyMayBeTheName_at, ← Array.any_toList, ← Array.any_toList]
  show wpAny _ _ (updatePart _ _ _) _ _ _
  refine wpAny_updatePart hd₂ ?_
  have hd' := Heap.get?_update_self (Obj.putName name (PyData.keyHash w.params name) (.str name (s.toks + 1)) v) hd₂ (by rw [putName_dict]; rfl)
  rw [putName_dict] at hd'
  refine wpAny_bind (wpAny_lookBehind hd' (pastItsLine_dict (by rw [List.size_toArray, sizeLine_eq]; show 1 ≤ _; omega)) ?_)
  refine wpAny_pure (h _ (fun b' o e nb => ?_) ?_ ?_ hd')
  · have l := Heap.lt_size e
    rw [Heap.get?_update_other _ _ (Nat.ne_of_gt l), Heap.get?_update_other _ _ (fun q => nb (by rw [q]; exact .head _))]
    exact Heap.get?_push_of_some _ e
  · rw [Heap.size_after_update, Heap.size_after_update, Heap.size_push]; omega
  · rw [Heap.get?_update_other _ _ ne.symm]; exact hx₂
end
end
section
open Builtin Builtin.ObjectAttr Builtin.Getset_descriptor
theorem off_EX2 : True := by
  w_top off
  trivial
theorem q_obj {w : World} {h : Heap} (X : (hd.heap_1 w.params).In h) : ∃ nm qn bs hdct sn sub ab col dd k0 k1 k2 k3 k5, h.get? 31 = some (excClassObj nm qn 31 30 bs qbm hdct sn sub ab col dd k0 k1 k2 k3 k5 "Exception.__new__") :=
  ⟨_, _, _, _, _, _, _, _, _, _, _, _, _, _, X _ _ (by with_unfolding_all rfl)⟩
theorem q_ns {w : World} {h : Heap} (X : (hd.heap_1 w.params).In h) : ∃ mN, h.Ns 30 mN ∧ mN "__init__" = some (.ref 28) := by
  have qn : ∀ es : Array DictEntry, (es.toList.all fun e => match e.key with | .str _ _ => true | _ => false) = true → ∀ e ∈ es, ∃ x t, e.key = .str x t := fun es q e he => by
    have := List.all_eq_true.mp q e (by simpa using he)
    cases hk : e.key <;> rw [hk] at this <;> first | exact ⟨_, _, rfl⟩ | cases this
  exact ⟨_, ⟨_, _, _, X _ _ (by with_unfolding_all rfl), rfl, qn _ (by with_unfolding_all rfl), fun _ => rfl⟩, by with_unfolding_all rfl⟩
theorem q_fn (w : World) : ∃ o, (hd.heap_1 w.params).lookup 28 = some o ∧ o.cls = .type "function" := ⟨_, by with_unfolding_all rfl, rfl⟩
theorem q_make {prog : Program} {w : World} {A : Around} {s : Shared} {E : Value → Shared → Prop} {args : List Value} {Q : Value → Shared → Prop} (X : (hd.heap_1 w.params).In s.heap) (hz : args.length ≤ 1000)
    (h : ∀ h' e, Heap.MadeExcOf s.heap h' e (.ref 31) args → wpAny (model prog w) (A.under (.builtin "type.__call__" ⟨.ref 31 :: args, []⟩)) (call (.ref 28) (.ref e :: args)) (fun r s' => r = .none ∧ Q (.ref e) s') E { s with heap := h' }) :
    wpAny (model prog w) A (call (.ref 31) args) Q E s := by
  refine cps fun G9 r9 => ?_
  obtain ⟨nm, qn, bs, hdct, sn, sub, ab, col, dd, k0, k1, k2, k3, k5, hC⟩ := q_obj X
  obtain ⟨mN, hN, hi⟩ := q_ns X
  obtain ⟨oI, ho, hc⟩ := q_fn w
  obtain ⟨hp, g, d, t, os⟩ := s
  refine r9 ?_
  clear r9 G9
  exact wpAny_call_exc_init PySem.F.excBase_Exception hC hN hi (X _ _ ho) hc (fun h' e hm => h h' e hm) (by rw [sizeLine_eq]; omega)
section
variable {prog : Program} {w : World} {A : Around} {s : Shared} {R : Result → Shared → Prop} {E : Value → Shared → Prop} {x : Addr} {ox : Obj} {od : Option Obj} {name : Str} {tk : Tok} {v : Value}
set_option maxHeartbeats 400000 in
theorem q_get {expr : Bool} {Q : Value → Shared → Prop} (X : (hd.heap_1 w.params).In s.heap) (I : InstAt s.heap x ox 31 od) (hf : findObj (hd.heap_1 w.params) 31 od name = some (.value v)) (hh : handedIn v = true) (h : Q v { s with toks := s.toks + 1 }) :
    wpAny (model prog w) A (getAttr (.ref x) name expr) Q E s := by
  refine cps fun G9 r9 => ?_
  obtain ⟨hp, g, d, t, os⟩ := s
  have L0 := I.type (M := model prog w)
  have L1 := looks_findIn (M := model prog w) X (q_ga w)
  have L2 := looks_findIn (M := model prog w) X (q_gat w)
  have L3 := looks_find (M := model prog w) X I hf
  have FB := F.attr_Exception
  have hk : builtinKind "BaseException.__getattribute__" = some .slot := by decide +kernel
  have hsplit : splitId "BaseException.__getattribute__" = some ("BaseException", "__getattribute__") := by decide +kernel
  obtain ⟨cd, hc, hm, hdc⟩ := q_cls w
  refine r9 ?_
  clear r9 G9
  have sub : Looks (model prog w) hp (isInstance (.ref x) (.type "BaseException")) true := L0.andThen (looks_mroIn X (by unfold mroIn; rw [hc, Option.bind_some, hm]; rfl))
  unfold getAttr getAttrBy
  refine wpAny_bind (wpAny_mkText (wpAny_holding (wpAny_bind (L0.at (wpAny_bind (L1.at ?_))))))
  dsimp only
  rw [if_neg (by decide +kernel)]
  unfold getAttrByItsOwn
  refine wpAny_bind (L2.at (wpAny_bind (wpAny_attempt (wpAny_holding ?_))))
  have e1 : ∀ b, (b && onTheHeap (Value.builtin "BaseException.__getattribute__")) = false := fun b => by cases b <;> rfl
  unfold callGetattribute
  rw [e1]
  unfold boundAndCalled
  simp only [Bool.false_eq_true, if_false]
  rw [FB.ga.bind]
  refine wpAny_bind (wpAny_pure ?_)
  show wpAny (model prog w) _ (call (.builtin "BaseException.__getattribute__") [.ref x, .str name t]) _ _ _
  refine wpAny_call (codeAny_call_builtin FB.ga.plain F.entry_bexc_ga ?_)
  refine @check_slot (model prog w) _ _ _ "BaseException.__getattribute__" "BaseException" "__getattribute__" (.ref x) [.str name t] [] _ hk hsplit sub (F.args_bexc_ga (.ref x) (.str name t)) ?_
  unfold Builtin.«object.__getattribute__»
  refine wpAny_bind (wpAny_pure (wpAny_bind (wpAny_pure (wpAny_bind (L0.at (wpAny_bind (L3.at ?_)))))))
  refine wpAny_pure ?_
  show wpAny _ _ (handedOut v) _ _ _
  rw [handedOut_of hh]; exact wpAny_pure h
theorem q_get_code {expr : Bool} {Q : Value → Shared → Prop} {d : Addr} {vs : Array Value} {sl : Array (Option Value)} {odd : Obj} (X : (hd.heap_1 w.params).In s.heap) (hx : s.heap.get? x = some ⟨.ref 31, some d, .fields vs, sl⟩) (hdd : s.heap.get? d = some odd)
    (hl : lookIn "code" odd = some (some v)) (hh : handedIn v = true) (h : Q v { s with toks := s.toks + 1 }) : wpAny (model prog w) A (getAttr (.ref x) "code" expr) Q E s :=
  q_get X (od := some odd) ⟨hx, rfl, rfl, hdd⟩ (findObj_own (q_hasdict w) (q_code w) rfl hl) hh h
end
end
theorem off_EX3 : True := by
  w_top off
  trivial
noncomputable abbrev excO (t : Addr) : Obj := { cls := .ref 31, data := .fields #[.ref t, .none, .none, .none, .bool false, .none] }
theorem meta_exception : typeOf (.type "Exception") = pure (.type "type") := by unfold typeOf; kernel_rfl
theorem words18 : True := by
  (k_with "getMethod type:Exception" => (k_here; refine method_type (by k_asm) (by k_asm) (by exact meta_exception) (by decide +kernel) (by k_dflt k_is) (by k_handed) ?_))
  trivial
theorem q_xinit {prog : Program} {w : World} {A : Around} {s : Shared} {E : Value → Shared → Prop} {e t0 : Addr} {v : Value} {Q : Value → Shared → Prop} (X : (hd.heap_1 w.params).In s.heap)
    (he : s.heap.get? e = some { cls := .ref 31, data := .fields #[.ref t0, .none, .none, .none, .bool false, .none] })
    (h : ∀ h', Keeps [e] s.heap h' → h'.get? e = some (excO s.heap.objs.size) → s.heap.objs.size < h'.objs.size → Q .none { s with heap := h' }) : wpAny (model prog w) A (call (.builtin "Exception.__init__") [.ref e, v]) Q E s := by
  refine cps fun G9 r9 => ?_
  obtain ⟨nm, qn, bs, hdct, sn, sub, ab, col, dd, k0, k1, k2, k3, k5, hC⟩ := q_obj X
  obtain ⟨hp, g, d, t, os⟩ := s
  refine r9 ?_
  clear r9 G9
  dsimp only at he hC h
  have FX := PySem.F.excBase_Exception
  refine wpAny_call (codeAny_call_builtin FX.init.plain FX.initEntry (wpAny_check_init_sub FX hC he rfl ?_))
  have he1 := Heap.get?_push_of_some { cls := .type "tuple", data := .seq [v].toArray } he
  wp_walk
  refine h _ (fun b o hb nb => ?_) ?_ ?_
  · rw [Heap.get?_update_other _ _ (fun q => nb (by rw [q]; exact .head _))]
    exact Heap.get?_push_of_some _ hb
  · rw [Heap.get?_update_self _ he1 rfl]
    rfl
  · rw [Heap.size_after_update, Heap.size_push]; omega
section
variable {prog : Program} {w : World} {A : Around} {E : Value → Shared → Prop} {s : Shared} {h₀ : Heap} {L e t0 d : Addr} {m : Str → Option Value} {news : List (Addr × Obj)} {g : Obj → List (Addr × Obj)} {v : Value} {vs : Array Value} {sl : Array (Option Value)} {name : Str} {es : List DictEntry} {n : Nat}
theorem q_xinitD {Q : Value → Shared → Prop} (F : Fr h₀ L s.heap m) (X : (hd.heap_1 w.params).In h₀) (N : News h₀ L s.heap news) (U : UpdF e (excO t0) news g)
    (h : ∀ t' h', Fr h₀ L h' m → News h₀ L h' (g (excO t')) → Q .none { s with heap := h' }) : wpAny (model prog w) A (call (.builtin "Exception.__init__") [.ref e, v]) Q E s :=
  q_xinit (X.keeps F.keep) (news_got N U _ (.head _)).1 fun h' k1 k2 _ => h _ h' (fr_keptU F N U k1) (news_keptU N U k1 k2)
theorem q_put0D {Q : Unit → Shared → Prop} (F : Fr h₀ L s.heap m) (X : (hd.heap_1 w.params).In h₀) (N : News h₀ L s.heap news) (U : UpdF e ⟨.ref 31, none, .fields vs, sl⟩ news g) (ht : takerIn (hd.heap_1 w.params) 31 name = some none)
    (h : ∀ d h' tk, L < d → (∀ q ∈ news, q.1 < d) → Fr h₀ L h' m → News h₀ L h' ((d, dictOf [⟨PyData.keyHash w.params name, .str name tk, v⟩] 1) :: g ⟨.ref 31, some d, .fields vs, sl⟩) → Q () { s with heap := h', toks := s.toks + 2 }) :
    wpAny (model prog w) A (setAttr (.ref e) name v) Q E s :=
  q_put0 (X.keeps F.keep) (news_got N U _ (.head _)).1 ht fun h' k1 k2 k3 k4 => h _ h' _ F.ns.lt (fun q hq => Heap.lt_size (N q hq).1) (fr_keptU F N U k1) (news_add F (news_keptU N U k1 k3) (Nat.le_refl _) k4)
theorem q_putD {Q : Unit → Shared → Prop} (F : Fr h₀ L s.heap m) (X : (hd.heap_1 w.params).In h₀) (N : News h₀ L s.heap news) (hx : (e, ⟨.ref 31, some d, .fields vs, sl⟩) ∈ news) (U : UpdF d (dictOf es n) news g) (ht : takerIn (hd.heap_1 w.params) 31 name = some none)
    (hl : (getL name es).isSome = true) (hz : ∀ h k, (putL name h (.str name k) v es).length ≤ 1000)
    (h : ∀ h' hh k, Fr h₀ L h' m → News h₀ L h' (g (dictOf (putL name hh (.str name k) v es) (putN name es n))) → Q () { s with heap := h', toks := s.toks + 2 }) :
    wpAny (model prog w) A (setAttr (.ref e) name v) Q E s :=
  q_put (X.keeps F.keep) (N _ hx).1 (news_got N U _ (.head _)).1 ht hl (hz _ _) fun h' k1 k2 => h h' _ _ (fr_keptU F N U k1) (news_keptU N U k1 k2)
end
theorem words19 : True := by
  (k_with "call builtin:Exception.__init__" => (k_here; (refine q_xinitD (by k_asm) (by k_asm) (by k_asm) (by k_updF) ?_; k_whole); intro _ _ _ wN; (try dsimp only at wN); (try k_sweep)))
  trivial
theorem words20 : True := by
  (k_with "setAttr ref" => (k_here; first
  | ((refine q_put0D (by k_asm) (by k_asm) (by k_asm) (by k_updF) (by first | exact q_taker_code _ | exact q_taker_ft _ | exact q_taker_text _) ?_; k_whole); intro _ _ _ _ wl _ wN; (try dsimp only at wN); (try k_lt wl); (try k_sweep))
  | ((refine q_putD (by k_asm) (by k_asm) (by k_asm) (by k_mem) (by k_updF) (by first | exact q_taker_code _ | exact q_taker_ft _ | exact q_taker_text _) (by with_unfolding_all rfl) (by intro _ _; exact Nat.le_of_ble_eq_true (by with_unfolding_all rfl)) ?_; k_whole); intro _ _ _ _ wN; (try dsimp only at wN); (try k_sweep))))
  trivial
theorem words21 : True := by
  (k_with "binaryOp Add str str" => ((with_reducible show wpAny _ _ (binaryOp Operator.Add (Value.str _ _) (Value.str _ _)) _ _ _); (refine PyProof.Rows.add_str ?_ (by assumption)); intro _ _))
  trivial
set_option maxHeartbeats 4000000 in
theorem init_spec {prog : Program} {w : World} {e t : Addr} {c f : Int} {tc tf : Tok} {tx : Str} {tt : Tok} (hz : (Str.ofString (toString c) ++ Str.ofString ": ").length + tx.length ≤ sizeLine) (args : List Value) (c0 : 0 ≤ c) (c1 : c < 1000) :
   ∀ (dp un : Nat) (gd : Option (List Code)) (cn : Str) (cs : Scope) (a : Addr) (ccd : Value) (cl : List (Str × Addr)) (outer : List Env) (A₀ : Around) (base h₀ : Heap) (L : Addr) (m : Str → Option Value) (s : Shared)
    (p : Program) (loose : List Str) (mean : ExcName → Option Value) (mg mb : Str → Option Value) (Q E : Value → Shared → Prop),
    Below A₀ base outer h₀ → Fr h₀ L s.heap m → (hd.heap_1 w.params).In h₀ → News h₀ L s.heap [(e, excO t)] → Top p loose mean mg mb h₀ → cs.kind = .function → dp + 4 < recursionLimit → un + 16 < cLine →
    (∀ h' tk' d od t' sl, Keeps [e] s.heap h' → s.heap.objs.size ≤ d → h'.get? e = some ⟨.ref 31, some d, .fields #[.ref t', .none, .none, .none, .bool false, .none], sl⟩ → h'.get? d = some od → (∃ es n, od = dictOf es n) → lookIn "code" od = some (some (.int c tc)) → Q .none { s with heap := h', toks := tk' }) →
    wpAny (model prog w) ((ktrTop dp un gd cn cs L a ccd cl outer).under (.builtin "type.__call__" ⟨.ref 31 :: args, []⟩)) (call (.ref 28) [.ref e, .int c tc, .int f tf, .str tx tt]) Q E s := by
  intro dp un gd cn cs a ccd cl outer A₀ base h₀ L m s p loose mean mg mb Q E B F X N T hk hd hu hret
  refine wpAny_call ?_
  walk_at "mine enter"
  (walk_at "mine shade"; rename_i g' L' h' tk' F' N' B' X' T' S' e'; walk_at "mine light")
  k_steps
  all_goals
    have hd9 := ‹L' < _›
    have N9 := ‹News g' L' _ [(_, dictOf _ _), (e, _)]›
    exact hret _ _ _ _ _ _ (Keeps.fr S' (by assumption)) (by rw [← e']; exact Nat.le_of_lt hd9) (N9 _ (.tail _ (.head _))).1 (N9 _ (.head _)).1 ⟨_, _, rfl⟩ (by with_unfolding_all rfl)
theorem off_EX4 : True := by
  w_top off
  trivial
/-- an exception of the class 31 in flight: what stays, its frames, its dict, the mark at the last entry -/
structure Fly (B : Heap) (l : List Env) (e d : Addr) (fl : Value) (h : Heap) : Prop where
  stays : B.StaysIn h
  fresh : B.get? e = none
  frames : h.FunFrames B l
  exc : ∃ vs sl tb, h.get? e = some ⟨.ref 31, some d, .fields vs, sl⟩ ∧ vs[1]? = some tb ∧
    ((tb = .none ∧ fl = .none) ∨ ∃ T oT ts, tb = .ref T ∧ B.get? T = none ∧ T ≠ e ∧ h.get? T = some oT ∧ oT.data = .fields ts ∧ ts[3]? = some fl)
section
variable {M : Model} {A : Around} {E : Value → Shared → Prop} {s : Shared} {B : Heap} {env : Env} {outer l : List Env} {L e d : Addr} {Q : Unit → Shared → Prop}
theorem fly_entry {vs : Array Value} {sl : Array (Option Value)} {head : Value} {hadNext : Bool} (hfr : A.frames = some (env :: outer)) (hl : s.heap.FunFrames B (env :: outer)) (hf : env.frame = some L)
    (he : s.heap.get? e = some ⟨.ref 31, some d, .fields vs, sl⟩) (hkb : B.StaysIn s.heap) (hen : B.get? e = none) (hsz : 1 < vs.size)
    (h : ∀ h', Fly B (env :: outer) e d (rawInt L) h' → s.heap.UpToSlots h' → Q () { s with heap := h' }) :
    wpAny M A (do let a ← frameOf env; let pl ← entryPlaceOf L hadNext; let b ← EntryCells.newEntry head a .none (rawInt L) .none pl; setField (.ref e) 1 b) Q E s := by
  have hene : e ∉ (env :: outer).filterMap (·.frame) := fun hm => by
    refine cps fun G9 r9 => ?_
    obtain ⟨_, o, ho, hnf⟩ := hl.mem hm
    refine r9 ?_
    clear r9 G9
    rw [he] at ho; cases ho; exact hnf vs rfl
  refine wpAny_bind (wpAny_frameOf_fun hfr hl hf fun h₁ hs₁ => ?_)
  refine wpAny_bind (wpAny_entryPlaceOf fun pl hpl => ?_)
  unfold EntryCells.newEntry newFields
  refine wpAny_bind (wpAny_newObj_type ?_ (hpl.sizeOk5 _ _ _ _ _))
  have he₁ : h₁.get? e = some _ := (hs₁.2.1 e hene).trans he
  have kb₁ : B.StaysIn h₁ := fun b o hb => (hs₁.2.1 b fun hm => by rw [(hl.mem hm).1] at hb; cases hb).trans (hkb b o hb)
  have he₂ := Heap.get?_push_of_some (h := h₁) { cls := .type "traceback", dict := none, data := .fields ([head, .ref L, .none, rawInt L, .none] ++ (if pl.isEmpty then List.replicate 6 Value.none else pl)).toArray } he₁
  have hTe : h₁.objs.size ≠ e := Nat.ne_of_gt (Heap.lt_size he₁)
  have hT₂ := Heap.get?_push_size h₁ (o := { cls := .type "traceback", dict := none, data := .fields ([head, .ref L, .none, rawInt L, .none] ++ (if pl.isEmpty then List.replicate 6 Value.none else pl)).toArray }) rfl
  refine wpAny_setField he₂ rfl hsz ?_
  have he₃ := Heap.get?_update_self (Obj.mapFields (·.setIfInBounds 1 (Value.ref h₁.objs.size))) he₂ rfl
  have keep : ∀ b o, b ≠ e → h₁.get? b = some o → ((h₁.push { cls := .type "traceback", dict := none, data := .fields ([head, .ref L, .none, rawInt L, .none] ++ (if pl.isEmpty then List.replicate 6 Value.none else pl)).toArray }).update e (Obj.mapFields (·.setIfInBounds 1 (Value.ref h₁.objs.size)))).get? b = some o := fun b o nb hb => by
    rw [Heap.get?_update_other _ _ (Ne.symm nb)]
    exact Heap.get?_push_of_some _ hb
  have noRec : ∀ b o, s.heap.get? b = some o → (∀ vs, o.data ≠ .fields vs) → b ≠ e := fun b o hb hnf q => by
    rw [q, he] at hb; cases hb; exact hnf vs rfl
  refine h _ ⟨fun b o hb => keep b o (fun q => by rw [q, hen] at hb; cases hb) (kb₁ b o hb), hen, hl.of_keeps fun b o hb hnf => ?_, ⟨_, _, _, he₃, by simp [hsz], .inr ⟨h₁.objs.size, _, _, rfl, kb₁.fresh, hTe, (Heap.get?_update_other _ _ (Ne.symm hTe)).trans hT₂, rfl, ?_⟩⟩⟩ fun b o hb hnf => ?_
  · obtain ⟨sl', hs⟩ := hs₁.2.2 b o hb
    exact ⟨_, keep b _ (noRec b o hb hnf) hs, rfl⟩
  · rcases hpl with rfl | ⟨_, _, _, _, _, _, _, rfl⟩ <;> simp
  · obtain ⟨sl', hs⟩ := hs₁.2.2 b o hb
    exact ⟨sl', keep b _ (noRec b o hb hnf) hs⟩
/-- the frame notes it -/
theorem fly_note (hfr : A.frames = some (env :: outer)) (hf : env.frame = some L) (f : Fly B (env :: outer) e d .none s.heap)
    (h : ∀ h', Fly B (env :: outer) e d (rawInt L) h' → s.heap.UpToSlots h' → Q () { s with heap := h' }) : wpAny M A (noteFrame (.ref e) env) Q E s := by
  refine cps fun G9 r9 => ?_
  obtain ⟨f1, f2, f3, vs, sl, tb, he, h1, ht⟩ := f
  refine r9 ?_
  clear r9 G9
  have hsz := (Array.getElem?_eq_some_iff.mp h1).1
  unfold noteFrame
  simp only [hf]
  refine wpAny_bind (wpAny_field he rfl h1 ?_)
  refine cps fun G8 r8 => ?_
  rcases ht with ⟨rfl, -⟩ | ⟨T, oT, ts, rfl, hnT, hTe, hT, hdT, h3⟩
  · refine r8 ?_
    clear r8 G8
    rw [if_neg (by decide)]
    exact fly_entry hfr f3 hf he f1 f2 hsz h
  · refine r8 ?_
    clear r8 G8
    rw [if_pos (show (Value.ref T != Value.none) = true from by simp)]
    refine wpAny_bind (wpAny_field hT hdT h3 ?_)
    rw [if_neg (show ¬ ((Value.none == rawInt L) = true) from by simp [rawInt])]
    refine wpAny_bind (wpAny_setField hT hdT (Array.getElem?_eq_some_iff.mp h3).1 ?_)
    have other : ∀ b, b ≠ T → (s.heap.update T (Obj.mapFields (·.setIfInBounds 3 Value.none))).get? b = s.heap.get? b := fun b hb => Heap.get?_update_other _ _ (Ne.symm hb)
    have noRec : ∀ b o, s.heap.get? b = some o → (∀ vs, o.data ≠ .fields vs) → b ≠ T := fun b o hb hnf q => by
      rw [q, hT] at hb; cases hb; exact hnf ts hdT
    refine fly_entry hfr (f3.of_keeps fun b o hb hnf => ⟨o, (other b (noRec b o hb hnf)).trans hb, rfl⟩) hf ((other e (Ne.symm hTe)).trans he)
      (fun b o hb => (other b fun q => by rw [q, hnT] at hb; cases hb).trans (f1 b o hb)) f2 hsz fun h' x y => h h' x fun b o hb hnf => y b o ((other b (noRec b o hb hnf)).trans hb) hnf
/-- the mark is taken off -/
theorem fly_off {fl : Value} (f : Fly B l e d fl s.heap)
    (h : ∀ h', Fly B l e d .none h' → s.heap.UpToSlots h' → Q () { s with heap := h' }) : wpAny M A (setFlight (.ref e) none) Q E s := by
  refine cps fun G9 r9 => ?_
  obtain ⟨f1, f2, f3, vs, sl, tb, he, h1, ht⟩ := f
  refine r9 ?_
  clear r9 G9
  unfold setFlight
  refine wpAny_bind (wpAny_field he rfl h1 ?_)
  refine cps fun G8 r8 => ?_
  rcases ht with ⟨rfl, -⟩ | ⟨T, oT, ts, rfl, hnT, hTe, hT, hdT, h3⟩
  · refine r8 ?_
    clear r8 G8
    rw [if_neg (by decide)]
    exact wpAny_pure (h s.heap ⟨f1, f2, f3, vs, sl, _, he, h1, .inl ⟨rfl, rfl⟩⟩ (.refl _))
  · refine r8 ?_
    clear r8 G8
    have hsz3 : 3 < ts.size := (Array.getElem?_eq_some_iff.mp h3).1
    rw [if_pos (show (Value.ref T != Value.none) = true from by simp)]
    have other : ∀ b, b ≠ T → (s.heap.update T (Obj.mapFields (·.setIfInBounds 3 ((none : Option Addr).elim Value.none fun f => rawInt f)))).get? b = s.heap.get? b := fun b hb => Heap.get?_update_other _ _ (Ne.symm hb)
    have noRec : ∀ b o, s.heap.get? b = some o → (∀ vs, o.data ≠ .fields vs) → b ≠ T := fun b o hb hnf q => by
      rw [q, hT] at hb; cases hb; exact hnf ts hdT
    refine wpAny_setField hT hdT hsz3 (h _ ⟨fun b o hb => (other b fun q => by rw [q, hnT] at hb; cases hb).trans (f1 b o hb), f2, f3.of_keeps fun b o hb hnf => ⟨o, (other b (noRec b o hb hnf)).trans hb, rfl⟩,
      vs, sl, _, (other e (Ne.symm hTe)).trans he, h1, .inr ⟨T, _, _, rfl, hnT, hTe, Heap.get?_update_self _ hT (Obj.isFreed_of_fields (Obj.data_mapFields hdT _)), Obj.data_mapFields hdT _, by simp [hsz3]⟩⟩
      fun b o hb hnf => ⟨o.slots, (other b (noRec b o hb hnf)).trans hb⟩)
/-- the frame is left -/
theorem fly_leave (hfr : A.frames = some (env :: outer)) (hf : env.frame = some L) (f : Fly B (env :: outer) e d .none s.heap)
    (h : ∀ h', Fly B outer e d .none h' → s.heap.UpToSlots h' → Q () { s with heap := h' }) : wpAny M A (leaving env (.ref e)) Q E s := by
  unfold leaving
  refine wpAny_bind (fly_note hfr hf f fun h₁ f₁ u₁ => ?_)
  refine fly_off (s := { s with heap := h₁ }) f₁ fun h₂ f₂ u₂ => h h₂ ⟨f₂.stays, f₂.fresh, f₂.frames.2.2, f₂.exc⟩ (u₁.trans u₂)
/-- noted again in the same frame: nothing happens -/
theorem fly_again (hf : env.frame = some L) (f : Fly B l e d (rawInt L) s.heap) (h : Q () s) : wpAny M A (noteFrame (.ref e) env) Q E s := by
  refine cps fun G9 r9 => ?_
  obtain ⟨f1, f2, f3, vs, sl, tb, he, h1, ht⟩ := f
  refine r9 ?_
  clear r9 G9
  unfold noteFrame
  simp only [hf]
  refine wpAny_bind (wpAny_field he rfl h1 ?_)
  refine cps fun G8 r8 => ?_
  rcases ht with ⟨-, q⟩ | ⟨T, oT, ts, rfl, hnT, hTe, hT, hdT, h3⟩
  · refine r8 ?_
    clear r8 G8
    cases q
  · refine r8 ?_
    clear r8 G8
    rw [if_pos (show (Value.ref T != Value.none) = true from by simp)]
    refine wpAny_bind (wpAny_field hT hdT h3 ?_)
    rw [if_pos (show (rawInt L == rawInt L) = true from by simp)]
    exact wpAny_pure h
end
theorem Fly.base {B B' : Heap} {l : List Env} {e d : Addr} {fl : Value} {h : Heap} (k : B'.StaysIn B) (f : Fly B l e d fl h) : Fly B' l e d fl h := by
  have nn : ∀ b, B.get? b = none → B'.get? b = none := fun b hb => by
    cases q : B'.get? b with
    | none => rfl
    | some o => have := k b o q; rw [hb] at this; cases this
  refine cps fun G9 r9 => ?_
  obtain ⟨f1, f2, f3, vs, sl, tb, he, h1, ht⟩ := f
  refine r9 ?_
  clear r9 G9
  have ff : ∀ l : List Env, h.FunFrames B l → h.FunFrames B' l := fun l => by
    induction l with
    | nil => exact fun x => x
    | cons a r ih => exact fun ⟨x1, ⟨L, o, x2, x3, x4⟩, x5⟩ => ⟨x1, ⟨L, o, x2, nn _ x3, x4⟩, ih x5⟩
  refine ⟨fun b o hb => f1 b o (k b o hb), nn _ f2, ff l f3, vs, sl, tb, he, h1, ?_⟩
  rcases ht with x | ⟨T, oT, ts, x1, x2, x3⟩
  · exact .inl x
  · exact .inr ⟨T, oT, ts, x1, nn _ x2, x3⟩
theorem off_EX5 : True := by
  w_top off
  trivial
/-- the dict at d tells the code -/
noncomputable def CodeD (h : Heap) (d : Addr) (c : Int) : Prop := ∃ od es n t, h.get? d = some od ∧ od.data = .dict es n ∧ lookIn "code" od = some (some (.int c t))
theorem CodeD.slots {h h' : Heap} {d : Addr} {c : Int} (x : CodeD h d c) (u : h.UpToSlots h') : CodeD h' d c := by
  refine cps fun G9 r9 => ?_
  obtain ⟨od, es, n, t, ho, hd, hl⟩ := x
  refine r9 ?_
  clear r9 G9
  obtain ⟨sl, hs⟩ := u d od ho (fun vs q => by rw [hd] at q; cases q)
  exact ⟨_, es, n, t, hs, hd, hl⟩
/-- an exception with this code is in flight over these frames; h: the heap at the call -/
noncomputable def Raises (l : List Env) (h : Heap) (c : Int) (e : Addr) (h' : Heap) : Prop :=
  ∃ d, h.get? e = none ∧ h.get? d = none ∧ Fly (hideAll h (l.filterMap (·.frame))) l e d .none h' ∧ h.UpToSlots h' ∧ CodeD h' d c
/-- an exception with this code is made -/
noncomputable def MadeQ (h h' : Heap) (c : Int) (r : Value) : Prop :=
  ∃ e d t sl, r = .ref e ∧ h.get? e = none ∧ h.get? d = none ∧ h'.get? e = some ⟨.ref 31, some d, .fields #[.ref t, .none, .none, .none, .bool false, .none], sl⟩ ∧ CodeD h' d c
theorem raises_leave {M : Model} {A : Around} {E : Value → Shared → Prop} {Q : Unit → Shared → Prop} {s : Shared} {env : Env} {l : List Env} {L e : Addr} {c : Int} {hc h1 : Heap} (hA : A.frames = some (env :: l)) (hf : env.frame = some L) (hL : hc.get? L = none)
    (k : Keeps [] hc h1) (r : Raises (env :: l) h1 c e s.heap) (h : ∀ h3, Raises l hc c e h3 → Q () { s with heap := h3 }) : wpAny M A (leaving env (.ref e)) Q E s := by
  refine cps fun G9 r9 => ?_
  obtain ⟨d, z1, z2, f, u, cd⟩ := r
  refine r9 ?_
  clear r9 G9
  refine fly_leave hA hf f fun h3 f3 u3 => h h3 ⟨d, kts_none k.all z1, kts_none k.all z2, f3.base fun b o hb => ?_, (Heap.UpToSlots.of_keeps k.all).trans (u.trans u3), cd.slots u3⟩
  have nb : b ∉ l.filterMap (·.frame) := fun q => by rw [hideAll_none _ q] at hb; cases hb
  have hb := of_hideAll _ hb
  refine hideAll_get _ (k.all _ _ hb) fun q => ?_
  rw [List.filterMap_cons, hf] at q
  rcases List.mem_cons.mp q with rfl | q
  · rw [hL] at hb; cases hb
  · exact nb q
theorem frames_hide {h base : Heap} {l : List Env} (f : h.FunFrames base l) : h.FunFrames (hideAll h (l.filterMap (·.frame))) l := by
  have key : ∀ (S : List Addr) (l : List Env), (∀ b ∈ l.filterMap (·.frame), b ∈ S) → h.FunFrames base l → h.FunFrames (hideAll h S) l := fun S l => by
    induction l with
    | nil => exact fun _ x => x
    | cons a r ih =>
      intro hS ⟨x1, ⟨L, o, x2, x3, x4⟩, x5⟩
      rw [List.filterMap_cons, x2] at hS
      exact ⟨x1, ⟨L, o, x2, hideAll_none _ (hS _ (.head _)), x4⟩, ih (fun b hb => hS b (.tail _ hb)) x5⟩
  exact key _ l (fun _ q => q) f
theorem raises_made {A₀ : Around} {base g h h' : Heap} {outer : List Env} {L a : Addr} {m : Str → Option Value} {cn : Str} {cs : Scope} {ccd : Value} {cl : List (Str × Addr)} {c : Int} {e : Addr} (K : Below A₀ base outer g) (F : Fr g L h m) (hk : cs.kind = .function)
    (kp : Keeps [] h h') (q : MadeQ h h' c (.ref e)) : Raises (envX cn cs L a ccd cl :: outer) h c e h' := by
  refine cps fun G9 r9 => ?_
  obtain ⟨e', d, t, sl, q0, z1, z2, he, cd⟩ := q
  refine r9 ?_
  clear r9 G9
  cases q0
  have B := pushX (env := envX cn cs L a ccd cl) K F rfl hk
  have nb : ∀ b, h.get? b = none → (hideAll h ((envX cn cs L a ccd cl :: outer).filterMap (·.frame))).get? b = none := fun b hb => kts_none (fun b o q => of_hideAll _ q) hb
  exact ⟨d, z1, z2, ⟨fun b o hb => kp.all _ _ (of_hideAll _ hb), nb _ z1, (frames_hide B.frames).of_keeps fun b o hb _ => ⟨o, kp.all _ _ hb, rfl⟩, _, _, _, he, rfl, .inl ⟨rfl, rfl⟩⟩, .of_keeps kp.all, cd⟩
section
variable {prog : Program} {w : World} {A : Around} {E : Value → Shared → Prop} {s : Shared} {env : Env}
theorem q_raise {x : Sem Value} {Q : Flow → Shared → Prop} (hh : A.handled = none)
    (h : wpAny (model prog w) A x (fun v s₁ => ∃ e d t sl, v = .ref e ∧ (hd.heap_1 w.params).In s₁.heap ∧ s₁.heap.get? e = some ⟨.ref 31, some d, .fields #[.ref t, .none, .none, .none, .bool false, .none], sl⟩ ∧ E (.ref e) s₁) E s) : wpAny (model prog w) A (raiseStmt env (some x) none) Q E s := by
  have hcB : (Value.ref 31 :: qbm).contains (.type "BaseException") = true := by decide +kernel
  unfold raiseStmt
  refine wpAny_bind (wpAny_mono h (fun v s₁ h₁ => ?_) fun _ _ x => x)
  refine cps fun G9 r9 => ?_
  obtain ⟨e, d, t, sl, rfl, X, he, hE⟩ := h₁
  obtain ⟨nm, qn, bs, hdct, sn, sub, ab, col, dd, k0, k1, k2, k3, k5, hC⟩ := q_obj X
  obtain ⟨hp, g, dw, tk, os⟩ := s₁
  refine r9 ?_
  clear r9 G9
  dsimp only at he hC
  repeat (first | with_reducible refine wpAny_loadPart_at he ?_ | with_reducible refine wpAny_loadPart_at hC ?_ | (with_reducible refine wpAny_isSubtype_exc hC ?_; rw [hcB]) | wp_step)
  exact wpAny_raiseNew_none hh hE
theorem q_Raise {e : PySem.Expr} {pos : Pos} {Q : Flow → Shared → Prop} (hh : A.handled = none)
    (h : wpAny (model prog w) A (eval e env) (fun v s₁ => ∃ e d t sl, v = .ref e ∧ (hd.heap_1 w.params).In s₁.heap ∧ s₁.heap.get? e = some ⟨.ref 31, some d, .fields #[.ref t, .none, .none, .none, .bool false, .none], sl⟩ ∧ E (.ref e) s₁) E s) :
    wpAny (model prog w) A (exec (.Raise (some e) none pos) env) Q E s := by
  rw [arm_exec_Raise]
  refine wpAny_bind (wpAny_standAt (q_raise hh ?_))
  exact wpAny_bind (wpAny_mono h (fun v s₃ h₃ => wpAny_bind (wpAny_standAt (wpAny_pure h₃))) fun _ _ x => x)
end
section
variable {prog : Program} {w : World} {E : Value → Shared → Prop} {s : Shared}
theorem q_new {c f : Int} {tc tf : Tok} {tx : Str} {tt : Tok} (hz : (Str.ofString (toString c) ++ Str.ofString ": ").length + tx.length ≤ sizeLine) (c0 : 0 ≤ c) (c1 : c < 1000)
    {dp un : Nat} {gd : Option (List Code)} {cn : Str} {cs : Scope} {a : Addr} {ccd : Value} {cl : List (Str × Addr)} {outer : List Env} {A₀ : Around} {base h₀ : Heap} {L : Addr} {m : Str → Option Value}
    {p : Program} {loose : List Str} {mean : ExcName → Option Value} {mg mb : Str → Option Value} {Q : Value → Shared → Prop}
    (B : Below A₀ base outer h₀) (F : Fr h₀ L s.heap m) (X : (hd.heap_1 w.params).In h₀) (T : Top p loose mean mg mb h₀) (hk : cs.kind = .function) (hd : dp + 4 < recursionLimit) (hu : un + 16 < cLine)
    (h : ∀ h' tk' r, Keeps [] s.heap h' → MadeQ s.heap h' c r → Q r { s with heap := h', toks := tk' }) :
    wpAny (model prog w) (ktrTop dp un gd cn cs L a ccd cl outer) (call (.ref 31) [.int c tc, .int f tf, .str tx tt]) Q E s := by
  refine q_make (X.keeps F.keep) (by show 3 ≤ 1000; omega) fun h1 e hm => ?_
  refine cps fun G9 r9 => ?_
  obtain ⟨t, he, _, _⟩ := hm.there
  refine r9 ?_
  clear r9 G9
  have F1 := fr_kept0 F (Keeps.of_all hm.keeps)
  have N1 : News h₀ L h1 [(e, excO t)] := fun q hq => by
    rw [List.mem_singleton.mp hq]
    refine ⟨he, fun z => ?_, kts_none F.keep hm.new⟩
    refine cps fun G9 r9 => ?_
    obtain ⟨o, es, ep, ho, _⟩ := F.ns
    refine r9 ?_
    clear r9 G9
    have := hm.new
    dsimp only at z
    rw [z, ho] at this; cases this
  refine init_spec hz _ c0 c1 _ _ _ _ _ _ _ _ _ _ _ _ _ _ { s with heap := h1 } _ _ _ _ _ _ _ B F1 X N1 T hk hd hu fun h2 tk2 d od t2 sl k2 zd he2 hd2 hes hl => ⟨rfl, ?_⟩
  obtain ⟨es, n, rfl⟩ := hes
  refine h h2 tk2 _ (Keeps.of_all fun b o hb => k2 b o (hm.keeps b o hb) (fun q => ?_)) ⟨e, d, t2, sl, rfl, hm.new, ?_, he2, _, _, _, _, hd2, rfl, hl⟩
  · rw [List.mem_singleton.mp q, hm.new] at hb; cases hb
  · refine kts_none hm.keeps ?_
    exact Heap.get?_none_of_le zd
end
theorem off_EX6 : True := by
  w_top off
  trivial
theorem words22 : True := by
  (k_with "call ref" => (
  (with_reducible show wpAny _ _ (call (Value.ref 31) _ _) _ _ _);
  (refine q_new (by assumption) (by omega) (by omega) (by k_asm) (by k_asm) (by k_asm) (by k_asm) (by first | exact rfl | assumption) (by ktr_room) (by ktr_units) ?_); k_whole;
  intro _ _ _ _ _))
  trivial
theorem MadeQ.from {h g h' : Heap} {c : Int} {r : Value} (k : Keeps [] h g) (x : MadeQ g h' c r) : MadeQ h h' c r := by
  refine cps fun G9 r9 => ?_
  obtain ⟨e, d, t, sl, q, z1, z2, z3⟩ := x
  refine r9 ?_
  clear r9 G9
  exact ⟨e, d, t, sl, q, kts_none k.all z1, kts_none k.all z2, z3⟩
set_option maxHeartbeats 4000000 in
theorem tls_spec {prog : Program} {w : World} {al : Int} {ta tt : Tok} {tx : Str} (h0 : 0 ≤ al) (h1 : al < 500) (hz : (Str.ofString (toString (256 + al)) ++ Str.ofString ": ").length + tx.length ≤ sizeLine) :
    CtrA prog w 75 [.int al ta, .str tx tt] 6 20 [] (fun _ => True) (fun h h' r => MadeQ h h' (256 + al) r) := by
  unfold CtrA
  intro dp un gd cn cs a ccd cl outer A₀ base h₀ L m s p loose mean mg mb Q E B F X N T hk hd hu _ hret
  refine wpAny_call ?_
  walk_at "mine enter"
  (walk_at "mine shade"; rename_i g' L' h' tk' F' N' B' X' T' S' e'; walk_at "mine light")
  k_steps
  have k9 := Keeps.fr S' F'
  exact hret _ _ _ (k9.trans ‹_›) (MadeQ.from k9 ‹_›)
theorem off_RF : True := by
  w_top off
  trivial
/-- a contract off the spine, for a call that may raise one of our own -/
noncomputable def CtrE (prog : Program) (w : World) (f : Addr) (vs : List Value) (dd uu : Nat) (pre : Heap → Prop) (post : Heap → Heap → Value → Prop) (bad : Int → Prop) : Prop :=
  ∀ (dp un : Nat) (gd : Option (List Code)) (cn : Str) (cs : Scope) (a : Addr) (ccd : Value) (cl : List (Str × Addr)) (outer : List Env) (A₀ : Around) (base h₀ : Heap) (L : Addr) (m : Str → Option Value) (s : Shared)
    (p : Program) (loose : List Str) (mean : ExcName → Option Value) (mg mb : Str → Option Value) (Q E : Value → Shared → Prop),
    Below A₀ base outer h₀ → Fr h₀ L s.heap m → (hd.heap_1 w.params).In h₀ → Top p loose mean mg mb h₀ → cs.kind = .function → dp + dd < recursionLimit → un + uu < cLine → pre s.heap →
    (∀ r h' tk', Keeps [] s.heap h' → post s.heap h' r → Q r { s with heap := h', toks := tk' }) →
    (∀ c e h' tk', bad c → Raises (envX cn cs L a ccd cl :: outer) s.heap c e h' → E (.ref e) { s with heap := h', toks := tk' }) →
    wpAny (model prog w) (ktrTop dp un gd cn cs L a ccd cl outer) (call (.ref f) vs) Q E s
theorem tls50 {prog : Program} {w : World} {ta tt : Tok} {tx : Str} (hz : tx.length ≤ 1000) : CtrA prog w 75 [.int 50 ta, .str tx tt] 6 20 [] (fun _ => True) (fun h h' r => MadeQ h h' 306 r) :=
  tls_spec (by decide) (by decide) (by
    have : (Str.ofString (toString ((256 : Int) + 50)) ++ Str.ofString ": ").length = 5 := by decide +kernel
    rw [this, sizeLine_eq]; omega)
theorem tls120 {prog : Program} {w : World} {ta tt : Tok} {tx : Str} (hz : tx.length ≤ 1000) : CtrA prog w 75 [.int 120 ta, .str tx tt] 6 20 [] (fun _ => True) (fun h h' r => MadeQ h h' 376 r) :=
  tls_spec (by decide) (by decide) (by
    have : (Str.ofString (toString ((256 : Int) + 120)) ++ Str.ofString ": ").length = 5 := by decide +kernel
    rw [this, sizeLine_eq]; omega)
theorem words23 : True := by
  (k_with "call ref" => (
  (with_reducible show wpAny _ _ (call (Value.ref 75) _ _) _ _ _);
  (first | refine CtrA.use (tls50 (by decide +kernel)) (ret := ?_) | refine CtrA.use (tls120 (by decide +kernel)) (ret := ?_)); k_whole;
  intro _ wh _ wk wq; have wr := wq; refine cps fun G6 r6 => ?_; obtain ⟨_, _, _, _, wt, _, _, _, _⟩ := wr; subst wt; refine r6 ?_; clear r6 G6; have wX : Frag.In _ wh := Frag.In.keeps (Frag.In.keeps (by k_asm) (Fr.keep (by k_asm))) wk.all; (try dsimp only)))
  trivial
theorem words24 : True := by
  (k_with "call ref" => (
  (with_reducible show wpAny _ _ (call (Value.ref 68) _ _) _ _ _);
  (refine CtrA.use (get_spec (by omega) (by omega) (by omega) (by omega)) (ret := ?_)); k_whole;
  intro _ _ _ wk wq; obtain ⟨_, we⟩ := wq; subst we; have wF := fr_kept0 (by k_asm) wk; have wN := news_kept0 (by k_asm) wk; clear wk; (try dsimp only); k_sweep))
  trivial
theorem words25 : True := by
  (k_with "exec Raise some none" => (k_here; refine q_Raise rfl ?_))
  trivial
theorem words26 : True := by
  (k_with "call builtin:list.append" => (k_here; (with_reducible show wpAny _ _ (call (Value.builtin _) [Value.ref _, _]) _ _ _); k_dflt (refine append_K (by k_asm) (by k_asm) (by k_upd) ?_ (by (rw [List.size_toArray, sizeLine_eq]; omega)); k_whole); intro _ _ _; (try k_sweep)))
  trivial
theorem len_newsL {prog : Program} {w : World} {A : Around} {E : Value → Shared → Prop} {s : Shared} {h₀ : Heap} {L l : Addr} {news : List (Addr × Obj)} {vs : List Value} {n : Nat} {Q : Value → Shared → Prop} (N : News h₀ L s.heap news) (hm : (l, listOf vs.toArray n) ∈ news) (hz : vs.length ≤ 16384)
    (h : ∀ t k, Q (.int (vs.length : Int) t) { s with toks := k }) : wpAny (model prog w) A (call (.builtin "len") [.ref l]) Q E s :=
  kun_lenL (k := (vs.length : Int)) (News.isList N hm) (congrArg _ List.size_toArray) (by omega) (h _ _)
theorem words27 : True := by
  (k_with "call builtin:len" => (k_here; (with_reducible show wpAny _ _ (call (Value.builtin "len") [Value.ref _]) _ _ _); (refine len_newsL (by k_asm) (by k_mem) (by omega) ?_; k_whole); intro _ _))
  trivial
/-- the fields of octets -/
noncomputable def rd : Nat → List UInt8 → Option (List (List UInt8))
  | _, [] => some []
  | 0, _ => none
  | n + 1, x => if x.length < 2 then none else
      let k := (whole (x.take 2)).toNat
      if x.length < 2 + k then none else (rd n (x.drop (2 + k))).map (((x.drop 2).take k) :: ·)
/-- byte strings as values -/
noncomputable def Bys (vs : List Value) (fs : List (List UInt8)) : Prop := All2 (fun v f => ∃ t, v = .bytes (f : List UInt8).toArray t) vs fs
noncomputable def Halt (p : Prop) : Prop := p
theorem halt {p : Prop} (h : Halt p) : p := h
theorem words28 : True := by
  (k_with "exec While Compare" => (k_here; refine halt ?_))
  trivial
noncomputable def manyV (many : Option Int) (tm : Tok) : Value := match many with | some k => .int k tm | none => .none
noncomputable def manyOk (many : Option Int) (n : Nat) : Prop := match many with | some k => (n : Int) = k | none => True
theorem whole_nonneg (l : List UInt8) : 0 ≤ whole l := by
  unfold whole
  have key : ∀ (ks : List Int) (a : Int), 0 ≤ a → (∀ k ∈ ks, 0 ≤ k) → 0 ≤ ks.foldl (fun a k => a * 256 + k) a := by
    intro ks
    induction ks with
    | nil => intro a h _; exact h
    | cons k r ih => intro a h hk; exact ih _ (by have := hk k (.head _); show 0 ≤ a * 256 + k; omega) (fun q hq => hk q (.tail _ hq))
  refine key _ _ (by decide) fun k hk => ?_
  unfold KBw.bInts at hk
  obtain ⟨b, _, rfl⟩ := List.mem_map.mp hk
  omega
theorem cut_nat {x : List UInt8} {lo hi : Int} (h0 : 0 ≤ lo) (h1 : lo ≤ hi) (h2 : hi ≤ x.length) : cut x (some lo) (some hi) = (x.drop lo.toNat).take (hi - lo).toNat := by
  have e : ∀ i : Int, 0 ≤ i → i ≤ x.length → clipAt x.length i = i.toNat := fun i a b => by
    unfold clipAt; rw [if_neg (Int.not_lt.mpr a), Int.min_eq_left b, Int.max_eq_right a]
  unfold cut
  simp only [Option.elim]
  rw [e lo h0 (Int.le_trans h1 h2), e hi (Int.le_trans h0 h1) h2]
  refine cps fun G9 r9 => ?_
  obtain ⟨a, rfl⟩ := Int.eq_ofNat_of_zero_le h0
  obtain ⟨b, rfl⟩ := Int.eq_ofNat_of_zero_le (Int.le_trans h0 h1)
  refine r9 ?_
  clear r9 G9
  rw [Int.toNat_sub]; rfl
theorem cut_natN {x : List UInt8} {a b : Nat} (h : a + b ≤ x.length) : cut x (some (a : Int)) (some ((a + b : Nat) : Int)) = (x.drop a).take b := by
  have := cut_nat (x := x) (lo := (a : Int)) (hi := ((a + b : Nat) : Int)) (Int.natCast_nonneg a) (Int.ofNat_le.mpr (Nat.le_add_right a b)) (Int.ofNat_le.mpr h)
  rw [this, Int.toNat_sub, Nat.add_sub_cancel_left]; rfl
theorem rd_nil (k : Nat) : rd k [] = some [] := by cases k <;> rfl
theorem rd_none1 {k : Nat} {y : List UInt8} (h0 : 0 < y.length) (h1 : y.length < 2) : rd k y = none := by
  cases y with
  | nil => cases h0
  | cons a r => cases k with
    | zero => rfl
    | succ k => unfold rd; rw [if_pos h1]
theorem rd_none2 {k : Nat} {y : List UInt8} (h1 : 2 ≤ y.length) (h2 : (y.length : Int) < 2 + whole (y.take 2)) : rd k y = none := by
  cases y with
  | nil => simp at h1
  | cons a r => cases k with
    | zero => rfl
    | succ k =>
      unfold rd
      rw [if_neg (by omega)]
      dsimp only
      rw [if_pos (by have := whole_nonneg ((a :: r).take 2); omega)]
theorem rd_some {k : Nat} {y : List UInt8} (h1 : 2 ≤ y.length) (h2 : 2 + whole (y.take 2) ≤ (y.length : Int)) : rd (k + 1) y = (rd k (y.drop (2 + (whole (y.take 2)).toNat))).map (((y.drop 2).take (whole (y.take 2)).toNat) :: ·) := by
  cases y with
  | nil => simp at h1
  | cons a r =>
    rw [rd]
    rw [if_neg (by omega)]
    dsimp only
    rw [if_neg (by have := whole_nonneg ((a :: r).take 2); omega)]
    · intro q; cases q
theorem Bys.push {vs : List Value} {fs : List (List UInt8)} {f : List UInt8} {t : Tok} (h : Bys vs fs) : Bys (vs ++ [.bytes f.toArray t]) (fs ++ [f]) := h.snoc ⟨t, rfl⟩
theorem Bys.length {vs : List Value} {fs : List (List UInt8)} (h : Bys vs fs) : vs.length = fs.length := All2.length h
/-- the locals of read_fields in its loop -/
noncomputable def rfm (D : Addr) (p : Int) (tp : Tok) (eo : Option Value) (m₀ : Str → Option Value) : Str → Option Value := fun y =>
  if y = Str.ofString "found" then some (.ref D) else if y = Str.ofString "at" then some (.int p tp) else if y = Str.ofString "end" then eo else m₀ y
theorem rfm_next (D : Addr) (p q : Int) (tp tq : Tok) (eo e : Option Value) (m₀ : Str → Option Value) :
    (fun y => if y = Str.ofString "at" then some (.int q tq) else if y = Str.ofString "end" then e else rfm D p tp eo m₀ y) = rfm D q tq e m₀ := by
  funext y
  unfold rfm
  by_cases h1 : y = Str.ofString "found"
  · subst h1; with_unfolding_all rfl
  · by_cases h2 : y = Str.ofString "at"
    · rw [if_pos h2, if_neg h1, if_pos h2]
    · by_cases h3 : y = Str.ofString "end"
      · rw [if_neg h2, if_pos h3, if_neg h1, if_neg h2, if_pos h3]
      · simp only [if_neg h1, if_neg h2, if_neg h3]
noncomputable def rfJ (x : List UInt8) (m₀ : Str → Option Value) (n : Nat) (m : Str → Option Value) (news : List (Addr × Obj)) : Prop :=
  ∃ D vs fs p tp eo k, m = rfm D p tp eo m₀ ∧ news = [(D, listOf vs.toArray vs.length)] ∧ Bys vs fs ∧ (vs.length : Int) ≤ p ∧ p ≤ x.length ∧ n = x.length - p.toNat ∧ x.length - p.toNat ≤ k ∧ rd x.length x = (rd k (x.drop p.toNat)).map (fs ++ ·)
theorem rf_start {prog : Program} {w : World} {A : Around} {E : Value → Shared → Prop} {Q : Flow → Shared → Prop} {s : Shared} {env : Env} {h₀ : Heap} {L D : Addr} {x : List UInt8} {m₀ : Str → Option Value} {t : Tok} {n : Nat} {test : PySem.Expr} {body : List Stmt} {pos : Pos}
    (F : Fr h₀ L s.heap (fun y => if y = Str.ofString "found" then some (.ref D) else if y = Str.ofString "at" then some (.int 0 t) else m₀ y)) (N : News h₀ L s.heap [(D, listOf #[] n)]) (hn : n = 0)
    (turn : ∀ D vs fs p tp eo k h₁ tk₁, Fr h₀ L h₁ (rfm D p tp eo m₀) → News h₀ L h₁ [(D, listOf vs.toArray vs.length)] → Bys vs fs → (vs.length : Int) ≤ p → p ≤ x.length → x.length - p.toNat ≤ k → rd x.length x = (rd k (x.drop p.toNat)).map (fs ++ ·) →
      wpAny (model prog w) A (isTrue test env (eval test env)) (fun b s₂ =>
        if b = true then wpAny (model prog w) A (execs body env) (WhileStep2 h₀ L s (rfJ x m₀) Q (x.length - p.toNat)) E s₂ else Q .next s₂) E { s with heap := h₁, toks := tk₁ })
    (hE : PassesOwn (model prog w) A env E := by passes_own) :
    wpAny (model prog w) A (exec (.While test body [] pos) env) Q E s := by
  subst hn
  have e : (fun y => if y = Str.ofString "found" then some (Value.ref D) else if y = Str.ofString "at" then some (.int 0 t) else m₀ y) = rfm D 0 t (m₀ (Str.ofString "end")) m₀ := by
    funext y
    unfold rfm
    by_cases h1 : y = Str.ofString "found"
    · rw [if_pos h1, if_pos h1]
    · by_cases h2 : y = Str.ofString "at"
      · rw [if_neg h1, if_pos h2, if_neg h1, if_pos h2]
      · rw [if_neg h1, if_neg h2, if_neg h1, if_neg h2]
        by_cases h3 : y = Str.ofString "end"
        · rw [if_pos h3, h3]
        · rw [if_neg h3]
  rw [e] at F
  refine While_inv2 (rfJ x m₀) (n₀ := x.length) F N ⟨D, [], [], 0, t, _, x.length, rfl, rfl, .nil, Int.le_refl _, by omega, rfl, by omega, by simp⟩ (fun n m₁ news₁ h₁ tk₁ F₁ N₁ J₁ => ?_) hE
  refine cps fun G9 r9 => ?_
  obtain ⟨D, vs, fs, p, tp, eo, k, rfl, rfl, hb, hv, hp, rfl, hk, hr⟩ := J₁
  refine r9 ?_
  clear r9 G9
  exact turn D vs fs p tp eo k h₁ tk₁ F₁ N₁ hb hv hp hk hr
theorem rfJ_next {h₀ h' : Heap} {L D : Addr} {s : Shared} {x f : List UInt8} {m₀ : Str → Option Value} {Q : Flow → Shared → Prop} {p : Int} {tp tq t : Tok} {eo e : Option Value} {k tk : Nat} {vs : List Value} {fs : List (List UInt8)}
    (F : Fr h₀ L h' (fun y => if y = Str.ofString "at" then some (.int (p + 2 + whole (cut x (some p) (some (p + 2)))) tq) else if y = Str.ofString "end" then e else rfm D p tp eo m₀ y))
    (N : News h₀ L h' [(D, listOf (vs.toArray.push (.bytes f.toArray t)) (vs.length + 1))]) (hb : Bys vs fs) (hv : (vs.length : Int) ≤ p) (hk : x.length - p.toNat ≤ k) (hr : rd x.length x = (rd k (x.drop p.toNat)).map (fs ++ ·))
    (h2 : 2 ≤ (x.length : Int) - p) (h3 : p + 2 + whole (cut x (some p) (some (p + 2))) ≤ (x.length : Int)) (hf : f = cut x (some (p + 2)) (some (p + 2 + whole (cut x (some p) (some (p + 2)))))) :
    WhileStep2 h₀ L s (rfJ x m₀) Q (x.length - p.toNat) .next { s with heap := h', toks := tk } := by
  obtain ⟨q, rfl⟩ := Int.eq_ofNat_of_zero_le (Int.le_trans (Int.natCast_nonneg _) hv)
  have wn := whole_nonneg (cut x (some (q : Int)) (some ((q : Int) + 2)))
  have ec : cut x (some (q : Int)) (some ((q : Int) + 2)) = (x.drop q).take 2 := cut_natN (a := q) (b := 2) (by omega)
  generalize hW : whole (cut x (some (q : Int)) (some ((q : Int) + 2))) = W at *
  obtain ⟨v, rfl⟩ := Int.eq_ofNat_of_zero_le wn
  have ef : f = (x.drop (q + 2)).take v := hf.trans (cut_natN (a := q + 2) (b := v) (by omega))
  rw [Int.toNat_natCast] at hk hr ⊢
  obtain ⟨k, rfl⟩ : ∃ k', k = k' + 1 := ⟨k - 1, by omega⟩
  rw [rfm_next] at F
  refine ⟨h', tk, _, _, x.length - (q + 2 + v), rfl, F, N, by omega, D, vs ++ [.bytes f.toArray t], fs ++ [f], (q : Int) + 2 + (v : Int), tq, e, k, rfl, ?_, hb.push, ?_, h3, rfl, (by show x.length - (q + 2 + v) ≤ k; omega), ?_⟩
  · simp
  · rw [List.length_append]; simp only [List.length_cons, List.length_nil]; omega
  · rw [ec] at hW
    have e1 := rd_some (k := k) (y := x.drop q) (by rw [List.length_drop]; omega) (by rw [hW, List.length_drop]; omega)
    rw [hW, List.drop_drop, List.drop_drop, Int.toNat_natCast, ← Nat.add_assoc] at e1
    rw [hr, e1, ef, Option.map_map, show ((q : Int) + 2 + (v : Int)).toNat = q + 2 + v from rfl]
    congr 1
    funext r
    simp
set_option maxHeartbeats 4000000 in
theorem fields_spec {prog : Program} {w : World} {x : List UInt8} {many : Option Int} {tx tm : Tok} (hx : x.length ≤ 500) :
    CtrE prog w 103 [.bytes x.toArray tx, manyV many tm] 10 40 (fun _ => True)
      (fun h h' r => ∃ D vs fs n, r = .ref D ∧ h.get? D = none ∧ h'.get? D = some (listOf vs.toArray n) ∧ Bys vs fs ∧ rd x.length x = some fs ∧ manyOk many fs.length)
      (fun c => c = 306 ∧ ∀ fs, rd x.length x = some fs → ¬ manyOk many fs.length) := by
  unfold CtrE
  intro dp un gd cn cs a ccd cl outer A₀ base h₀ L m s p loose mean mg mb Q E B F X T hk hd hu _ hret hbad
  have N : News h₀ L s.heap [] := News.nil
  obtain ⟨mv, hmv⟩ : ∃ mv, mv = manyV many tm := ⟨_, rfl⟩
  rw [← hmv]
  refine wpAny_call ?_
  walk_at "mine enter"
  (walk_at "mine shade"; rename_i g' L' h' tk' F' N' B' X' T' S' e'; walk_at "mine light")
  have hL9 : s.heap.get? L' = none := Heap.get?_none_of_le (Nat.le_of_eq e'.symm)
  k_steps
  have F9 := ‹Fr g' L' _ _›
  have N9 : News g' L' _ [(_, listOf #[] 0)] := fun q hq => ‹News g' L' _ [_, (_, listOf #[] 0)]› q (.tail _ hq)
  refine rf_start (x := x) F9 N9 rfl (fun D vs fs p tp eo k h₁ tk₁ F₁ N₁ hb hv hp hk hr => ?_)
  clear F9 N9
  obtain ⟨p, rfl⟩ := Int.eq_ofNat_of_zero_le (Int.le_trans (Int.natCast_nonneg _) hv)
  rw [Int.toNat_natCast] at hr
  k_steps
  · have hq := ‹MadeQ _ _ _ _›
    refine raises_leave rfl rfl hL9 (Keeps.fr S' ‹_›) (raises_made ‹_› ‹_› rfl ‹_› hq) (fun h3 r3 => ?_)
    refine hbad 306 _ h3 _ ⟨rfl, fun fs hfs => ?_⟩ r3
    rw [rd_none1 (k := k) (y := x.drop p) (by rw [List.length_drop]; omega) (by rw [List.length_drop]; omega)] at hr
    rw [hr] at hfs
    cases hfs
  · have hq := ‹MadeQ _ _ _ _›
    refine raises_leave rfl rfl hL9 (Keeps.fr S' ‹_›) (raises_made ‹_› ‹_› rfl ‹_› hq) (fun h3 r3 => ?_)
    refine hbad 306 _ h3 _ ⟨rfl, fun fs hfs => ?_⟩ r3
    have ec : cut x (some (p : Int)) (some ((p : Int) + 2)) = (x.drop p).take 2 := cut_natN (a := p) (b := 2) (by omega)
    have ew : whole (cut x (some (p : Int)) (some ((p : Int) + 2))) = whole ((x.drop p).take 2) := by rw [ec]
    rw [rd_none2 (k := k) (y := x.drop p) (by rw [List.length_drop]; omega) (by rw [List.length_drop]; omega)] at hr
    rw [hr] at hfs
    cases hfs
  · exact rfJ_next ‹_› ‹_› hb hv hk hr (by omega) (by omega) ‹_›
  · have hp9 : p = x.length := by omega
    rw [hp9, List.drop_length, rd_nil, Option.map_some, List.append_nil] at hr
    have hv9 := hb.length
    have nD : ∀ h', News g' L' h' [(D, listOf vs.toArray vs.length)] → s.heap.get? D = none := fun h' N => by
      cases q : s.heap.get? D with
      | none => rfl
      | some o => have := (N _ (.head _)).2.2; rw [S' _ _ q (by simp)] at this; cases this
    cases many with
    | none =>
      dsimp only [manyV] at hmv
      subst hmv
      k_steps
      exact hret _ _ _ (Keeps.fr S' ‹_›) ⟨D, vs, fs, _, rfl, nD _ ‹_›, ((‹News g' L' _ [(D, _)]›) _ (.head _)).1, hb, hr, trivial⟩
    | some k =>
      dsimp only [manyV] at hmv
      subst hmv
      k_steps
      · have hq := ‹MadeQ _ _ _ _›
        refine raises_leave rfl rfl hL9 (Keeps.fr S' ‹_›) (raises_made ‹_› ‹_› rfl ‹_› hq) (fun h3 r3 => ?_)
        refine hbad 306 _ h3 _ ⟨rfl, fun fs' hfs hm => ?_⟩ r3
        rw [hr] at hfs
        cases hfs
        have hm : (fs.length : Int) = k := hm
        rw [← hv9] at hm
        contradiction
      · refine hret _ _ _ (Keeps.fr S' ‹_›) ⟨D, vs, fs, _, rfl, nD _ ‹_›, ((‹News g' L' _ [(D, _)]›) _ (.head _)).1, hb, hr, ?_⟩
        show (fs.length : Int) = k
        rw [← hv9]
        first | assumption | exact Decidable.not_not.mp ‹_› | omega
theorem off_SM : True := by
  w_top off
  trivial
noncomputable abbrev Msg := Int × List UInt8 × List UInt8
/-- the messages of octets -/
noncomputable def sp : Nat → Int → List UInt8 → Option (List Msg × List UInt8)
  | 0, _, y => if y.length < 4 then some ([], y) else none
  | n + 1, most, y => if y.length < 4 then some ([], y) else
      let W := whole ((y.drop 1).take 3)
      if W > most then none else if (y.length : Int) < 4 + W then some ([], y) else
        (sp n most (y.drop (4 + W.toNat))).map fun r => (((((y.getD 0 0).toNat : Int), (y.drop 4).take W.toNat, y.take (4 + W.toNat)) : Msg) :: r.1, r.2)
theorem sp_short {k : Nat} {most : Int} {y : List UInt8} (h : y.length < 4) : sp k most y = some ([], y) := by
  cases k <;> (unfold sp; rw [if_pos h])
theorem sp_over {k : Nat} {most : Int} {y : List UInt8} (h : 4 ≤ y.length) (h1 : whole ((y.drop 1).take 3) > most) : sp k most y = none := by
  cases k with
  | zero => unfold sp; rw [if_neg (by omega)]
  | succ k => unfold sp; rw [if_neg (by omega)]; dsimp only; rw [if_pos h1]
theorem sp_part {k : Nat} {most : Int} {y : List UInt8} (h0 : 4 ≤ y.length) (h : ¬ whole ((y.drop 1).take 3) > most) (h1 : (y.length : Int) < 4 + whole ((y.drop 1).take 3)) : sp (k + 1) most y = some ([], y) := by
  unfold sp; rw [if_neg (by omega)]; dsimp only; rw [if_neg h, if_pos h1]
theorem sp_more {k : Nat} {most : Int} {y : List UInt8} (h0 : 4 ≤ y.length) (h : ¬ whole ((y.drop 1).take 3) > most) (h1 : ¬ (y.length : Int) < 4 + whole ((y.drop 1).take 3)) :
    sp (k + 1) most y = (sp k most (y.drop (4 + (whole ((y.drop 1).take 3)).toNat))).map fun r =>
      (((((y.getD 0 0).toNat : Int), (y.drop 4).take (whole ((y.drop 1).take 3)).toNat, y.take (4 + (whole ((y.drop 1).take 3)).toNat)) : Msg) :: r.1, r.2) := by
  rw [sp]; rw [if_neg (by omega)]; dsimp only; rw [if_neg h, if_neg h1]
noncomputable abbrev msgO (k : Int) (b m : List UInt8) (t1 t2 t3 : Tok) : Obj := { cls := .type "tuple", data := .seq #[.int k t1, .bytes b.toArray t2, .bytes m.toArray t3] }
/-- messages as values -/
noncomputable def Msgs (P : Addr → Obj → Prop) (vs : List Value) (xs : List Msg) : Prop := All2 (fun v x => ∃ a t1 t2 t3, v = .ref a ∧ P a (msgO x.1 x.2.1 x.2.2 t1 t2 t3)) vs xs
theorem Msgs.mono {P P' : Addr → Obj → Prop} (k : ∀ a o, P a o → P' a o) {vs : List Value} {xs : List Msg} (h : Msgs P vs xs) : Msgs P' vs xs := All2.mono h fun _ _ q => by
  obtain ⟨a, t1, t2, t3, e, q⟩ := q; exact ⟨a, t1, t2, t3, e, k _ _ q⟩
theorem Msgs.push {P : Addr → Obj → Prop} {a : Addr} {k : Int} {b m : List UInt8} {t1 t2 t3 : Tok} (hp : P a (msgO k b m t1 t2 t3)) {vs : List Value} {xs : List Msg} (h : Msgs P vs xs) : Msgs P (vs ++ [.ref a]) (xs ++ [(k, b, m)]) := All2.snoc h ⟨a, t1, t2, t3, rfl, hp⟩
/-- the locals of split_messages in its loop -/
noncomputable def smm (D : Addr) (p : Int) (tp : Tok) (so eo : Option Value) (m₀ : Str → Option Value) : Str → Option Value := fun y =>
  if y = Str.ofString "found" then some (.ref D) else if y = Str.ofString "at" then some (.int p tp) else if y = Str.ofString "end" then eo else if y = Str.ofString "size" then so else m₀ y
theorem smm_next (D : Addr) (p q : Int) (tp tq : Tok) (so eo s e : Option Value) (m₀ : Str → Option Value) :
    (fun y => if y = Str.ofString "at" then some (.int q tq) else if y = Str.ofString "end" then e else if y = Str.ofString "size" then s else smm D p tp so eo m₀ y) = smm D q tq s e m₀ := by
  funext y
  unfold smm
  by_cases h1 : y = Str.ofString "found"
  · subst h1; with_unfolding_all rfl
  · by_cases h2 : y = Str.ofString "at"
    · rw [if_pos h2, if_neg h1, if_pos h2]
    · by_cases h3 : y = Str.ofString "end"
      · rw [if_neg h2, if_pos h3, if_neg h1, if_neg h2, if_pos h3]
      · by_cases h4 : y = Str.ofString "size"
        · rw [if_neg h2, if_neg h3, if_pos h4, if_neg h1, if_neg h2, if_neg h3, if_pos h4]
        · simp only [if_neg h1, if_neg h2, if_neg h3, if_neg h4]
noncomputable def smJ (x : List UInt8) (most : Int) (m₀ : Str → Option Value) (n : Nat) (m : Str → Option Value) (news : List (Addr × Obj)) : Prop :=
  ∃ D vs tups xs p tp so eo k, m = smm D p tp so eo m₀ ∧ news = (D, listOf vs.toArray vs.length) :: tups ∧ Msgs (fun a o => (a, o) ∈ tups) vs xs ∧ (∀ q ∈ tups, q.1 ≠ D) ∧ (vs.length : Int) ≤ p ∧ p ≤ x.length ∧ n = x.length - p.toNat ∧ x.length - p.toNat ≤ k ∧
    sp x.length most x = (sp k most (x.drop p.toNat)).map (fun r => (xs ++ r.1, r.2))
theorem sm_start {prog : Program} {w : World} {A : Around} {E : Value → Shared → Prop} {Q : Flow → Shared → Prop} {s : Shared} {env : Env} {h₀ : Heap} {L D : Addr} {x : List UInt8} {most : Int} {m₀ : Str → Option Value} {t : Tok} {n : Nat} {test : PySem.Expr} {body : List Stmt} {pos : Pos}
    (F : Fr h₀ L s.heap (fun y => if y = Str.ofString "found" then some (.ref D) else if y = Str.ofString "at" then some (.int 0 t) else m₀ y)) (N : News h₀ L s.heap [(D, listOf #[] n)]) (hn : n = 0)
    (turn : ∀ D vs tups xs p tp so eo k h₁ tk₁, Fr h₀ L h₁ (smm D p tp so eo m₀) → News h₀ L h₁ ((D, listOf vs.toArray vs.length) :: tups) → Msgs (fun a o => (a, o) ∈ tups) vs xs → (∀ q ∈ tups, q.1 ≠ D) → (vs.length : Int) ≤ p → p ≤ x.length → x.length - p.toNat ≤ k →
      sp x.length most x = (sp k most (x.drop p.toNat)).map (fun r => (xs ++ r.1, r.2)) →
      wpAny (model prog w) A (isTrue test env (eval test env)) (fun b s₂ =>
        if b = true then wpAny (model prog w) A (execs body env) (WhileStep2 h₀ L s (smJ x most m₀) Q (x.length - p.toNat)) E s₂ else Q .next s₂) E { s with heap := h₁, toks := tk₁ })
    (hE : PassesOwn (model prog w) A env E := by passes_own) :
    wpAny (model prog w) A (exec (.While test body [] pos) env) Q E s := by
  subst hn
  have e : (fun y => if y = Str.ofString "found" then some (Value.ref D) else if y = Str.ofString "at" then some (.int 0 t) else m₀ y) = smm D 0 t (m₀ (Str.ofString "size")) (m₀ (Str.ofString "end")) m₀ := by
    funext y
    unfold smm
    by_cases h1 : y = Str.ofString "found"
    · rw [if_pos h1, if_pos h1]
    · by_cases h2 : y = Str.ofString "at"
      · rw [if_neg h1, if_pos h2, if_neg h1, if_pos h2]
      · rw [if_neg h1, if_neg h2, if_neg h1, if_neg h2]
        by_cases h3 : y = Str.ofString "end"
        · rw [if_pos h3, h3]
        · rw [if_neg h3]
          by_cases h4 : y = Str.ofString "size"
          · rw [if_pos h4, h4]
          · rw [if_neg h4]
  rw [e] at F
  refine While_inv2 (smJ x most m₀) (n₀ := x.length) F N ⟨D, [], [], [], 0, t, _, _, x.length, rfl, rfl, .nil, (fun _ q => nomatch q), Int.le_refl _, by omega, rfl, by omega, by simp⟩ (fun n m₁ news₁ h₁ tk₁ F₁ N₁ J₁ => ?_) hE
  refine cps fun G9 r9 => ?_
  obtain ⟨D, vs, tups, xs, p, tp, so, eo, k, rfl, rfl, hb, hne, hv, hp, rfl, hk, hr⟩ := J₁
  refine r9 ?_
  clear r9 G9
  exact turn D vs tups xs p tp so eo k h₁ tk₁ F₁ N₁ hb hne hv hp hk hr
theorem words29 : True := by
  (k_with "call builtin:list.append" => (k_here; (with_reducible show wpAny _ _ (call (Value.builtin _) [Value.ref _, _]) _ _ _); (refine append_K (by k_asm) (by k_asm) (Upd.tail (by exact Nat.ne_of_gt (‹_ ∧ AllLt _ _›).1) (Upd.head (by assumption))) ?_ (by (rw [List.size_toArray, sizeLine_eq]; omega)); k_whole); intro _ _ _; (try k_sweep)))
  trivial
theorem smJ_next {h₀ h' : Heap} {L D T : Addr} {s : Shared} {x b y : List UInt8} {most : Int} {m₀ : Str → Option Value} {Q : Flow → Shared → Prop} {p : Int} {tp tq t1 t2 t3 : Tok} {so eo so' e : Option Value} {k tk : Nat} {vs : List Value} {tups : List (Addr × Obj)} {xs : List Msg}
    (F : Fr h₀ L h' (fun y => if y = Str.ofString "at" then some (.int (p + 4 + whole (cut x (some (p + 1)) (some (p + 1 + 3)))) tq) else if y = Str.ofString "end" then e else if y = Str.ofString "size" then so' else smm D p tp so eo m₀ y))
    (N : News h₀ L h' ((T, msgO (x.getD p.toNat 0).toNat b y t1 t2 t3) :: (D, listOf (vs.toArray.push (.ref T)) (vs.length + 1)) :: tups)) (hb : Msgs (fun a o => (a, o) ∈ tups) vs xs) (hne : ∀ q ∈ tups, q.1 ≠ D) (hT : D < T) (hv : (vs.length : Int) ≤ p)
    (hk : x.length - p.toNat ≤ k) (hr : sp x.length most x = (sp k most (x.drop p.toNat)).map (fun r => (xs ++ r.1, r.2)))
    (h2 : 4 ≤ (x.length : Int) - p) (hm : ¬ whole (cut x (some (p + 1)) (some (p + 1 + 3))) > most) (h3 : ¬ (x.length : Int) - p < 4 + whole (cut x (some (p + 1)) (some (p + 1 + 3))))
    (hb' : b = cut x (some (p + 4)) (some (p + 4 + whole (cut x (some (p + 1)) (some (p + 1 + 3)))))) (hy : y = cut x (some p) (some (p + 4 + whole (cut x (some (p + 1)) (some (p + 1 + 3)))))) :
    WhileStep2 h₀ L s (smJ x most m₀) Q (x.length - p.toNat) .next { s with heap := h', toks := tk } := by
  obtain ⟨p, rfl⟩ := Int.eq_ofNat_of_zero_le (Int.le_trans (Int.natCast_nonneg _) hv)
  have wn := whole_nonneg (cut x (some ((p : Int) + 1)) (some ((p : Int) + 1 + 3)))
  have ec : cut x (some ((p : Int) + 1)) (some ((p : Int) + 1 + 3)) = (x.drop (p + 1)).take 3 := cut_natN (a := p + 1) (b := 3) (by omega)
  generalize hW : whole (cut x (some ((p : Int) + 1)) (some ((p : Int) + 1 + 3))) = W at *
  obtain ⟨v, rfl⟩ := Int.eq_ofNat_of_zero_le wn
  have eb : b = (x.drop (p + 4)).take v := hb'.trans (cut_natN (a := p + 4) (b := v) (by omega))
  have ey : y = (x.drop p).take (4 + v) := by
    rw [hy, show (p : Int) + 4 + (v : Int) = ((p + (4 + v) : Nat) : Int) from Int.add_assoc _ _ _]; exact cut_natN (by omega)
  rw [Int.toNat_natCast] at hk hr ⊢
  obtain ⟨k, rfl⟩ : ∃ k', k = k' + 1 := ⟨k - 1, by omega⟩
  rw [smm_next] at F
  refine ⟨h', tk, _, (D, listOf (vs ++ [Value.ref T]).toArray (vs ++ [Value.ref T]).length) :: (T, msgO (x.getD p 0).toNat b y t1 t2 t3) :: tups, x.length - (p + 4 + v), rfl, F, fun q hq => ?_, by omega,
    D, vs ++ [Value.ref T], (T, msgO (x.getD p 0).toNat b y t1 t2 t3) :: tups, xs ++ [(((x.getD p 0).toNat : Int), b, y)], (p : Int) + 4 + (v : Int), tq, so', e, k, rfl, rfl, Msgs.push (List.Mem.head _) (hb.mono fun _ _ z => List.Mem.tail _ z), ?_, ?_, (by omega), rfl, (by show x.length - (p + 4 + v) ≤ k; omega), ?_⟩
  · rcases List.mem_cons.mp hq with rfl | hq
    · have := N _ (.tail _ (.head _))
      simpa using this
    · rcases List.mem_cons.mp hq with rfl | hq
      · exact N _ (.head _)
      · exact N _ (.tail _ (.tail _ hq))
  · intro q hq
    rcases List.mem_cons.mp hq with rfl | hq
    · exact Nat.ne_of_gt hT
    · exact hne q hq
  · rw [List.length_append]; simp only [List.length_cons, List.length_nil]; omega
  · rw [ec] at hW
    have e3 : (x.drop p).drop 1 = x.drop (p + 1) := List.drop_drop
    rw [← e3] at hW
    have e1 := sp_more (k := k) (most := most) (y := x.drop p) (by rw [List.length_drop]; omega) (by rw [hW]; exact hm) (by rw [hW, List.length_drop]; omega)
    rw [hW, List.drop_drop, List.drop_drop, Int.toNat_natCast, ← Nat.add_assoc] at e1
    rw [hr, e1, eb, ey, Option.map_map, show ((p : Int) + 4 + (v : Int)).toNat = p + 4 + v from rfl]
    have e4 : (x.drop p).getD 0 0 = x.getD p 0 := by simp [List.getD]
    rw [e4]
    congr 1
    funext r
    simp
set_option maxHeartbeats 4000000 in
theorem split_spec {prog : Program} {w : World} {x : List UInt8} {most : Int} {tx tm : Tok} (hx : x.length ≤ 500) (h0 : 0 ≤ most) :
    CtrE prog w 89 [.bytes x.toArray tx, .int most tm] 10 40 (fun _ => True)
      (fun h h' r => ∃ T D vs xs n t1 rest, r = .ref T ∧ h.get? T = none ∧ h.get? D = none ∧ h'.get? T = some { cls := .type "tuple", data := .seq #[.ref D, .bytes rest.toArray t1] } ∧ h'.get? D = some (listOf vs.toArray n) ∧
        Msgs (fun a o => h.get? a = none ∧ h'.get? a = some o) vs xs ∧ sp x.length most x = some (xs, rest))
      (fun c => c = 306 ∧ sp x.length most x = none) := by
  unfold CtrE
  intro dp un gd cn cs a ccd cl outer A₀ base h₀ L m s p loose mean mg mb Q E B F X T hk hd hu _ hret hbad
  have N : News h₀ L s.heap [] := News.nil
  refine wpAny_call ?_
  walk_at "mine enter"
  (walk_at "mine shade"; rename_i g' L' h' tk' F' N' B' X' T' S' e'; walk_at "mine light")
  have hL9 : s.heap.get? L' = none := Heap.get?_none_of_le (Nat.le_of_eq e'.symm)
  k_steps
  have F9 := ‹Fr g' L' _ _›
  have N9 : News g' L' _ [(_, listOf #[] 0)] := fun q hq => ‹News g' L' _ [_, (_, listOf #[] 0)]› q (.tail _ hq)
  refine sm_start (x := x) (most := most) F9 N9 rfl (fun D vs tups xs p tp so eo k h₁ tk₁ F₁ N₁ hb hne hv hp hk hr => ?_)
  clear F9 N9
  obtain ⟨p, rfl⟩ := Int.eq_ofNat_of_zero_le (Int.le_trans (Int.natCast_nonneg _) hv)
  rw [Int.toNat_natCast] at hr
  have fin : ∀ (h' : Heap) (m' : Str → Option Value) (T tk : Nat) (t1 : Tok) (y : List UInt8), Fr g' L' h' m' → News g' L' h' ((T, { cls := .type "tuple", data := .seq #[.ref D, .bytes y.toArray t1] }) :: (D, listOf vs.toArray vs.length) :: tups) →
      sp x.length most x = some (xs ++ [], x.drop p) → y = cut x (some (p : Int)) none → Q (.ref T) { s with heap := h', toks := tk } := fun h' m' T tk t1 y F N hs hy => by
    have old : ∀ a, g'.get? a = none → s.heap.get? a = none := fun a ha => kts_none S'.all ha
    have ey : y = x.drop p := by
      rw [hy]; unfold cut
      simp only [Option.elim]
      rw [show clipAt x.length (p : Int) = p by unfold clipAt; rw [if_neg (by omega), Int.min_eq_left hp, Int.max_eq_right (by omega)]; rfl, ← List.length_drop, List.take_length]
    subst ey
    rw [List.append_nil] at hs
    exact hret _ _ _ (Keeps.fr S' F) ⟨T, D, vs, xs, _, t1, _, rfl, old _ (N _ (.head _)).2.2, old _ (N _ (.tail _ (.head _))).2.2, (N _ (.head _)).1, (N _ (.tail _ (.head _))).1,
      hb.mono fun a o z => ⟨old _ (N _ (.tail _ (.tail _ z))).2.2, (N _ (.tail _ (.tail _ z))).1⟩, hs⟩
  k_steps
  · have hq := ‹MadeQ _ _ _ _›
    have wn := whole_nonneg (cut x (some (p + 1)) (some (p + 1 + 3)))
    have ec : cut x (some ((p : Int) + 1)) (some ((p : Int) + 1 + 3)) = (x.drop (p + 1)).take 3 := cut_natN (a := p + 1) (b := 3) (by omega)
    have ew : whole (cut x (some ((p : Int) + 1)) (some ((p : Int) + 1 + 3))) = whole (((x.drop p).drop 1).take 3) := by
      rw [ec, List.drop_drop]
    refine raises_leave rfl rfl hL9 (Keeps.fr S' ‹_›) (raises_made ‹_› ‹_› rfl ‹_› hq) (fun h3 r3 => ?_)
    refine hbad 306 _ h3 _ ⟨rfl, ?_⟩ r3
    rw [hr, sp_over (k := k) (most := most) (y := x.drop p) (by rw [List.length_drop]; omega) (by rw [← ew]; assumption)]
    rfl
  · dsimp only [WhileStep2]
    k_steps
    refine fin _ _ _ _ _ _ ‹_› ‹_› ?_ ‹_›
    have wn := whole_nonneg (cut x (some (p + 1)) (some (p + 1 + 3)))
    have ec : cut x (some ((p : Int) + 1)) (some ((p : Int) + 1 + 3)) = (x.drop (p + 1)).take 3 := cut_natN (a := p + 1) (b := 3) (by omega)
    have ew : whole (cut x (some ((p : Int) + 1)) (some ((p : Int) + 1 + 3))) = whole (((x.drop p).drop 1).take 3) := by
      rw [ec, List.drop_drop]
    obtain ⟨k, rfl⟩ : ∃ k', k = k' + 1 := ⟨k - 1, by omega⟩
    rw [hr, sp_part (k := k) (most := most) (y := x.drop p) (by rw [List.length_drop]; omega) (by rw [← ew]; assumption) (by rw [← ew, List.length_drop]; omega)]
    rfl
  · exact smJ_next ‹_› ‹_› hb hne (‹_ ∧ AllLt _ _›).1 hv hk hr (by omega) ‹_› (by omega) ‹_› ‹_›
  · refine fin _ _ _ _ _ _ ‹_› ‹_› ?_ ‹_›
    rw [hr, sp_short (k := k) (most := most) (y := x.drop p) (by rw [List.length_drop]; omega)]
    rfl
theorem off_RD : True := by
  w_top off
  trivial
section
variable {prog : Program} {w : World} {f : Addr} {vs : List Value} {dd uu : Nat} {pre : Heap → Prop} {post : Heap → Heap → Value → Prop} {bad : Int → Prop}
theorem CtrE.use (C : CtrE prog w f vs dd uu pre post bad) {dp un : Nat} {gd : Option (List Code)} {cn : Str} {cs : Scope} {a : Addr} {ccd : Value} {cl : List (Str × Addr)} {outer : List Env} {A₀ : Around} {base h₀ : Heap} {L : Addr} {m : Str → Option Value} {s : Shared}
    {p : Program} {loose : List Str} {mean : ExcName → Option Value} {mg mb : Str → Option Value} {Q E : Value → Shared → Prop}
    (B : Below A₀ base outer h₀ := by k_asm) (F : Fr h₀ L s.heap m := by k_asm) (X : (hd.heap_1 w.params).In h₀ := by k_asm) (T : Top p loose mean mg mb h₀ := by k_asm) (hk : cs.kind = .function := by first | exact rfl | assumption) (hd : dp + dd < recursionLimit := by ktr_room) (hu : un + uu < cLine := by ktr_units) (hp : pre s.heap := by first | trivial | assumption)
    (ret : ∀ r h' tk', Keeps [] s.heap h' → post s.heap h' r → Q r { s with heap := h', toks := tk' })
    (err : ∀ c e h' tk', bad c → Raises (envX cn cs L a ccd cl :: outer) s.heap c e h' → E (.ref e) { s with heap := h', toks := tk' }) :
    wpAny (model prog w) (ktrTop dp un gd cn cs L a ccd cl outer) (call (.ref f) vs) Q E s := C _ _ _ _ _ _ _ _ _ _ _ _ _ _ _ _ _ _ _ _ _ _ B F X T hk hd hu hp ret err
end
theorem news_addN {h₀ h h' : Heap} {L r : Addr} {m : Str → Option Value} {o : Obj} {news : List (Addr × Obj)} (F : Fr h₀ L h m) (N : News h₀ L h' news) (hr : h.get? r = none) (ho : h'.get? r = some o) : News h₀ L h' ((r, o) :: news) := by
  intro p hp
  rcases List.mem_cons.mp hp with rfl | hp
  · refine ⟨ho, fun z => ?_, kts_none F.keep hr⟩
    refine cps fun G9 r9 => ?_
    obtain ⟨o', es, ep, h1, _⟩ := F.ns
    refine r9 ?_
    clear r9 G9
    dsimp only at z
    rw [z, h1] at hr; cases hr
  · exact N p hp
theorem bys1 {vs : List Value} {fs : List (List UInt8)} (b : Bys vs fs) (h : (fs.length : Int) = 1) : ∃ x t, fs = [x] ∧ vs = [.bytes x.toArray t] := by
  cases b with
  | nil => cases h
  | cons r b =>
    cases b with
    | nil => obtain ⟨t, rfl⟩ := r; exact ⟨_, t, rfl, rfl⟩
    | cons _ _ => simp only [List.length_cons] at h; omega
theorem bys2 {vs : List Value} {fs : List (List UInt8)} (b : Bys vs fs) (h : (fs.length : Int) = 2) : ∃ x y t u, fs = [x, y] ∧ vs = [.bytes x.toArray t, .bytes y.toArray u] := by
  cases b with
  | nil => cases h
  | cons r b =>
    obtain ⟨t, rfl⟩ := r
    obtain ⟨y, u, rfl, rfl⟩ := bys1 b (by simp only [List.length_cons] at h; omega)
    exact ⟨_, y, t, u, rfl, rfl⟩
theorem bys3 {vs : List Value} {fs : List (List UInt8)} (b : Bys vs fs) (h : (fs.length : Int) = 3) : ∃ x y z t u v, fs = [x, y, z] ∧ vs = [.bytes x.toArray t, .bytes y.toArray u, .bytes z.toArray v] := by
  cases b with
  | nil => cases h
  | cons r b =>
    obtain ⟨t, rfl⟩ := r
    obtain ⟨y, z, u, v, rfl, rfl⟩ := bys2 b (by simp only [List.length_cons] at h; omega)
    exact ⟨_, y, z, t, u, v, rfl, rfl⟩
theorem rd_le : ∀ {k : Nat} {x : List UInt8} {fs : List (List UInt8)}, rd k x = some fs → ∀ f ∈ fs, f.length ≤ x.length
  | _, [], fs, e, f, hf => by
    rw [rd_nil] at e; cases e; cases hf
  | 0, _ :: _, _, e, _, _ => by cases e
  | k + 1, a :: r, fs, e, f, hf => by
    have e1 : rd (k + 1) (a :: r) = if (a :: r).length < 2 then none else
      let n := (whole ((a :: r).take 2)).toNat
      if (a :: r).length < 2 + n then none else (rd k ((a :: r).drop (2 + n))).map ((((a :: r).drop 2).take n) :: ·) := by rw [rd]; intro q; cases q
    rw [e1] at e
    split at e
    · cases e
    · dsimp only at e
      split at e
      · cases e
      · obtain ⟨gs, hg, rfl⟩ := Option.map_eq_some_iff.mp e
        rcases List.mem_cons.mp hf with rfl | hf
        · rw [List.length_take, List.length_drop]; omega
        · have := rd_le hg f hf
          rw [List.length_drop] at this; omega
theorem fields_many {prog : Program} {w : World} {x : List UInt8} {k : Int} {tx tm : Tok} (hx : x.length ≤ 500) :
    CtrE prog w 103 [.bytes x.toArray tx, .int k tm] 10 40 (fun _ => True)
      (fun h h' r => ∃ D vs fs n, r = .ref D ∧ h.get? D = none ∧ h'.get? D = some (listOf vs.toArray n) ∧ Bys vs fs ∧ rd x.length x = some fs ∧ (fs.length : Int) = k)
      (fun c => c = 306 ∧ ∀ fs, rd x.length x = some fs → ¬ (fs.length : Int) = k) := fields_spec (many := some k) hx
theorem fields_none {prog : Program} {w : World} {x : List UInt8} {tx : Tok} (hx : x.length ≤ 500) :
    CtrE prog w 103 [.bytes x.toArray tx, .none] 10 40 (fun _ => True)
      (fun h h' r => ∃ D vs fs n, r = .ref D ∧ h.get? D = none ∧ h'.get? D = some (listOf vs.toArray n) ∧ Bys vs fs ∧ rd x.length x = some fs ∧ True)
      (fun c => c = 306 ∧ ∀ fs, rd x.length x = some fs → ¬ True) := fields_spec (many := none) (tm := 0) hx
theorem words30 : True := by
  (k_with "call ref" => (
  (with_reducible show wpAny _ _ (call (Value.ref 103) _ _) _ _ _);
  (first
    | refine CtrE.use (fields_many (by omega)) (ret := ?_) (err := ?_)
    | refine CtrE.use (fields_none (by omega)) (ret := ?_) (err := ?_)); k_whole;
  (focus (
    (intro _ _ _ wk wp); (refine cps fun G6 r6 => ?_); (obtain ⟨_, _, _, _, we, wf, wo, wb, wr, wl⟩ := wp); (subst we);
    (first
      | (have wq := bys3 wb wl; obtain ⟨_, _, _, _, _, _, we, wv⟩ := wq; subst we; subst wv; have wx := rd_le wr _ (.head _); have wy := rd_le wr _ (.tail _ (.head _)); have wz := rd_le wr _ (.tail _ (.tail _ (.head _))))
      | (have wq := bys2 wb wl; obtain ⟨_, _, _, _, we, wv⟩ := wq; subst we; subst wv; have wx := rd_le wr _ (.head _); have wy := rd_le wr _ (.tail _ (.head _)))
      | (have wq := bys1 wb wl; obtain ⟨_, _, we, wv⟩ := wq; subst we; subst wv; have wx := rd_le wr _ (.head _))
      | skip);
    (refine r6 ?_); (clear r6 G6);
    (have wF := fr_kept0 (by k_asm) wk); (have wN := news_addN (by k_asm) (news_kept0 (by k_asm) wk) wf wo); (clear wk); (try dsimp only); k_sweep))))
  trivial
noncomputable def rch (x : List UInt8) : Option (List UInt8 × List (List UInt8) × List UInt8) := match rd x.length x with
  | some [a, b, c] => if a.length = 8 then (rd b.length b).map fun fs => (a, fs, c) else none
  | _ => none
set_option maxHeartbeats 4000000 in
theorem rch_spec {prog : Program} {w : World} {x : List UInt8} {tx : Tok} (hx : x.length ≤ 500) :
    CtrE prog w 115 [.bytes x.toArray tx] 12 50 (fun _ => True)
      (fun h h' r => ∃ T D a c vs fs n t1 t2, r = .ref T ∧ h.get? T = none ∧ h.get? D = none ∧ h'.get? T = some { cls := .type "tuple", data := .seq #[.bytes a.toArray t1, .ref D, .bytes c.toArray t2] } ∧ h'.get? D = some (listOf vs.toArray n) ∧ Bys vs fs ∧ rch x = some (a, fs, c))
      (fun c => c = 306 ∧ rch x = none) := by
  unfold CtrE
  intro dp un gd cn cs a ccd cl outer A₀ base h₀ L m s p loose mean mg mb Q E B F X T hk hd hu _ hret hbad
  have N : News h₀ L s.heap [] := News.nil
  refine wpAny_call ?_
  walk_at "mine enter"
  (walk_at "mine shade"; rename_i g' L' h' tk' F' N' B' X' T' S' e'; walk_at "mine light")
  have hL9 : s.heap.get? L' = none := Heap.get?_none_of_le (Nat.le_of_eq e'.symm)
  k_steps
  · have hq := ‹MadeQ _ _ _ _›
    refine raises_leave rfl rfl hL9 (Keeps.fr S' ‹_›) (raises_made ‹_› ‹_› rfl ‹_› hq) (fun h3 r3 => ?_)
    refine hbad 306 _ h3 _ ⟨rfl, ?_⟩ r3
    unfold rch
    rw [‹rd x.length x = _›]
    dsimp only
    rw [if_neg (by omega)]
  · have N9 := ‹News g' L' _ ((_, { cls := .type "tuple", data := _ }) :: (_, listOf _ _) :: _)›
    have old : ∀ a, g'.get? a = none → s.heap.get? a = none := fun a ha => kts_none S'.all ha
    refine hret _ _ _ (Keeps.fr S' ‹_›) ⟨_, _, _, _, _, _, _, _, _, rfl, old _ (N9 _ (.head _)).2.2, old _ (N9 _ (.tail _ (.head _))).2.2, (N9 _ (.head _)).1, (N9 _ (.tail _ (.head _))).1, ‹Bys _ _›, ?_⟩
    unfold rch
    rw [‹rd x.length x = _›]
    dsimp only
    rw [if_pos (by omega), ‹rd (List.length _) _ = some _›]
    rfl
  · obtain ⟨rfl, hn⟩ := ‹_ = (306 : Int) ∧ _›
    refine raises_leave rfl rfl hL9 (Keeps.fr S' ‹_›) ‹_› (fun h3 r3 => ?_)
    refine hbad 306 _ h3 _ ⟨rfl, ?_⟩ r3
    unfold rch
    rw [‹rd x.length x = _›]
    dsimp only
    split
    · have : ∀ o : Option (List (List UInt8)), (∀ fs, o = some fs → ¬ True) → o = none := fun o h => by
        cases o with
        | none => rfl
        | some fs => exact absurd trivial (h fs rfl)
      rw [this _ hn]
      rfl
    · rfl
  · obtain ⟨rfl, hn⟩ := ‹_ = (306 : Int) ∧ _›
    refine raises_leave rfl rfl hL9 (Keeps.fr S' ‹_›) ‹_› (fun h3 r3 => ?_)
    refine hbad 306 _ h3 _ ⟨rfl, ?_⟩ r3
    unfold rch
    split
    · (walk_at "mine shade"; rename_i a b c e; walk_at "mine light")
      exact absurd rfl (hn _ e)
    · rfl
theorem off_RE : True := by
  w_top off
  trivial
noncomputable def rsh (x : List UInt8) : Option (List UInt8) := match rd x.length x with
  | some [a] => if a.length = 8 then some a else none
  | _ => none
noncomputable def rex (x : List UInt8) : Option (List UInt8 × List UInt8) := match rd x.length x with
  | some [a, b] => some (a, b)
  | _ => none
set_option maxHeartbeats 4000000 in
theorem rsh_spec {prog : Program} {w : World} {x : List UInt8} {tx : Tok} (hx : x.length ≤ 500) :
    CtrE prog w 129 [.bytes x.toArray tx] 12 50 (fun _ => True) (fun h h' r => ∃ a t, r = .bytes a.toArray t ∧ rsh x = some a) (fun c => c = 306 ∧ rsh x = none) := by
  unfold CtrE
  intro dp un gd cn cs a ccd cl outer A₀ base h₀ L m s p loose mean mg mb Q E B F X T hk hd hu _ hret hbad
  have N : News h₀ L s.heap [] := News.nil
  refine wpAny_call ?_
  walk_at "mine enter"
  (walk_at "mine shade"; rename_i g' L' h' tk' F' N' B' X' T' S' e'; walk_at "mine light")
  have hL9 : s.heap.get? L' = none := Heap.get?_none_of_le (Nat.le_of_eq e'.symm)
  k_steps
  · have hq := ‹MadeQ _ _ _ _›
    refine raises_leave rfl rfl hL9 (Keeps.fr S' ‹_›) (raises_made ‹_› ‹_› rfl ‹_› hq) (fun h3 r3 => ?_)
    refine hbad 306 _ h3 _ ⟨rfl, ?_⟩ r3
    unfold rsh
    rw [‹rd x.length x = _›]
    dsimp only
    rw [if_neg (by omega)]
  · refine hret _ _ _ (Keeps.fr S' ‹_›) ⟨_, _, rfl, ?_⟩
    unfold rsh
    rw [‹rd x.length x = _›]
    dsimp only
    rw [if_pos (by omega)]
  · obtain ⟨rfl, hn⟩ := ‹_ = (306 : Int) ∧ _›
    refine raises_leave rfl rfl hL9 (Keeps.fr S' ‹_›) ‹_› (fun h3 r3 => ?_)
    refine hbad 306 _ h3 _ ⟨rfl, ?_⟩ r3
    unfold rsh
    split
    · (walk_at "mine shade"; rename_i a e; walk_at "mine light")
      exact absurd rfl (hn _ e)
    · rfl
set_option maxHeartbeats 4000000 in
theorem rex_spec {prog : Program} {w : World} {x : List UInt8} {tx : Tok} (hx : x.length ≤ 500) :
    CtrE prog w 143 [.bytes x.toArray tx] 12 50 (fun _ => True)
      (fun h h' r => ∃ T a b t1 t2, r = .ref T ∧ h.get? T = none ∧ h'.get? T = some { cls := .type "tuple", data := .seq #[.bytes a.toArray t1, .bytes b.toArray t2] } ∧ rex x = some (a, b)) (fun c => c = 306 ∧ rex x = none) := by
  unfold CtrE
  intro dp un gd cn cs a ccd cl outer A₀ base h₀ L m s p loose mean mg mb Q E B F X T hk hd hu _ hret hbad
  have N : News h₀ L s.heap [] := News.nil
  refine wpAny_call ?_
  walk_at "mine enter"
  (walk_at "mine shade"; rename_i g' L' h' tk' F' N' B' X' T' S' e'; walk_at "mine light")
  have hL9 : s.heap.get? L' = none := Heap.get?_none_of_le (Nat.le_of_eq e'.symm)
  k_steps
  · have N9 := ‹News g' L' _ ((_, { cls := .type "tuple", data := .seq #[.bytes _ _, .bytes _ _] }) :: _)›
    have old : ∀ a, g'.get? a = none → s.heap.get? a = none := fun a ha => kts_none S'.all ha
    refine hret _ _ _ (Keeps.fr S' ‹_›) ⟨_, _, _, _, _, rfl, old _ (N9 _ (.head _)).2.2, (N9 _ (.head _)).1, ?_⟩
    unfold rex
    rw [‹rd x.length x = _›]
  · obtain ⟨rfl, hn⟩ := ‹_ = (306 : Int) ∧ _›
    refine raises_leave rfl rfl hL9 (Keeps.fr S' ‹_›) ‹_› (fun h3 r3 => ?_)
    refine hbad 306 _ h3 _ ⟨rfl, ?_⟩ r3
    unfold rex
    split
    · (walk_at "mine shade"; rename_i a b e; walk_at "mine light")
      exact absurd rfl (hn _ e)
    · rfl
section
open PySem.SeqAt
theorem off_EQ : True := by
  w_top off
  trivial
/-- the same atom twice -/
noncomputable def Atom (v v' : Value) : Prop := (∃ n t t', v = .int n t ∧ v' = .int n t') ∨ (∃ x t t', v = .str x t ∧ v' = .str x t') ∨ (∃ x t t', v = .bytes x t ∧ v' = .bytes x t')
/-- the same structure twice, n deep -/
noncomputable def Sm (h : Heap) (n : Nat) : Value → Value → Prop :=
  Nat.rec Atom (fun _ S v v' => Atom v v' ∨ ∃ a b vs vs', v = .ref a ∧ v' = .ref b ∧ ((h.IsList a vs.toArray ∧ h.IsList b vs'.toArray) ∨ (h.IsTuple a vs.toArray ∧ h.IsTuple b vs'.toArray)) ∧ All2 S vs vs') n
noncomputable def SmAll (h : Heap) (n : Nat) (vs vs' : List Value) : Prop := All2 (Sm h n) vs vs'
theorem atom_eq {A : Around} {s : Shared} {v v' : Value} (x : Atom v v') : EqAt A s v v' true := by
  refine cps fun G8 r8 => ?_
  rcases x with ⟨n, t, t', rfl, rfl⟩ | ⟨n, t, t', rfl, rfl⟩ | ⟨n, t, t', rfl, rfl⟩
  · refine r8 ?_
    clear r8 G8
    exact fun prog w E Q h => wpAny_eqBool_int (by rw [beq_self_eq_true]; exact h)
  · refine r8 ?_
    clear r8 G8
    exact fun prog w E Q h => wpAny_eqBool_str (by rw [decide_eq_true rfl]; exact h)
  · refine r8 ?_
    clear r8 G8
    exact fun prog w E Q h => eqBool_bytes (by rw [decide_eq_true rfl]; exact h)
theorem sm_all {n : Nat} : (List.range n).all (fun _ => true) = true := by simp
theorem sm_rc {n : Nat} (ih : ∀ {A : Around} {s : Shared} {v v' : Value}, Sm s.heap n v v' → A.units + n < cLine → EqAt A s v v' true) {A : Around} {s : Shared} {a b : Addr} {vs vs' : List Value}
    (hl : (s.heap.IsList a vs.toArray ∧ s.heap.IsList b vs'.toArray) ∨ (s.heap.IsTuple a vs.toArray ∧ s.heap.IsTuple b vs'.toArray)) (hs : SmAll s.heap n vs vs') (hu : A.units + (n + 1) < cLine) : RcAt A s (.ref a) (.ref b) true := by
  have he : ∀ j (h1 : j < vs.toArray.size) (h2 : j < vs'.toArray.size), EqAt A.in1 s vs.toArray[j] vs'.toArray[j] true := fun j h1 h2 =>
    ih (by simpa using All2.get hs j (by simpa using h1) (by simpa using h2)) (by show A.units + 1 + n < cLine; omega)
  have hz : vs.toArray.size = vs'.toArray.size := by simpa using All2.length hs
  rcases hl with ⟨l1, l2⟩ | ⟨l1, l2⟩
  · have := RcAt.lists (e := fun _ => true) l1 l2 hz (by omega) he
    rwa [sm_all] at this
  · have := RcAt.tuples (e := fun _ => true) l1 l2 (by omega) he
    rwa [sm_all, hz, beq_self_eq_true, Bool.and_true] at this
theorem sm_eq : ∀ (n : Nat) {A : Around} {s : Shared} {v v' : Value}, Sm s.heap n v v' → A.units + n < cLine → EqAt A s v v' true
  | 0, _, _, _, _, x, _ => atom_eq x
  | n + 1, A, s, v, v', x, hu => by
    rcases (show Atom v v' ∨ ∃ a b vs vs', v = .ref a ∧ v' = .ref b ∧ ((s.heap.IsList a vs.toArray ∧ s.heap.IsList b vs'.toArray) ∨ (s.heap.IsTuple a vs.toArray ∧ s.heap.IsTuple b vs'.toArray)) ∧ SmAll s.heap n vs vs' from x) with x | ⟨a, b, vs, vs', rfl, rfl, hl, hs⟩
    · exact atom_eq x
    · by_cases q : a = b
      · subst q; exact EqAt.same _
      · exact EqAt.of_refs q (sm_rc (sm_eq n) hl hs hu)
section
variable {prog : Program} {w : World} {A : Around} {E : Value → Shared → Prop} {s : Shared} {n : Nat} {a b : Addr} {Q : Value → Shared → Prop}
theorem cmp_eq {vs vs' : List Value} (hl : (s.heap.IsList a vs.toArray ∧ s.heap.IsList b vs'.toArray) ∨ (s.heap.IsTuple a vs.toArray ∧ s.heap.IsTuple b vs'.toArray)) (hs : SmAll s.heap n vs vs') (hu : A.units + (n + 1) < cLine)
    (h : Q (.bool true) s) : wpAny (model prog w) A (compareOp .Eq (.ref a) (.ref b)) Q E s := sm_rc (sm_eq n) hl hs hu prog w E Q h
theorem cmp_ne {vs vs' : List Value} (hl : (s.heap.IsList a vs.toArray ∧ s.heap.IsList b vs'.toArray) ∨ (s.heap.IsTuple a vs.toArray ∧ s.heap.IsTuple b vs'.toArray)) (hs : SmAll s.heap n vs vs') (hu : A.units + (n + 1) < cLine)
    (h : Q (.bool false) s) : wpAny (model prog w) A (compareOp .NotEq (.ref a) (.ref b)) Q E s := by
  have he : ∀ j (h1 : j < vs.toArray.size) (h2 : j < vs'.toArray.size), EqAt A.in1 s vs.toArray[j] vs'.toArray[j] true := fun j h1 h2 =>
    sm_eq n (by simpa using All2.get hs j (by simpa using h1) (by simpa using h2)) (by show A.units + 1 + n < cLine; omega)
  have hz : vs.toArray.size = vs'.toArray.size := by simpa using All2.length hs
  rcases hl with ⟨l1, l2⟩ | ⟨l1, l2⟩
  · refine RcNeAt.lists (e := fun _ => true) l1 l2 hz (by omega) he prog w E Q ?_
    rw [sm_all]; exact h
  · refine RcNeAt.tuples (e := fun _ => true) l1 l2 (by omega) he prog w E Q ?_
    rw [sm_all, hz, beq_self_eq_true, Bool.and_true]; exact h
/-- a list against the empty list -/
theorem cmp_ne_nil {vs : List Value} (l1 : s.heap.IsList a vs.toArray) (l2 : s.heap.IsList b #[]) (hu : A.units + 1 < cLine)
    (h : Q (.bool (!vs.isEmpty)) s) : wpAny (model prog w) A (compareOp .NotEq (.ref a) (.ref b)) Q E s := by
  cases vs with
  | nil => exact cmp_ne (n := 0) (vs := []) (vs' := []) (.inl ⟨l1, l2⟩) All2.nil hu h
  | cons v r => exact RcNeAt.lists_lengths l1 l2 (by simp) (by omega) prog w E Q h
noncomputable def isBy (x : List UInt8) : Value → Bool
  | .bytes y _ => decide (y.toList = x)
  | _ => false
theorem bys_any (x : List UInt8) {vs : List Value} {fs : List (List UInt8)} (h : Bys vs fs) : vs.any (isBy x) = fs.contains x := by
  induction h with
  | nil => rfl
  | @cons v f vs fs r _ ih =>
    obtain ⟨t, rfl⟩ := r
    rw [List.any_cons, ih, List.contains_cons]
    congr 1
    show decide (f.toArray.toList = x) = (x == f)
    rw [List.toList_toArray, beq_dec, Bool.eq_iff_iff]
    simp [eq_comm]
theorem bys_is {vs : List Value} {fs : List (List UInt8)} (h : Bys vs fs) (v : Value) (hv : v ∈ vs) : ∃ f t, v = .bytes (f : List UInt8).toArray t := by
  refine cps fun G9 r9 => ?_
  obtain ⟨i, hi, rfl⟩ := List.getElem_of_mem hv
  obtain ⟨t, e⟩ := All2.get h i hi (h.length ▸ hi)
  refine r9 ?_
  clear r9 G9
  exact ⟨_, t, e⟩
/-- octets in a list of octets -/
theorem in_bys {x : List UInt8} {t : Tok} {vs : List Value} {fs : List (List UInt8)} (hl : s.heap.IsList a vs.toArray) (hb : Bys vs fs) (h : Q (.bool (fs.contains x)) s) :
    wpAny (model prog w) A (compareOp .In (.bytes x.toArray t) (.ref a)) Q E s := by
  refine in_listAt (isBy x) hl (fun y hy => ?_) (by rw [← Array.any_toList, List.toList_toArray, bys_any x hb]; exact h)
  obtain ⟨f, u, rfl⟩ := bys_is hb y (by simpa using hy)
  refine fun prog w E Q hq => eqBool_bytes ?_
  show Q (decide (f.toArray.toList = x.toArray.toList)) s
  rw [List.toList_toArray (as := x)]; exact hq
end
end
theorem off_PW1 : True := by
  w_top off
  trivial
section
variable {prog : Program} {w : World} {A : Around} {E : Value → Shared → Prop} {s : Shared} {h₀ : Heap} {L D : Addr} {m : Str → Option Value} {news : List (Addr × Obj)} {g : Obj → List (Addr × Obj)}
theorem baset_K {b : Array UInt8} {k v : Int} {t u : Tok} {Q : Unit → Shared → Prop} (F : Fr h₀ L s.heap m) (N : News h₀ L s.heap news) (U : UpdF D (baObj b) news g) (h0 : 0 ≤ k) (hn : k < b.size) (hb : b.size ≤ 1000) (v0 : 0 ≤ v) (v1 : v < 256)
    (hQ : ∀ h', Fr h₀ L h' m → News h₀ L h' (g (baObj (b.setIfInBounds k.toNat v.toNat.toUInt8))) → Q () { s with heap := h' }) : wpAny (model prog w) A (setItem (.ref D) (.int k t) (.int v u)) Q E s := by
  have N1 := news_got N U
  have hd := (N1 _ (.head _)).1
  refine ba_setItem hd h0 hn hb v0 v1 ?_
  have kp : Keeps [D] s.heap (s.heap.update D (Obj.mapBytearray (·.setIfInBounds k.toNat v.toNat.toUInt8))) := fun b' o e nb => (Heap.get?_update_other _ _ (fun q => nb (by rw [q]; exact .head _))).trans e
  exact hQ _ (fr_keptU F N U kp) (news_keptU N U kp (Heap.get?_update_self (Obj.mapBytearray _) hd rfl))
theorem babytes_K {b : Array UInt8} {Q : Value → Shared → Prop} (N : News h₀ L s.heap news) (hm : (D, baObj b) ∈ news) (hb : b.size ≤ 1000) (hQ : ∀ t k, Q (.bytes b t) { s with toks := k }) : wpAny (model prog w) A (call (.type "bytes") [.ref D]) Q E s :=
  ba_bytes (N _ hm).1 hb hQ
end
theorem words31 : True := by
  (k_with "setItem ref int" => (k_here; (refine baset_K (by k_asm) (by k_asm) (by k_updF) (by omega) (by first | decide | (simp only [Array.size_setIfInBounds, Array.size_replicate]; decide) | omega) (by first | decide | (simp only [Array.size_setIfInBounds, Array.size_replicate]; decide) | omega) (by first | exact Int.fmod_nonneg_of_pos _ (by decide) | omega) (by first | exact Int.fmod_lt_of_pos _ (by decide) | omega) ?_; k_whole); intro _ _ wN; (try dsimp only at wN); (try k_sweep)))
  trivial
theorem words32 : True := by
  (k_with "call type:bytes" => (k_here; (refine babytes_K (by k_asm) (by k_mem) (by first | decide | (simp only [Array.size_setIfInBounds, Array.size_replicate]; decide) | omega) ?_; k_whole); intro _ _))
  trivial
theorem n_bytearrayD {prog : Program} {w : World} {A : Around} {E : Value → Shared → Prop} {s : Shared} {n : Int} {t : Tok} {Q : Value → Shared → Prop} (hg : A.guards = some []) (h0 : 0 ≤ n) (h1 : n ≤ 1000)
    (h : ∀ D h', s.heap.objs.size ≤ D → Keeps [] s.heap h' → h'.get? D = some (baObj (Array.replicate n.toNat 0)) → Q (.ref D) { s with heap := h' }) : wpN (model prog w) A (call (.type "bytearray") [.int n t]) Q E s :=
  n_bytearray hg h0 h1 fun h' hk hb => h _ h' (Nat.le_refl _) hk hb
theorem words33 : True := by
  (k_with "mine ncall" => ((refine n_bytearrayD rfl ?_ ?_ ?_); (focus first | decide | omega); (focus first | decide | omega); (intro _ _ wx wk wb; have wF := fr_kept0 (by k_asm) wk; have wN := news_add (by k_asm) (news_kept0 (by k_asm) wk) wx wb; clear wx wk wb; k_sweep)))
  trivial
set_option maxHeartbeats 4000000 in
theorem put3_spec {prog : Program} {w : World} {n : Int} {tn ts : Tok} (n0 : 0 ≤ n) (n1 : n < 256) :
    CtrN prog w 61 [.int n tn, .int 3 ts] 1 8 [] (fun _ => True) (fun _ _ r => ∃ t, r = .bytes [0, 0, n.toNat.toUInt8].toArray t) := by
  unfold CtrN
  intro dp un cn cs a ccd cl outer A₀ base h₀ L m s p loose mean mg mb Q E B F X N T hk hd hu _ hret
  refine wpN_call ?_
  walk_at "mine enterN"
  (walk_at "mine shade"; rename_i g' L' h' tk' F' N' B' X' T' S' e'; walk_at "mine light")
  have hq : n.fdiv (2 ^ ((8 : Int) * 3).toNat) = 0 := by
    have e : (2 : Int) ^ ((8 : Int) * 3).toNat = 16777216 := by decide
    rw [e, Int.fdiv_eq_ediv_of_nonneg _ (by decide)]
    exact Int.ediv_eq_zero_of_lt n0 (by omega)
  walk_at "mine steps"
  · exact absurd hq (by assumption)
  · have e0 : n.fmod 256 = n := by rw [Int.fmod_eq_emod_of_nonneg _ (by decide)]; exact Int.emod_eq_of_lt n0 n1
    have e1 : n.fdiv 256 = 0 := by rw [Int.fdiv_eq_ediv_of_nonneg _ (by decide)]; exact Int.ediv_eq_zero_of_lt n0 n1
    simp only [e0, e1]
    exact hret _ _ _ (Keeps.fr S' (by assumption)) ⟨_, rfl⟩
set_option maxHeartbeats 4000000 in
theorem put2_spec {prog : Program} {w : World} {n : Int} {tn ts : Tok} (n0 : 0 ≤ n) (n1 : n < 256) :
    CtrN prog w 61 [.int n tn, .int 2 ts] 1 8 [] (fun _ => True) (fun _ _ r => ∃ t, r = .bytes [0, n.toNat.toUInt8].toArray t) := by
  unfold CtrN
  intro dp un cn cs a ccd cl outer A₀ base h₀ L m s p loose mean mg mb Q E B F X N T hk hd hu _ hret
  refine wpN_call ?_
  walk_at "mine enterN"
  (walk_at "mine shade"; rename_i g' L' h' tk' F' N' B' X' T' S' e'; walk_at "mine light")
  have hq : n.fdiv (2 ^ ((8 : Int) * 2).toNat) = 0 := by
    have e : (2 : Int) ^ ((8 : Int) * 2).toNat = 65536 := by decide
    rw [e, Int.fdiv_eq_ediv_of_nonneg _ (by decide)]
    exact Int.ediv_eq_zero_of_lt n0 (by omega)
  walk_at "mine steps"
  · exact absurd hq (by assumption)
  · have e0 : n.fmod 256 = n := by rw [Int.fmod_eq_emod_of_nonneg _ (by decide)]; exact Int.emod_eq_of_lt n0 n1
    have e1 : n.fdiv 256 = 0 := by rw [Int.fdiv_eq_ediv_of_nonneg _ (by decide)]; exact Int.ediv_eq_zero_of_lt n0 n1
    simp only [e0, e1]
    exact hret _ _ _ (Keeps.fr S' (by assumption)) ⟨_, rfl⟩
set_option maxHeartbeats 4000000 in
theorem put1_spec {prog : Program} {w : World} {n : Int} {tn ts : Tok} (n0 : 0 ≤ n) (n1 : n < 256) :
    CtrN prog w 61 [.int n tn, .int 1 ts] 1 8 [] (fun _ => True) (fun _ _ r => ∃ t, r = .bytes [n.toNat.toUInt8].toArray t) := by
  unfold CtrN
  intro dp un cn cs a ccd cl outer A₀ base h₀ L m s p loose mean mg mb Q E B F X N T hk hd hu _ hret
  refine wpN_call ?_
  walk_at "mine enterN"
  (walk_at "mine shade"; rename_i g' L' h' tk' F' N' B' X' T' S' e'; walk_at "mine light")
  have hq : n.fdiv (2 ^ ((8 : Int) * 1).toNat) = 0 := by
    have e : (2 : Int) ^ ((8 : Int) * 1).toNat = 256 := by decide
    rw [e, Int.fdiv_eq_ediv_of_nonneg _ (by decide)]
    exact Int.ediv_eq_zero_of_lt n0 (by omega)
  walk_at "mine steps"
  · exact absurd hq (by assumption)
  · have e0 : n.fmod 256 = n := by rw [Int.fmod_eq_emod_of_nonneg _ (by decide)]; exact Int.emod_eq_of_lt n0 n1
    have e1 : n.fdiv 256 = 0 := by rw [Int.fdiv_eq_ediv_of_nonneg _ (by decide)]; exact Int.ediv_eq_zero_of_lt n0 n1
    simp only [e0, e1]
    exact hret _ _ _ (Keeps.fr S' (by assumption)) ⟨_, rfl⟩
theorem off_PW2 : True := by
  w_top off
  trivial
theorem words34 : True := by
  (k_with "mine ncall" => ((with_reducible show wpN _ _ (call (Value.ref 61) _ _) _ _ _); (first | refine CtrN.use (put1_spec (by first | decide | omega) (by first | decide | omega)) (ret := ?_) | refine CtrN.use (put2_spec (by first | decide | omega) (by first | decide | omega)) (ret := ?_) | refine CtrN.use (put3_spec (by first | decide | omega) (by first | decide | omega)) (ret := ?_)); k_whole; intro _ _ _ wk wp; obtain ⟨_, we⟩ := wp; subst we; have wF := fr_kept0 (by k_asm) wk; have wN := news_kept0 (by k_asm) wk; clear wk; (try dsimp only); k_sweep))
  trivial
/-- a field: its length in two octets, itself -/
noncomputable def fld (d : List UInt8) : List UInt8 := [0, (d.length : Int).toNat.toUInt8] ++ d
noncomputable def msg (k : Int) (d : List UInt8) : List UInt8 := ([k.toNat.toUInt8] ++ [0, 0, (d.length : Int).toNat.toUInt8]) ++ d
theorem fld_len (d : List UInt8) : (fld d).length = d.length + 2 := by simp [fld]
theorem msg_len (k : Int) (d : List UInt8) : (msg k d).length = d.length + 4 := by simp [msg]
set_option maxHeartbeats 4000000 in
theorem field_spec {prog : Program} {w : World} {d : List UInt8} {td : Tok} (n1 : d.length < 256) :
    CtrN prog w 96 [.bytes d.toArray td] 2 16 [] (fun _ => True) (fun _ _ r => ∃ y t, r = .bytes y.toArray t ∧ y = fld d ∧ y.length = d.length + 2) := by
  unfold CtrN
  intro dp un cn cs a ccd cl outer A₀ base h₀ L m s p loose mean mg mb Q E B F X N T hk hd hu _ hret
  refine wpN_call ?_
  walk_at "mine enterN"
  (walk_at "mine shade"; rename_i g' L' h' tk' F' N' B' X' T' S' e'; walk_at "mine light")
  walk_at "mine steps"
  have e9 := ‹_ = [0, (d.length : Int).toNat.toUInt8] ++ d›
  exact hret _ _ _ (Keeps.fr S' (by assumption)) ⟨_, _, rfl, e9, by rw [e9]; exact fld_len d⟩
set_option maxHeartbeats 4000000 in
theorem message_spec {prog : Program} {w : World} {k : Int} {d : List UInt8} {td tk : Tok} (k0 : 0 ≤ k) (k1 : k < 256) (n1 : d.length < 256) :
    CtrN prog w 82 [.int k tk, .bytes d.toArray td] 2 16 [] (fun _ => True) (fun _ _ r => ∃ y t, r = .bytes y.toArray t ∧ y = msg k d ∧ y.length = d.length + 4) := by
  unfold CtrN
  intro dp un cn cs a ccd cl outer A₀ base h₀ L m s p loose mean mg mb Q E B F X N T hk hd hu _ hret
  refine wpN_call ?_
  walk_at "mine enterN"
  (walk_at "mine shade"; rename_i g' L' h' tk' F' N' B' X' T' S' e'; walk_at "mine light")
  walk_at "mine steps"
  have e8 := ‹_ = [k.toNat.toUInt8] ++ [0, 0, (d.length : Int).toNat.toUInt8]›
  have e9 := ‹_ = _ ++ d›
  subst e8
  exact hret _ _ _ (Keeps.fr S' (by assumption)) ⟨_, _, rfl, e9, by rw [e9]; exact msg_len k d⟩
theorem off_ENC : True := by
  w_top off
  trivial
section
variable {prog : Program} {w : World} {A₀ A : Around} {s : Shared} {base h₀ : Heap} {outer : List Env} {L : Addr} {m mg mb : Str → Option Value} {env : Env} {news : List (Addr × Obj)} {K : Frag} {p : Program} {loose : List Str} {mean : ExcName → Option Value}
  {R : Result → Shared → Prop} {name qual : Str} {params : Arguments} {body : List Stmt} {scope : Scope} {dV kV doc pm cdv ct oc : Value} {an od : Option Addr} {osl : Array (Option Value)} {f : Addr} {args : Args} {binds : List (Str × Value)}
/-- a def on the spine that has cells is entered -/
theorem enterNC_raw (hA : A.frames = some (env :: outer) := by exact rfl) (hf : env.frame = some L := by exact rfl) (hke : env.scope.kind = .function := by assumption) (B : Below A₀ base outer h₀ := by k_asm) (F : Fr h₀ L s.heap m := by k_asm) (X₀ : K.In h₀ := by k_asm) (N : News h₀ L s.heap news := by k_asm) (T : Top p loose mean mg mb h₀ := by k_asm)
    (ho : K.lookup f = some ⟨oc, od, .func (fnOf name qual params body scope dV kV doc pm an cdv ct), osl⟩ := by k_is) (hcd : codeIn K cdv qual = true := by k_is) (hroom : A.depth < recursionLimit := by ktr_room)
    (hbind : BindsTo s (fnOf name qual params body scope dV kV doc pm an cdv ct) args binds := by exact BindsTo.of_eq rfl) (hkind : (binds.all fun y => scope.names.lookup y.1 == some .local || scope.names.lookup y.1 == some .cell) = true := by with_unfolding_all rfl)
    (hnd : ((cellsFrom 0 scope.names []).map (·.1)).Nodup := by decide)
    (h : ∀ g L' h₁ tk cells, Fr g L' h₁ (bindL (envOfC qual scope L' f cdv).kindOf binds fun _ => none) → News g L' h₁ (cells ++ news) →
      CellsAre (bindC (envOfC qual scope L' f cdv).kindOf binds fun _ => none) (cellsFrom (L' + 1) scope.names []) cells → Below A base (env :: outer) g → K.In g → Top p loose mean mg mb g → Keeps (news.map (·.1)) s.heap g → L' = s.heap.objs.size → (∀ q ∈ news, q.1 < L') →
      wpN (model prog w) (A.deeper (envOfC qual scope L' f cdv)) (execs body (envOfC qual scope L' f cdv))
        (fun fl s' => R (.ok (.ret (match fl with | .ret v => v | _ => .none))) s')
        (fun e s' => wpAny (model prog w) (A.deeper (envOfC qual scope L' f cdv)) (leaving (envOfC qual scope L' f cdv) e) (fun _ s'' => R (.error e) s'') (fun e' s'' => R (.error e') s'') s')
        { s with heap := h₁, toks := tk })
    (hco : scope.isCoroutine = false := by exact rfl) (hgen : scope.isGenerator = false := by exact rfl) (hk : scope.kind = .function := by exact rfl) : codeN (model prog w) A (.call (.ref f) args) R s := by
  obtain ⟨BG, st, kp⟩ := hide_facts B F N hA hf hke
  have X := X₀.keeps F.keep
  refine codeN_call_function (fd := fnOf name qual params body scope dV kV doc pm an cdv ct) (body := body) hroom (X _ _ ho) rfl hco hgen rfl (codeRec_of X hcd) (hbind _ _ _ _ ?_)
  refine wpAny_newFunctionEnv_cells hk (kindsX hkind _) fun env' he s' x => ?_
  subst he
  refine ⟨(T.nolimit.keeps F.keep).keeps x.toInCall.keep, codeN_func ?_⟩
  refine cps fun G9 r9 => ?_
  obtain ⟨h₁, tk, rfl, _⟩ := x.done
  have hk₁ := x.toInCall.keep
  obtain ⟨cells, NC, Y⟩ := Cl.news (h₀ := s.heap) (Nat.le_refl _) fun n c hm => ⟨x.cell n c (lookup_of_mem_nodup (cellsFrom_names scope.names 0 (s.heap.objs.size + 1) [] [] rfl ▸ hnd) hm), x.above n c hm⟩
  refine r9 ?_
  clear r9 G9
  refine h _ s.heap.objs.size h₁ tk cells ⟨x.toInCall.ns, fun b o e => hk₁ b o (of_hideAll _ e), Nat.le_of_eq (hideAll_size _ _)⟩ (fun q hq => ?_) Y BG (X₀.keeps st) (T.keeps st) kp rfl (fun q hq => Heap.lt_size (N q hq).1)
  rcases List.mem_append.mp hq with hq | hq
  · exact ⟨(NC q hq).1, (NC q hq).2.1, kts_none (fun b o e => of_hideAll _ e) (NC q hq).2.2⟩
  · exact ⟨hk₁ _ _ (N q hq).1, Nat.ne_of_lt (Heap.lt_size (N q hq).1), hideAll_none _ (List.mem_map_of_mem hq)⟩
end
theorem words35 : True := by
  (k_with "mine enterNC" => (refine enterNC_raw (h := ?_); k_whole; intro _ _ _ _ _ _ wN wY _ _ _ _ _ wl; (try k_lt wl); refine cps fun G6 r6 => ?_; k_cells wY; refine r6 ?_; clear r6 G6; (try simp only [List.cons_append, List.nil_append] at wN); (try dsimp only); (refine n_letA ?_; intro envW aroundW)))
  trivial
theorem off_TD : True := by
  w_top off
  trivial
/-- after a turn below, the caller's own ground turns; X: what was changed below -/
theorem turn_back {A₀ : Around} {base h₀ hs g g' hf : Heap} {outer : List Env} {L L' : Addr} {m m' : Str → Option Value} {env : Env} {X : List Addr} (B : Below A₀ base outer h₀) (F : Fr h₀ L hs m) (hL : env.frame = some L) (hX : ∀ b ∈ X, h₀.get? b = none ∧ b ≠ L) (S : Keeps X hs g)
    (T : KtsTurn ((env :: outer).filterMap (·.frame)) g g') (F' : Fr g' L' hf m') :
    ∃ h₀', Fr h₀' L hf m ∧ Below A₀ base outer h₀' ∧ (∀ news, News h₀ L hs news → (∀ q ∈ news, q.1 ∉ X) → News h₀' L hf news) ∧ (∀ b o, hs.get? b = some o → b ∉ (env :: outer).filterMap (·.frame) → b ∉ X → hf.get? b = some o) ∧
      KtsTurn (outer.filterMap (·.frame)) h₀ h₀' := by
  have ex : ∀ b o, hs.get? b = some o → b ∉ (env :: outer).filterMap (·.frame) → b ∉ X → hf.get? b = some o := fun b o e nm nx => F'.keep b o (T.other b o (S b o e nx) nm)
  have up : ∀ b o, hs.get? b = some o → b ∉ X → ∃ sl, hf.get? b = some { o with slots := sl } := fun b o e nx => by
    obtain ⟨sl, hs⟩ := T.up (S b o e nx)
    exact ⟨sl, F'.keep _ _ hs⟩
  have nX : ∀ b o, h₀.get? b = some o → b ∉ X := fun b o e q => by rw [(hX b q).1] at e; cases e
  have nL : h₀.get? L = none := kts_self F
  have fr : ∀ b, b ∈ (env :: outer).filterMap (·.frame) → b = L ∨ b ∈ outer.filterMap (·.frame) := fun b hb => by
    rw [List.filterMap_cons, hL] at hb
    rcases List.mem_cons.mp hb with q | q
    · exact .inl q
    · exact .inr q
  obtain ⟨T₁, S₁⟩ := kts_turn_at (h := hf) (fs := outer.filterMap (·.frame)) (g := h₀)
    (fun b hb => by
      refine cps fun G9 r9 => ?_
      obtain ⟨_, o, ho, _⟩ := B.frames.mem hb
      refine r9 ?_
      clear r9 G9
      exact ⟨o, ho⟩)
    (fun b o e nm => ex b o (F.keep b o e) (fun q => by
      rcases fr b q with z | z
      · rw [z, nL] at e; cases e
      · exact nm z) (nX b o e))
    (fun b o e _ => up b o (F.keep b o e) (nX b o e))
  have hns : hf.Ns L m := by
    refine cps fun G9 r9 => ?_
    obtain ⟨o, es, ep, ho, hd, r⟩ := F.ns
    obtain ⟨sl, hs⟩ := up L o ho (fun q => (hX L q).2 rfl)
    refine r9 ?_
    clear r9 G9
    exact ⟨_, es, ep, hs, hd, r⟩
  refine ⟨_, ⟨hns, S₁, by rw [T₁.size]; exact F.above⟩, ⟨B.stack, fun b o e => T₁.other b o (B.stays b o e) (fun q => by
    rw [(B.frames.mem q).1] at e; cases e), B.frames.of_keeps fun b o e _ => ?_⟩, fun news N hn q hq => ?_, ex, T₁⟩
  · obtain ⟨sl, hs⟩ := T₁.up e
    exact ⟨_, hs, rfl⟩
  · refine ⟨ex _ _ (N q hq).1 (fun z => ?_) (hn q hq), (N q hq).2.1, T₁.none_ _ (N q hq).2.2⟩
    rcases fr _ z with z | z
    · exact (N q hq).2.1 z
    · refine cps fun G9 r9 => ?_
      obtain ⟨_, o, ho, _⟩ := B.frames.mem z
      refine r9 ?_
      clear r9 G9
      rw [(N q hq).2.2] at ho; cases ho
section
variable {M : Model} {A : Around} {E : Value → Shared → Prop} {s : Shared} {env : Env}
theorem n_Tuple {elts : List PySem.Expr} {k : Nat} {pos : Pos} {Q : Value → Shared → Prop}
    (h : wpN M A (spliced (backTo pos (starEach elts env))) (fun vs s₁ => wpAny M A (newTuple vs) Q E s₁) E s) : wpN M A (eval (.Tuple elts k pos) env) Q E s := by
  show wpN M A (do standAt pos; newTuple (← spliced (backTo pos (starEach elts env)))) Q E s
  exact wpN_bind (wpN_standAt (wpN_bind (wpN_mono h (fun _ _ x => wpN_any x) fun _ _ x => x)))
theorem n_callWith_F0 {q : Addr} {pos : Pos} {first : List Value} {Q : Value → Shared → Prop} (X : FnAt q s.heap) (h : wpN M A (call (.ref q) (first ++ [])) Q E s) : wpN M A (callWith pos (.ref q) first (backTo pos (starEach [] env)) []) Q E s :=
  n_callWith (P := FnAt q) rfl keeps_F (n_evalArgs0 ⟨X, h⟩)
theorem n_Try {body : List Stmt} {x : ExceptHandler} {hs : List ExceptHandler} {pos : Pos} {Q : Flow → Shared → Prop}
    (h : wpN M A (execs body env) (fun f s₁ => match f with | .next => Q .next s₁ | f => Q f s₁)
      (fun e s₁ => wpAny M A (noteFrame e env) (fun _ s₂ => wpAny M A (setFlight e none) (fun _ s₃ => wpAny M A (handleBy e env (x :: hs)) Q E s₃) E s₂) E s₁) s) :
    wpN M A (exec (.Try body (x :: hs) [] [] pos) env) Q E s := by
  rw [arm_exec_Try]
  refine wpN_bind (wpN_standAt ?_)
  unfold tryStmt
  simp only [List.isEmpty_nil, if_true]
  refine wpN_bind (wpN_attempt (wpN_mono h (fun f s₁ h₁ => ?_) (fun e s₁ h₁ => ?_)))
  · cases f with
    | next => exact n_execs_nil h₁
    | _ => exact wpN_pure h₁
  · refine wpN_any (wpAny_bind (wpAny_mono h₁ (fun _ s₂ h₂ => ?_) fun _ _ x => x))
    simp only [List.isEmpty_cons, Bool.false_eq_true, if_false, Bool.false_and]
    exact wpAny_bind (wpAny_mono h₂ (fun _ s₃ h₃ => h₃) fun _ _ x => x)
end
theorem off_TE : True := by
  w_top off
  trivial
/-- what a closure without parameters does, in heaps that hold all that h0 holds; mt: what it changes, mt': to what -/
noncomputable def WorkN (prog : Program) (w : World) (q : Addr) (h0 : Heap) (dd uu : Nat) (mt : List (Addr × Obj)) (mt' : List (Addr × Obj) → Prop) (good : Heap → Value → Prop) (bad : Int → Prop) : Prop :=
  ∀ (dp un : Nat) (cn : Str) (cs : Scope) (a : Addr) (ccd : Value) (cl : List (Str × Addr)) (outer : List Env) (A₀ : Around) (base h₀ : Heap) (L : Addr) (m : Str → Option Value) (s : Shared)
    (p : Program) (loose : List Str) (mean : ExcName → Option Value) (mg mb : Str → Option Value) (Q E : Value → Shared → Prop),
    Below A₀ base outer h₀ → Fr h₀ L s.heap m → (hd.heap_1 w.params).In h₀ → Top p loose mean mg mb h₀ → cs.kind = .function → dp + dd < recursionLimit → un + uu < cLine → Keeps [] h0 s.heap → News h₀ L s.heap mt →
    (∀ v h' tk' n', Keeps (mt.map (·.1)) s.heap h' → mt' n' → (∀ q ∈ n', h'.get? q.1 = some q.2) → good h' v → Q v { s with heap := h', toks := tk' }) →
    (∀ c e h1 h' tk' n', Keeps (mt.map (·.1)) s.heap h1 → mt' n' → (∀ q ∈ n', h1.get? q.1 = some q.2) → bad c → Raises (envX cn cs L a ccd cl :: outer) h1 c e h' → E (.ref e) { s with heap := h', toks := tk' }) →
    wpN (model prog w) (ktrTop dp un (some []) cn cs L a ccd cl outer) (call (.ref q) []) Q E s
/-- what _law_told tells -/
noncomputable def Tells (h h' : Heap) (r : Value) (good : Heap → Value → Prop) (bad : Int → Prop) : Prop :=
  ∃ T, r = .ref T ∧ h.get? T = none ∧ ((∃ v t, h'.get? T = some { cls := .type "tuple", data := .seq #[.str (Str.ofString "told") t, v] } ∧ good h' v) ∨
    (∃ c t t', h'.get? T = some { cls := .type "tuple", data := .seq #[.str (Str.ofString "refused") t, .int c t'] } ∧ bad c))
theorem words36 : True := by
  (k_with "mine nstep" => ((with_reducible show wpN _ _ _ _ _ _); first
  | with_reducible refine n_Tuple ?_
  | (refine n_callWith_F0 (by assumption) ?_)))
  trivial
theorem newTupleR {M : Model} {A : Around} {E : Value → Shared → Prop} {s : Shared} {vs : List Value} {Q : Value → Shared → Prop} (hz : vs.length ≤ 1000)
    (h : ∀ T h', s.heap.get? T = none → Keeps [] s.heap h' → h'.get? T = some { cls := .type "tuple", data := .seq vs.toArray } → Q (.ref T) { s with heap := h' }) : wpAny M A (newTuple vs) Q E s := by
  unfold newTuple
  refine wpAny_newObj_type ?_ (by show vs.toArray.size ≤ _; rw [List.size_toArray, sizeLine_eq]; omega)
  exact h _ _ (Heap.get?_none_of_le (Nat.le_refl _)) (Keeps.of_all fun b o e => Heap.get?_push_of_some _ e) (Heap.get?_push_size _ rfl)
theorem words37 : True := by
  (k_with "newTuple" => ((refine newTupleR (Nat.le_of_ble_eq_true rfl) ?_); intro _ _ wx wk wb; have wF := fr_kept0 (by k_asm) wk; have wN := news_addN (by k_asm) (news_kept0 (by k_asm) wk) wx wb; (try dsimp only)))
  trivial
theorem words38 : True := by
  (k_with "mine ncall" => ((with_reducible show wpN _ _ (call (Value.ref _) ([] ++ [])) _ _ _); refine halt ?_))
  trivial
set_option maxHeartbeats 4000000 in
theorem told_spec {prog : Program} {w : World} {q : Addr} {dd uu : Nat} {mt : List (Addr × Obj)} {mt' : List (Addr × Obj) → Prop} {good : Heap → Value → Prop} {bad : Int → Prop} {s : Shared} (W : WorkN prog w q s.heap dd uu mt mt' good bad) (hmt : ∀ n', mt' n' → n'.map (·.1) = mt.map (·.1)) (hq : q ∉ mt.map (·.1)) (stab : ∀ h h' v, good h v → Keeps [] h h' → good h' v) (fn : FnAt q s.heap)
    {dp un : Nat} {cn : Str} {cs : Scope} {a : Addr} {ccd : Value} {cl : List (Str × Addr)} {outer : List Env} {A₀ : Around} {base h₀ : Heap} {L : Addr} {m : Str → Option Value}
    {p : Program} {loose : List Str} {mean : ExcName → Option Value} {mg mb : Str → Option Value} {Q E : Value → Shared → Prop}
    (B : Below A₀ base outer h₀) (F : Fr h₀ L s.heap m) (N : News h₀ L s.heap mt) (X : (hd.heap_1 w.params).In h₀) (T : Top p loose mean mg mb h₀) (XB : (hd.heap_1 w.params).In base) (TB : Top p loose mean mg mb base) (hk : cs.kind = .function) (hdp : dp + (dd + 10) < recursionLimit) (hu : un + (uu + 20) < cLine)
    (ret : ∀ r h' tk' h₀', Fr h₀' L h' m → Below A₀ base outer h₀' → (hd.heap_1 w.params).In h₀' → Top p loose mean mg mb h₀' → (∀ news, News h₀ L s.heap news → (∀ q ∈ news, q.1 ∉ mt.map (·.1)) → News h₀' L h' news) →
      (∃ n', mt' n' ∧ News h₀' L h' n') → (∀ b o, s.heap.get? b = some o → b ∉ (envX cn cs L a ccd cl :: outer).filterMap (·.frame) → b ∉ mt.map (·.1) → h'.get? b = some o) → KtsTurn (outer.filterMap (·.frame)) h₀ h₀' → Tells s.heap h' r good bad → Q r { s with heap := h', toks := tk' }) :
    wpN (model prog w) (ktrTop dp un (some []) cn cs L a ccd cl outer) (call (.ref 164) [.ref q]) Q E s := by
  refine wpN_call ?_
  walk_at "mine enterN"
  (walk_at "mine shade"; rename_i g' L' h' tk' F' N' B' X' T' S' e'; walk_at "mine light")
  have kp : Keeps (mt.map (·.1)) s.heap h' := Keeps.fr S' F'
  have kall : ∀ b o, s.heap.get? b = some o → h'.get? b = some o := fun b o e => by
    by_cases z : b ∈ mt.map (·.1)
    · refine cps fun G9 r9 => ?_
      obtain ⟨p, hp, rfl⟩ := List.mem_map.mp z
      refine r9 ?_
      clear r9 G9
      have := (N _ hp).1
      rw [e] at this; cases this
      exact (N' _ hp).1
    · exact kp b o e z
  have fn' : FnAt q h' := let ⟨oc, od, fd, sl, e⟩ := fn; ⟨oc, od, fd, sl, kall _ _ e⟩
  have hX : ∀ b ∈ mt.map (·.1), h₀.get? b = none ∧ b ≠ L := fun b hb => by
    refine cps fun G9 r9 => ?_
    obtain ⟨p, hp, rfl⟩ := List.mem_map.mp hb
    refine r9 ?_
    clear r9 G9
    exact ⟨(N _ hp).2.2, (N _ hp).2.1⟩
  have hX' : ∀ b ∈ mt.map (·.1), g'.get? b = none ∧ b ≠ L' := fun b hb => by
    refine cps fun G9 r9 => ?_
    obtain ⟨p, hp, rfl⟩ := List.mem_map.mp hb
    refine r9 ?_
    clear r9 G9
    exact ⟨(N' _ hp).2.2, (N' _ hp).2.1⟩
  refine n_execs_let ?_
  intro qk ek
  refine n_Try ?_
  walk_at "mine steps"
  refine W _ _ _ _ _ _ _ _ _ _ _ _ _ _ _ _ _ _ _ _ _ B' F' X' T' rfl (by ktr_room) (by ktr_units) (Keeps.of_all kall) N' (fun v h2 tk2 n2 k2 hm2 hn2 hg => ?_) (fun c e h1 h2 tk2 n2 k1 hm2 hn2 hb hr => ?_)
  · have F2 := fr_kept F' k2 hX'
    clear N' F'
    have N2 : News g' L' h2 [] := News.nil
    walk_at "mine steps"
    (walk_at "mine shade"; rename_i T9 h9 n9 k9 g9 F9 N9; walk_at "mine light")
    have kk : Keeps (mt.map (·.1)) s.heap h9 := kp.trans (k2.trans (Keeps.of_all k9.all))
    refine ret _ _ _ _ (fr_kept F kk hX) B X T (fun news Nn hnn q hq => ⟨kk _ _ (Nn q hq).1 (hnn q hq), (Nn q hq).2⟩) ⟨n2, hm2, fun q hq => ⟨k9.all _ _ (hn2 q hq), ?_⟩⟩ (fun b o e _ nx => kk b o e nx) .refl ⟨T9, rfl, ?_, .inl ⟨_, _, g9, stab _ _ _ hg k9⟩⟩
    · have := hX q.1 (by rw [← hmt _ hm2]; exact List.mem_map_of_mem hq)
      exact ⟨this.2, this.1⟩
    · cases z : s.heap.get? T9 with
      | none => rfl
      | some o =>
        by_cases zx : T9 ∈ mt.map (·.1)
        · rw [← hmt _ hm2] at zx
          refine cps fun G9 r9 => ?_
          obtain ⟨p, hp, e⟩ := List.mem_map.mp zx
          refine r9 ?_
          clear r9 G9
          have := hn2 p hp
          rw [e, n9] at this; cases this
        · have := k2 _ _ (kp _ _ z zx) zx
          rw [n9] at this; cases this
  · refine cps fun G9 r9 => ?_
    obtain ⟨d, z1, z2, f, u, cd⟩ := hr
    refine r9 ?_
    clear r9 G9
    have F1 := fr_kept F' k1 hX'
    show wpAny _ _ (noteFrame (.ref e) _) _ _ _
    refine fly_note rfl rfl f fun h3 f3 u3 => ?_
    refine fly_off (s := ⟨h3, _, _, _, _⟩) f3 fun h4 f4 u4 => ?_
    have u04 := u.trans (u3.trans u4)
    refine cps fun G9 r9 => ?_
    obtain ⟨g4, T4, F4, K4⟩ := kts_ground B' F1 (fun b o e n => hideAll_get _ e n) f4.stays u04
    have X4 := XB.keeps K4.stays
    have P4 := topRead_of (TB.keeps K4.stays)
    obtain ⟨vs4, sl4, tb4, he4, _⟩ := f4.exc
    obtain ⟨nm, qn, bs, hdct, sn, sub, ab, col, dd', k0, k1', k2, k3, k5, hC⟩ := q_obj (X4.keeps F4.keep)
    refine r9 ?_
    clear r9 G9
    refine wpAny_handleBy_cons (codeAny_handlers_test (name_K F4 X4 P4 (by k_is) ?_ rfl rfl (by decide))) (by intro q; cases q)
    refine wpAny_excMatches_sub_self hC he4 rfl (by decide +kernel) (codeAny_handlers_suite_as ?_)
    refine fly_off (s := ⟨h4, _, _, _, _⟩) f4 fun h5 f5 u5 => ?_
    refine cps fun G9 r9 => ?_
    obtain ⟨g5, T5, F5, K5⟩ := kts_ground B' F1 (fun b o e n => hideAll_get _ e n) f5.stays (u04.trans u5)
    have X5 := XB.keeps K5.stays
    have P5 := TB.keeps K5.stays
    obtain ⟨vs5, sl5, tb5, he5, _⟩ := f5.exc
    obtain ⟨od, es, n, t, hd5, hdd, hl⟩ := cd.slots (u3.trans (u4.trans u5))
    refine r9 ?_
    clear r9 G9
    have nL : ∀ b, h1.get? b = none → b ≠ L' := fun b hb z => by
      refine cps fun G9 r9 => ?_
      obtain ⟨o, _, _, ho, _⟩ := F1.ns
      refine r9 ?_
      clear r9 G9
      rw [z, ho] at hb; cases hb
    have N5 : News g5 L' h5 ((e, ⟨.ref 31, some d, .fields vs5, sl5⟩) :: (d, od) :: n2) := fun q hq => by
      rcases List.mem_cons.mp hq with rfl | hq
      · exact ⟨he5, nL _ z1, T5.none_ _ (kts_none F1.keep z1)⟩
      · rcases List.mem_cons.mp hq with rfl | hq
        · exact ⟨hd5, nL _ z2, T5.none_ _ (kts_none F1.keep z2)⟩
        · have hx := hX' q.1 (by rw [← hmt _ hm2]; exact List.mem_map_of_mem hq)
          exact ⟨f5.stays _ _ (hideAll_get _ (hn2 q hq) (fun z => by
            rcases kts_mem z with y | y
            · exact hx.2 y
            · refine cps fun G9 r9 => ?_
              obtain ⟨_, o, ho, _⟩ := B'.frames.mem y
              refine r9 ?_
              clear r9 G9
              rw [hx.1] at ho; cases ho)), hx.2, T5.none_ _ hx.1⟩
    refine stN F5 N5 (fun h6 F6 N6 => ?_) rfl rfl
    clear F' F1 N' hC F4 P4 X4 K4 T4
    k_steps
    refine q_get_code (X5.keeps F6.keep) (N6 _ (.head _)).1 (N6 _ (.tail _ (.head _))).1 hl rfl ?_
    k_steps
    have F8 := ‹Fr g5 L' _ _›
    have N8 := ‹News g5 L' _ ((_, { cls := .type "tuple", data := _ }) :: _)›
    refine cps fun G9 r9 => ?_
    obtain ⟨h0', a1, a2, a3, a4, a5⟩ := turn_back B F rfl hX S' T5 F8
    refine r9 ?_
    clear r9 G9
    have hz := (N8 _ (.head _)).2.2
    refine ret _ _ _ h0' a1 a2 (XB.keeps a2.stays) (TB.keeps a2.stays) a3 ⟨n2, hm2, fun q hq => ?_⟩ a4 a5 ⟨_, rfl, ?_, .inr ⟨_, _, _, (N8 _ (.head _)).1, hb⟩⟩
    · have hx := hX q.1 (by rw [← hmt _ hm2]; exact List.mem_map_of_mem hq)
      exact ⟨(N8 q (.tail _ (.tail _ (.tail _ hq)))).1, hx.2, a5.none_ _ hx.1⟩
    · have key : ∀ T, g5.get? T = none → h6.get? T = none → s.heap.get? T = none := fun T zg zh => by
        cases z : s.heap.get? T with
        | none => rfl
        | some o =>
          exfalso
          by_cases zx : T ∈ mt.map (·.1)
          · rw [← hmt _ hm2] at zx
            refine cps fun G9 r9 => ?_
            obtain ⟨p, hp, e⟩ := List.mem_map.mp zx
            refine r9 ?_
            clear r9 G9
            have := (N6 p (.tail _ (.tail _ hp))).1
            rw [e, zh] at this; cases this
          · refine cps fun G9 r9 => ?_
            obtain ⟨sl, hs⟩ := T5.up (S' _ _ z zx)
            refine r9 ?_
            clear r9 G9
            rw [zg] at hs; cases hs
      exact key _ hz ‹_›
open PyProof.Rows.LCg
theorem off_NL : True := by
  w_top off
  trivial
noncomputable abbrev Fl : Value → Shared → Prop := fun _ _ => False
section
variable {M : Model} {A : Around} {s : Shared} {env : Env} {α : Type}
theorem n_noRaise {t : Sem α} {Q : α → Shared → Prop} {E : Value → Shared → Prop} (h : wpN M A t Q Fl s) : wpN M A t Q E s := wpN_mono h (fun _ _ x => x) fun _ _ x => x.elim
theorem n_onRaise0 {t : Sem α} {k : Value → Sem Unit} {Q : α → Shared → Prop} (h : wpN M A t Q Fl s) : wpN M A (t.onRaise k) Q Fl s := wpN_onRaise (wpN_mono h (fun _ _ x => x) fun _ _ x => x.elim)
theorem n_runOwn0 {c : Code} {Q : Flow → Shared → Prop} (hc : codeN M A c (fun r s' => match r with | .ok f => Q f s' | .error _ => False) s) : wpN M A (runOwn c env) Q Fl s := by
  unfold runOwn
  refine n_onRaise0 (wpN_run (A := A) (h := none) ?_)
  exact codeN_mono hc fun r s' h => by cases r <;> exact h
end
theorem off_NC : True := by
  w_top off
  trivial
theorem neA {a b : Nat} (h : a < b ∨ b < a) : a ≠ b := by omega
section
variable {prog : Program} {w : World} {A : Around} {s : Shared} {env : Env} {h₀ : Heap} {L : Addr} {m : Str → Option Value}
/-- one item more -/
noncomputable def CEnd (h₀ : Heap) (L : Addr) (m : Str → Option Value) (s : Shared) (I : Addr) (oI : Obj) (C D : Addr) (ys : List Value) (J : List Value → List (Addr × Obj) → Prop) (y : Value) (s₃ : Shared) : Prop :=
  ∃ h' tk' oC' news', s₃ = { s with heap := h', toks := tk' } ∧ (∃ mC', NsObj oC' mC') ∧ Fr h₀ L h' m ∧ News h₀ L h' ((I, oI) :: (C, oC') :: (D, lst ys) :: news') ∧ Off3 I C D news' ∧ J (ys ++ [y]) news'
theorem CEnd.intro {h₀ h' : Heap} {L : Addr} {m : Str → Option Value} {s : Shared} {I : Addr} {oI oC' : Obj} {C D : Addr} {ys : List Value} {J : List Value → List (Addr × Obj) → Prop} {y : Value} {tk' : Nat} {mC' : Str → Option Value} {news' : List (Addr × Obj)}
    (F : Fr h₀ L h' m) (N : News h₀ L h' ((I, oI) :: (C, oC') :: (D, lst ys) :: news')) (c : NsObj oC' mC') (off : Off3 I C D news') (j : J (ys ++ [y]) news') : CEnd h₀ L m s I oI C D ys J y { s with heap := h', toks := tk' } :=
  ⟨h', tk', oC', news', rfl, ⟨mC', c⟩, F, N, off, j⟩
end
section
open Builtin
theorem off_BJ : True := by
  w_top off
  trivial
theorem slot_bj : Slot "bytes" "join" "bytes.join" :=
  .of (owner := "bytes") (n := "join") (by rw [typeLookup_type, builtinLookup_eq_fast]; kernel_rfl) (by decide +kernel) (by decide +kernel) (by decide +kernel)
    (by first | exact .inl (by decide +kernel) | exact .inr (by decide +kernel)) (by rw [isSubtype_type]; kernel_rfl)
theorem type_bj : typeOf (.builtin "bytes.join") = pure (.type "method_descriptor") := by show builtinType _ = _; rw [builtinType_eq_fast]; kernel_rfl
theorem entry_bj : entryFor table "bytes.join" = some Builtin.«bytes.join» := entryFor_of_tree (by kernel_rfl)
theorem args_bj (a b : Value) : argsOk "bytes.join" ⟨[a, b], []⟩ := by
  unfold argsOk; rw [signature?_of (id := "bytes.join") (n := ['n', 'i', 'o', 'j']) (o := ['s', 'e', 't', 'y', 'b']) (by kernel_rfl) FB.owner_bytes]; kernel_rfl
section
variable {id : String} {b : Array UInt8} {t : Tok}
theorem bj_buffer {f : Bool} : Bytes.buffer? id (.bytes b t) f = pure (some b) := by
  unfold Bytes.buffer?
  rw [KBy.special_eq KBy.look_buffer, KBy.own_buffer, KBy.own_release]
  kernel_rfl
theorem bj_take : Bytes.takeBufferQuiet? id (.bytes b t) 0 = pure (some (b, none)) := by
  unfold Bytes.takeBufferQuiet? Bytes.takeBuffer?
  rw [KBy.special_eq KBy.look_buffer, KBy.own_buffer]
  simp only [pure_bind, bj_buffer]
  rfl
end
theorem bj_letgo {M : Model} {A : Around} {E : Value → Shared → Prop} {s : Shared} {keep : List Value} {Q : Unit → Shared → Prop} (h : Q () s) : ∀ {taken : List (Value × Option Value)}, (∀ x ∈ taken, x.2 = none) → wpAny M A (Bytes.joinLetGo taken keep) Q E s
  | [], _ => wpAny_pure h
  | (x, u) :: rest, hn => by
    obtain rfl : u = none := hn _ (.head _)
    unfold Bytes.joinLetGo
    dsimp only
    refine wpAny_bind (wpAny_letGo ?_)
    exact bj_letgo h fun y hy => hn y (.tail _ hy)
theorem bys_at {vs : List Value} {fs : List (List UInt8)} (i : Nat) (hb : Bys vs fs) (h : i < vs.length) : ∃ f t, fs[i]? = some f ∧ vs[i]? = some (.bytes f.toArray t) := by
  have h2 : i < fs.length := hb.length ▸ h
  obtain ⟨t, e⟩ := All2.get hb i h h2
  exact ⟨fs[i], t, List.getElem?_eq_getElem h2, (List.getElem?_eq_getElem h).trans (congrArg some e)⟩
theorem joined_nil : ∀ (fs : List (List UInt8)), Bytes.joined #[] (fs.map List.toArray) = fs.flatten.toArray := by
  have key : ∀ (fs : List (List UInt8)) (k : Nat) (acc : List UInt8), ((fs.map List.toArray).zipIdx k).foldl (fun out (x : Array UInt8 × Nat) => (if x.2 > 0 then out ++ #[] else out) ++ x.1) acc.toArray = (acc ++ fs.flatten).toArray := by
    intro fs
    induction fs with
    | nil => intro k acc; simp
    | cons f r ih =>
      intro k acc
      simp only [List.map_cons, List.zipIdx_cons, List.foldl_cons]
      have : ((if k > 0 then acc.toArray ++ #[] else acc.toArray) ++ f.toArray) = (acc ++ f).toArray := by split <;> simp
      rw [this, ih]
      simp
  intro fs
  exact key fs 0 []
theorem bj_range {vs : List Value} : List.range' [:vs.toArray.size].start [:vs.toArray.size].size [:vs.toArray.size].step = List.range' 0 vs.length := by
  simp [Std.Legacy.Range.size]
theorem bj_sum : ∀ (fs : List (List UInt8)) (k : Nat), fs.foldl (fun x y => x + y.length) k = k + (fs.map List.length).sum
  | [], k => by simp
  | f :: r, k => by rw [List.foldl_cons, bj_sum r]; simp; omega
theorem bj_loop {M : Model} {A : Around} {E : Value → Shared → Prop} {s : Shared} {vs : List Value} {fs : List (List UInt8)} (hb : Bys vs fs) {f : Nat → Array (Array UInt8) × List (Value × Option Value) → Sem (ForInStep (Array (Array UInt8) × List (Value × Option Value)))} {Q : Array (Array UInt8) × List (Value × Option Value) → Shared → Prop}
    (hf : ∀ i b g t (Q' : ForInStep (Array (Array UInt8) × List (Value × Option Value)) → Shared → Prop), fs[i]? = some g → vs[i]? = some (.bytes g.toArray t) → (∀ x ∈ b.2, x.2 = none ∧ ∃ b t, x.1 = .bytes b t) → Q' (.yield (b.1.push g.toArray, b.2 ++ [(.bytes g.toArray t, none)])) s → wpAny M A (f i b) Q' E s)
    (fin : ∀ T : List (Value × Option Value), (∀ x ∈ T, x.2 = none ∧ ∃ b t, x.1 = .bytes b t) → Q ((fs.map List.toArray).toArray, T) s) :
    wpAny M A (forIn (List.range' 0 vs.length) (#[], []) f) Q E s := by
  have hlen := hb.length
  refine wpAny_forIn_list _ (fun rest b s' => s' = s ∧ ∃ i, i ≤ vs.length ∧ rest = List.range' i (vs.length - i) ∧ b.1 = ((fs.take i).map List.toArray).toArray ∧ ∀ x ∈ b.2, x.2 = none ∧ ∃ b t, x.1 = .bytes b t) _ ?_ ?_ _ _ ?_
  · intro x rest b s' z9a
    refine cps fun G7 r7 => ?_
    obtain ⟨rfl, i, hi, hr, h1, h2⟩ := z9a
    refine r7 ?_
    clear r7 G7
    have hlt : i < vs.length := by
      rcases Nat.lt_or_ge i vs.length with q | q
      · exact q
      · rw [show vs.length - i = 0 by omega] at hr; cases hr
    refine cps fun G9 r9 => ?_
    obtain ⟨j, hj⟩ : ∃ j, vs.length - i = j + 1 := ⟨vs.length - i - 1, by omega⟩
    rw [hj, List.range'_succ] at hr
    cases hr
    obtain ⟨g, t, e1, e2⟩ := bys_at x hb hlt
    refine r9 ?_
    clear r9 G9
    refine hf x b g t _ e1 e2 h2 ⟨rfl, x + 1, hlt, by rw [show vs.length - (x + 1) = j by omega], ?_, ?_⟩
    · rw [h1, List.take_add_one, e1]; simp
    · intro y hy
      rcases List.mem_append.mp hy with q | q
      · exact h2 y q
      · rw [List.mem_singleton.mp q]; exact ⟨rfl, _, _, rfl⟩
  · intro z9a s' z9b
    refine cps fun G7 r7 => ?_
    obtain ⟨b1, b2⟩ := z9a
    obtain ⟨rfl, i, hi, hr, h1, h2⟩ := z9b
    refine r7 ?_
    clear r7 G7
    have : i = vs.length := by
      rcases Nat.lt_or_ge i vs.length with q | q
      · obtain ⟨j, hj⟩ : ∃ j, vs.length - i = j + 1 := ⟨vs.length - i - 1, by omega⟩
        rw [hj, List.range'_succ] at hr; cases hr
      · omega
    subst this
    rw [hlen, List.take_length] at h1
    dsimp only at h1
    subst h1
    exact fin b2 h2
  · exact ⟨rfl, 0, Nat.zero_le _, by simp, by simp, fun x hx => nomatch hx⟩
section
variable {prog : Program} {w : World} {A : Around} {E : Value → Shared → Prop} {s : Shared}
theorem wp_if {M : Model} {A : Around} {E : Value → Shared → Prop} {s : Shared} {α : Type} {Q : α → Shared → Prop} {c : Prop} [Decidable c] {a b : Sem α} (h : c) (x : wpAny M A a Q E s) : wpAny M A (if c then a else b) Q E s := by rw [if_pos h]; exact x
theorem wp_ifn {M : Model} {A : Around} {E : Value → Shared → Prop} {s : Shared} {α : Type} {Q : α → Shared → Prop} {c : Prop} [Decidable c] {a b : Sem α} (h : ¬ c) (x : wpAny M A b Q E s) : wpAny M A (if c then a else b) Q E s := by rw [if_neg h]; exact x
theorem not_one {α : Type} {P : α → Prop} {a : Value → α} {b : α} {vs : List Value} (h : ∀ x, vs ≠ [x]) (p : P b) : P (match vs.toArray with | #[x] => a x | _ => b) := by
  cases vs with
  | nil => exact p
  | cons v r => cases r with
    | nil => exact absurd rfl (h v)
    | cons _ _ => exact p
theorem bj_run {l : Addr} {vs : List Value} {fs : List (List UInt8)} {t : Tok} {Q : Value → Shared → Prop} (hl : s.heap.IsList l vs.toArray) (hb : Bys vs fs) (hz : fs.flatten.length ≤ 100000)
    (h : ∀ t' k, Q (.bytes fs.flatten.toArray t') { s with toks := k }) : wpAny (model prog w) A (call (.builtin "bytes.join") [.bytes #[] t, .ref l]) Q E s := by
  refine wpAny_call_entry slot_bj (typeIs_bytes _ _ _) entry_bj ?_ (args_bj _ _)
  refine cps fun G9 r9 => ?_
  obtain ⟨⟨cls, dd, data, sl⟩, ho, hc, n, hd⟩ := id hl
  simp only at hc hd
  subst hc hd
  obtain ⟨hp, g, d, tk, os⟩ := s
  refine r9 ?_
  clear r9 G9
  show wpAny _ _ (Builtin.«bytes.join» ⟨[.bytes #[] t, .ref l], []⟩) _ _ _
  unfold Builtin.«bytes.join» Bytes.joinM Bytes.joinItems
  have L0 : Looks (model prog w) hp (typeOf (.ref l)) (.type "list") := (Looks.ld ho).andThen .now
  have L1 : Looks (model prog w) hp (seqItems? (.ref l)) (some vs.toArray) := (Looks.ld (part := none) ho).andThen .now
  refine wpAny_bind (wpAny_pure ?_)
  dsimp only
  refine wpAny_bind (wpAny_bind (L0.at (wpAny_pure ?_)))
  refine wpAny_bind (L1.at ?_)
  dsimp only
  refine wp_if (by decide) ?_
  have key : ∀ (taken : List (Value × Option Value)), (∀ x ∈ taken, x.2 = none ∧ ∃ b t, x.1 = .bytes b t) → (taken.any fun x => x.1.onHeap) = false := fun taken hT => any_false fun x hx => by
    refine cps fun G9 r9 => ?_
    obtain ⟨_, b, t, e⟩ := hT x hx
    refine r9 ?_
    clear r9 G9
    rw [e]; rfl
  by_cases h1 : ∃ x, vs = [x]
  · obtain ⟨x, rfl⟩ := h1
    cases hb with
    | @cons v1 f1 _ _ r1 hb2 =>
    cases hb2
    obtain ⟨t1, rfl⟩ := r1
    refine wpAny_bind (wpAny_pure ?_)
    dsimp only
    rw [if_pos (by simp)]
    refine wpAny_bind (wpAny_rule (wpAny_pure ?_))
    have := h t1 tk
    simp only [List.flatten_cons, List.flatten_nil, List.append_nil] at this
    exact ⟨_, rfl, this⟩
  · refine not_one (P := fun t => wpAny (model prog w) A.in1 t _ _ _) (fun x e => h1 ⟨x, e⟩) ?_
    refine wpAny_bind ?_
    rw [Std.Legacy.Range.forIn_eq_forIn_range', bj_range]
    refine bj_loop (vs := vs) hb (fun i b g u Q' e1 e2 hT hQ' => ?_) (fun T hT => ?_)
    · try dsimp only
      refine wpAny_bind (L1.at ?_)
      dsimp only
      have ek : ((Bytes.Kind.bytes == Bytes.Kind.bytearray) || b.2.any fun x => x.1.onHeap) = false := by rw [key _ hT]; rfl
      have ex : (vs).toArray.getD i Value.none = .bytes g.toArray u := by rw [Array.getD_eq_getD_getElem?, List.getElem?_toArray, e2]; rfl
      refine wp_ifn (fun z => Bool.noConfusion (ek.symm.trans z)) ?_
      refine wpAny_bind (wpAny_holding (wpAny_of_eq ((congrArg (fun x => Bytes.takeBufferQuiet? _ x 0) ex).trans bj_take) ?_))
      dsimp only
      refine wpAny_bind (L1.at ?_)
      dsimp only
      refine wp_ifn (by simp) (wpAny_pure ?_)
      rw [ex]; exact hQ'
    · try dsimp only
      refine wpAny_bind (wpAny_pure ?_)
      have hsz : ((fs).map List.toArray).toArray.foldl (fun x1 x2 => x1 + x2.size) ((#[] : Array UInt8).size * (((fs).map List.toArray).toArray.size - 1)) = (fs).flatten.length := by
        rw [← Array.foldl_toList]
        simp only [List.toList_toArray, Array.size_empty, Nat.zero_mul, List.foldl_map, List.size_toArray, List.length_flatten]
        rw [bj_sum]; simp
      refine wp_ifn (by rw [hsz, KBy.tooLong_not (by omega)]; decide) ?_
      rw [joined_nil]
      refine wpAny_bind (wpAny_mkBytes ?_ (by rw [List.size_toArray, sizeLine_eq]; omega))
      refine wpAny_bind (wpAny_holding (wpAny_point ?_))
      refine wpAny_bind (bj_letgo ?_ (fun x hx => (hT x hx).1))
      exact wpAny_pure ⟨_, rfl, h _ _⟩
end
end
theorem off_NF : True := by
  w_top off
  trivial
section
variable {prog : Program} {w : World} {A : Around} {s : Shared} {env : Env}
theorem n_For {target iter : PySem.Expr} {body : List Stmt} {pos : Pos} {Q : Flow → Shared → Prop}
    (h : wpN (model prog w) A (eval iter env) (fun x s₁ => wpAny (model prog w) A (pyIter x) (fun it s₂ => codeN (model prog w) A (.forLoop target it body [] env) (fun r s' => match r with | .ok f => Q f s' | .error _ => False) s₂) Fl s₁) Fl s)
    (hs : ∀ x, foldedSetIterable iter env x = pure x := by intro _; rfl) : wpN (model prog w) A (exec (.For target iter body [] pos) env) Q Fl s := by
  rw [exec_For]
  refine wpN_bind (wpN_standAt (wpN_bind (wpN_mono h (fun x s₁ h₁ => wpN_step (wpAny_of_eq (hs x) (wpN_bind (wpN_standAt (wpN_step (wpAny_holding (wpAny_mono h₁ (fun it s₂ h₂ => ?_) fun _ _ x => x))))))) fun _ _ x => x)))
  exact n_runOwn0 h₂
theorem n_forLoop {target : PySem.Expr} {body : List Stmt} {it : Value} {R : Result → Shared → Prop}
    (h : wpAny (model prog w) A (pyNext it) (fun r s₁ => match r with
      | none => R (.ok .next) s₁
      | some v => wpAny (model prog w) A (letOwnedTupleGo target it v) (fun _ s₁' => wpN (model prog w) A (assign target env v) (fun _ s₂ => wpN (model prog w) A (execs body env) (fun f s₃ => match f with
          | .next => codeN (model prog w) A (.forLoop target it body [] env) R s₃
          | .cont => codeN (model prog w) A (.forLoop target it body [] env) R s₃
          | .brk => R (.ok .next) s₃
          | .ret v => R (.ok (.ret v)) s₃) Fl s₂) Fl s₁') Fl s₁) Fl s) :
    codeN (model prog w) A (.forLoop target it body [] env) R s := by
  refine codeN_of_tree rfl ?_
  show wpN _ _ ((forTurn target it body [] env).onRaise (fun x => do noteFrame x env; theTreesLotGoes x)) _ _ s
  refine n_noRaise (n_onRaise0 ?_)
  simp only [forTurn]
  refine wpN_bind (wpN_standAt (wpN_bind (n_onRaise0 (wpN_any (wpAny_mono h (fun r s₁ h₁ => ?_) fun _ _ x => x)))))
  cases r with
  | none =>
    refine wpN_pure ⟨rfl, codeN_of_tree rfl ?_⟩
    show wpN _ _ (do return Fin.done (← (execs [] env).onRaise (fun x => do noteFrame x env; theTreesLotGoes x))) _ _ s₁
    exact n_noRaise (wpN_bind (n_onRaise0 (n_execs_nil (wpN_pure h₁))))
  | some v =>
    refine wpN_step (wpAny_mono h₁ (fun _ s₁' h₁' => ?_) fun _ _ x => x)
    refine wpN_bind (wpN_mono h₁' (fun _ s₂ h₂ => wpN_bind (wpN_mono h₂ (fun f s₃ h₃ => ?_) fun _ _ x => x)) fun _ _ x => x)
    cases f with
    | next => exact wpN_pure ⟨rfl, h₃⟩
    | cont => exact wpN_pure ⟨rfl, h₃⟩
    | brk => exact wpN_pure h₃
    | ret v => exact wpN_pure h₃
/-- a loop over an iterator: J holds of the whole state -/
theorem n_for {target : PySem.Expr} {body : List Stmt} {I : Addr} {fp : List Addr} {n : Nat} {P : Nat → Value → Prop} {St : Nat → Heap → Prop} {Q : Flow → Shared → Prop} (J : Nat → Shared → Prop) (W : Walks prog w A I fp [I] n P St) (hJ : ∀ i s, J i s → St i s.heap)
    (hgo : ∀ i v s' (Q' : Unit → Shared → Prop), P i v → St (i + 1) s'.heap → Q' () s' → wpAny (model prog w) A (letOwnedTupleGo target (.ref I) v) Q' Fl s')
    (turn : ∀ i s v h₁ tk₁, i < n → J i s → P i v → St (i + 1) h₁ → (∀ b o, b ∉ [I] → s.heap.get? b = some o → h₁.get? b = some o) →
      wpN (model prog w) A (assign target env v) (fun _ s₂ => wpN (model prog w) A (execs body env) (fun f s₃ => match f with | .next => J (i + 1) s₃ | .cont => J (i + 1) s₃ | .brk => Q .next s₃ | .ret v => Q (.ret v) s₃) Fl s₂) Fl { s with heap := h₁, toks := tk₁ })
    (fin : ∀ s h₁ tk₁, J n s → (∀ b o, b ∉ [I] → s.heap.get? b = some o → h₁.get? b = some o) → Q .next { s with heap := h₁, toks := tk₁ }) (h : J 0 s) :
    codeN (model prog w) A (.forLoop target (.ref I) body [] env) (fun r s' => match r with | .ok f => Q f s' | .error _ => False) s := by
  have key : ∀ k i s, k = n - i → i ≤ n → J i s → codeN (model prog w) A (.forLoop target (.ref I) body [] env) (fun r s' => match r with | .ok f => Q f s' | .error _ => False) s := by
    intro k
    induction k with
    | zero =>
      intro i s hk hi hj
      obtain rfl : i = n := by omega
      exact n_forLoop (W.done s _ _ (hJ _ _ hj) fun h₁ tk₁ hk₁ => fin s h₁ tk₁ hj hk₁)
    | succ k ih =>
      intro i s hk hi hj
      refine n_forLoop (W.item i s _ _ (by omega) (hJ _ _ hj) fun v h₁ tk₁ hP hst hk₁ => ?_)
      refine hgo i v _ _ hP hst ?_
      refine wpN_mono (turn i s v h₁ tk₁ (by omega) hj hP hst hk₁) (fun _ s₂ h₂ => wpN_mono h₂ (fun f s₃ h₃ => ?_) fun _ _ x => x) fun _ _ x => x
      cases f with
      | next => exact ih (i + 1) s₃ (by omega) (by omega) h₃
      | cont => exact ih (i + 1) s₃ (by omega) (by omega) h₃
      | brk => exact h₃
      | ret v => exact h₃
  exact key n 0 s (by omega) (Nat.zero_le _) h
end
theorem off_NG : True := by
  w_top off
  trivial
/-- the tests of a comprehension -/
noncomputable abbrev tests (ifs : List PySem.Expr) (env : Env) : Sem Bool := forIn ifs true fun c r => if r = true then do let ok ← isTrue c env (eval c env); pure (ForInStep.yield ok) else pure (ForInStep.yield r)
section
variable {M : Model} {A : Around} {s : Shared} {env : Env} {Q : Bool → Shared → Prop} {E : Value → Shared → Prop}
theorem n_tests0 (h : Q true s) : wpN M A (tests [] env) Q E s := wpN_pure h
theorem n_tests1 {c : PySem.Expr} (h : wpN M A (isTrue c env (eval c env)) Q E s) : wpN M A (tests [c] env) Q E s := by
  unfold tests
  rw [List.forIn_cons]
  simp only [if_true]
  exact wpN_bind (wpN_bind (wpN_mono h (fun b s' hb => wpN_pure (wpN_pure hb)) fun _ _ x => x))
end
section
variable {prog : Program} {w : World} {A : Around} {s : Shared} {env : Env}
theorem n_compLoopT {elt target iter : PySem.Expr} {ifs : List PySem.Expr} {scope : Scope} {pos : Pos} {it acc : Value} {R : Result → Shared → Prop}
    (h : wpAny (model prog w) A (pyNext it) (fun r s₁ => match r with
      | none => R (.ok .next) s₁
      | some v => wpAny (model prog w) A (letOwnedTupleGo target it v) (fun _ s₁' => wpN (model prog w) A (assign target env v) (fun _ s₂ => wpN (model prog w) A (tests ifs env) (fun ok s₂' => if ok = true then
          wpN (model prog w) A (eval elt env) (fun x s₃ =>
          wpAny (model prog w) A (call (.builtin "list.append") [acc, x]) (fun _ s₄ => codeN (model prog w) A (.compLoop (.ListComp elt [⟨target, iter, ifs, 0⟩] scope pos) 0 it acc env) R s₄) Fl s₃) Fl s₂'
          else codeN (model prog w) A (.compLoop (.ListComp elt [⟨target, iter, ifs, 0⟩] scope pos) 0 it acc env) R s₂') Fl s₂) Fl s₁') Fl s₁) Fl s) :
    codeN (model prog w) A (.compLoop (.ListComp elt [⟨target, iter, ifs, 0⟩] scope pos) 0 it acc env) R s := by
  refine codeN_of_tree rfl ?_
  show wpN _ _ ((compTurn (.ListComp elt [⟨target, iter, ifs, 0⟩] scope pos) 0 it acc env).onRaise (fun x => do noteFrame x env; theTreesLotGoes x)) _ _ s
  refine n_noRaise (n_onRaise0 ?_)
  rw [compTurn_list]
  refine wpN_bind (wpN_standAt (wpN_step (wpAny_mono h (fun r s₁ h₁ => ?_) fun _ _ x => x)))
  cases r with
  | none => exact wpN_pure h₁
  | some v =>
    refine wpN_step (wpAny_mono h₁ (fun _ s₁' h₁' => ?_) fun _ _ x => x)
    refine wpN_bind (wpN_mono h₁' (fun _ s₂ h₂ => wpN_bind (wpN_mono h₂ (fun ok s₂' h₂' => ?_) fun _ _ x => x)) fun _ _ x => x)
    cases ok with
    | false => exact wpN_pure ⟨rfl, h₂'⟩
    | true =>
      refine wpN_bind (wpN_bind (wpN_mono h₂' (fun x s₃ h₃ => ?_) fun _ _ x => x))
      exact wpN_step (wpAny_mono h₃ (fun _ s₄ h₄ => wpN_pure (wpN_pure ⟨rfl, h₄⟩)) fun _ _ x => x)
theorem n_compStartT {elt target iter : PySem.Expr} {ifs : List PySem.Expr} {scope : Scope} {pos : Pos} {it acc : Value} {R : Result → Shared → Prop}
    (h0 : codeN (model prog w) A (.compLoop (.ListComp elt [⟨target, iter, ifs, 0⟩] scope pos) 0 it acc env) R s)
    (h : wpAny (model prog w) A (pyIter it) (fun it' s' => codeN (model prog w) A (.compLoop (.ListComp elt [⟨target, iter, ifs, 0⟩] scope pos) 0 it' acc env) R s') Fl s) :
    codeN (model prog w) A (.compStart (.ListComp elt [⟨target, iter, ifs, 0⟩] scope pos) 0 it acc env) R s := by
  refine codeN_of_tree rfl ?_
  show wpN _ _ ((compStart (.ListComp elt [⟨target, iter, ifs, 0⟩] scope pos) 0 it acc env).onRaise (fun x => do noteFrame x env; standAt theWindowsPlace)) _ _ s
  refine n_noRaise (n_onRaise0 ?_)
  unfold compStart
  show wpN _ _ (ask >>= _) _ _ s
  refine wpN_bind (wpN_any (wpAny_askSetting ?_))
  split
  · exact wpN_pure (And.intro rfl h0)
  · refine wpN_bind (wpN_rule ?_)
    show wpN _ _ (standAt iter.pos >>= _) _ _ s
    exact wpN_bind (wpN_standAt (wpN_step (wpAny_mono h (fun it' s' h' => wpN_pure (And.intro rfl h')) fun _ _ x => x)))
/-- what a comprehension comes to: its list and its frame -/
noncomputable abbrev CompOut (prog : Program) (w : World) (A : Around) (e : PySem.Expr) (scope : Scope) (cl : List (Str × Addr)) (env : Env) (it : Value) (RR : Addr → Addr → Shared → Prop) (s : Shared) : Prop :=
  wpAny (model prog w) A (newList []) (fun acc s₃ => wpAny (model prog w) A (newFunctionEnv scope env.globals cl [] env.qual none .none (some env)) (fun cenv s₄ =>
    codeN (model prog w) A (.compStart e 0 it acc { cenv with scope := relabel scope env }) (fun r s' => match r with | .ok _ => ∃ D, acc = .ref D ∧ RR D cenv.locals s' | .error _ => False) s₄) Fl s₃) Fl s
/-- no item more -/
noncomputable def CSkip (h₀ : Heap) (L : Addr) (m : Str → Option Value) (s : Shared) (I : Addr) (oI : Obj) (C D : Addr) (ys : List Value) (J : List Value → List (Addr × Obj) → Prop) (s₃ : Shared) : Prop :=
  ∃ h' tk' oC' news', s₃ = { s with heap := h', toks := tk' } ∧ (∃ mC', NsObj oC' mC') ∧ Fr h₀ L h' m ∧ News h₀ L h' ((I, oI) :: (C, oC') :: (D, lst ys) :: news') ∧ Off3 I C D news' ∧ J ys news'
theorem CSkip.intro {h₀ h' : Heap} {L : Addr} {m : Str → Option Value} {s : Shared} {I : Addr} {oI oC' : Obj} {C D : Addr} {ys : List Value} {J : List Value → List (Addr × Obj) → Prop} {tk' : Nat} {mC' : Str → Option Value} {news' : List (Addr × Obj)}
    (F : Fr h₀ L h' m) (N : News h₀ L h' ((I, oI) :: (C, oC') :: (D, lst ys) :: news')) (c : NsObj oC' mC') (off : Off3 I C D news') (j : J ys news') : CSkip h₀ L m s I oI C D ys J { s with heap := h', toks := tk' } :=
  ⟨h', tk', oC', news', rfl, ⟨mC', c⟩, F, N, off, j⟩
variable {h₀ : Heap} {L : Addr} {m : Str → Option Value}
theorem n_compG {elt target iter : PySem.Expr} {ifs : List PySem.Expr} {scope : Scope} {pos : Pos} {cl : List (Str × Addr)} {I : Addr} {fp : List Addr} {n : Nat} {P : Nat → Value → Prop} {St : Nat → Heap → Prop} {news : List (Addr × Obj)} {RR : Addr → Addr → Shared → Prop}
    (J : Nat → List Value → List (Addr × Obj) → Prop) (W : Walks prog w A I fp [I] n P St) (hn : n ≤ 1000) (hIo : ∀ i h, St i h → ∃ o, h.get? I = some o)
    (hSt : ∀ i h h' o nw ys, St i h → h.get? I = some o → h'.get? I = some o → (∀ b o, h₀.get? b = some o → h'.get? b = some o) → News h₀ L h' nw → J i ys nw → St i h')
    (hcell : ∀ y ∈ scope.names, y.2 ≠ .cell) (hkind : scope.kind = .function) (hst : St 0 s.heap) (hfp : ∀ b ∈ fp, b < s.heap.objs.size)
    (F : Fr h₀ L s.heap m) (N : News h₀ L s.heap news) (hIL : L ≠ I) (hI₀ : h₀.get? I = none) (off : ∀ p ∈ news, p.1 ≠ I) (hJ : J 0 [] news)
    (hgo : ∀ i v s' (Q' : Unit → Shared → Prop), P i v → St (i + 1) s'.heap → Q' () s' → wpAny (model prog w) A (letOwnedTupleGo target (.ref I) v) Q' Fl s')
    (turn : ∀ i ys v news₁ oI C oC D h₁ tk₁, i < n → ys.length ≤ i → P i v → J i ys news₁ → (∃ mC, NsObj oC mC) → Fr h₀ L h₁ m → News h₀ L h₁ ((I, oI) :: (C, oC) :: (D, lst ys) :: news₁) → Off3 I C D news₁ → @Ne Nat I C → @Ne Nat I D → @Ne Nat C D →
      wpN (model prog w) A (assign target (compEnvC scope cl C env) v) (fun _ s₂ => wpN (model prog w) A (tests ifs (compEnvC scope cl C env)) (fun ok s₂' => if ok = true then
        wpN (model prog w) A (eval elt (compEnvC scope cl C env)) (CEnd h₀ L m s I oI C D ys (J (i + 1))) Fl s₂'
        else CSkip h₀ L m s I oI C D ys (J (i + 1)) s₂') Fl s₂) Fl { s with heap := h₁, toks := tk₁ })
    (fin : ∀ D C oC h tk ys news', (∃ mC, NsObj oC mC) → Fr h₀ L h m → News h₀ L h ((C, oC) :: (D, lst ys) :: news') → @Ne Nat C D → (∀ p ∈ news', p.1 ≠ C ∧ p.1 ≠ D) → ys.length ≤ n → J n ys news' → RR D C { s with heap := h, toks := tk }) :
    CompOut prog w A (.ListComp elt [⟨target, iter, ifs, 0⟩] scope pos) scope cl env (.ref I) RR s := by
  unfold CompOut
  refine wpAny_newObj_type (wpAny_newFunctionEnv hcell (by intro y hy; simp at hy) (fun h₁ hns₁ hsb₁ => ?_) hkind)
  dsimp only at hns₁ hsb₁ ⊢
  have hIlt : @LT.lt Nat _ I s.heap.objs.size := hfp I (W.sub I (List.mem_singleton.mpr rfl))
  have hLlt : @LT.lt Nat _ L s.heap.objs.size := F.ns.lt
  have fresh₀ : ∀ a, s.heap.objs.size ≤ a → h₀.get? a = none := fun a ha => kts_none F.keep (Heap.get?_none_of_le ha)
  generalize hD : s.heap.objs.size = D at *
  generalize hH2 : s.heap.push { cls := .type "list", dict := none, data := .seq ([] : List Value).toArray } = H2 at hns₁ hsb₁ ⊢
  have hC : H2.objs.size = D + 1 := by rw [← hH2, Heap.size_push, hD]
  generalize H2.objs.size = C at *
  subst hC
  have old : ∀ b o, s.heap.get? b = some o → h₁.get? b = some o := fun b o e => by
    have hb : @LT.lt Nat _ b s.heap.objs.size := Heap.lt_size e
    rw [hD] at hb
    exact hsb₁.extBut b o (neA (by omega)) (Heap.get?_push_of_some _ (hH2 ▸ Heap.get?_push_of_some _ e))
  have hacc : h₁.get? D = some (lst []) := hsb₁.extBut _ _ (neA (by omega)) (Heap.get?_push_of_some _ (hH2 ▸ (by rw [← hD]; exact Heap.get?_push_size _ rfl)))
  have hst₁ : St 0 h₁ := W.frame _ _ _ hst fun b _ o e => old b o e
  have hD₀ := fresh₀ D (Nat.le_refl _)
  have hC₀ := fresh₀ (D + 1) (Nat.le_succ _)
  have off₀ : Off3 I (D + 1) D news := Off3.of fun p hp => by
    have : @LT.lt Nat _ p.1 s.heap.objs.size := Heap.lt_size (N p hp).1
    rw [hD] at this
    exact ⟨off p hp, neA (by omega), neA (by omega)⟩
  have loop : ∀ k i ys news₁ h' tk m', k = n - i → i ≤ n → ys.length ≤ i → St i h' → Fr h₀ L h' m → h'.Ns (D + 1) m' → News h₀ L h' ((D, lst ys) :: news₁) → Off3 I (D + 1) D news₁ → J i ys news₁ →
      codeN (model prog w) A (.compLoop (.ListComp elt [⟨target, iter, ifs, 0⟩] scope pos) 0 (.ref I) (.ref D) (compEnvC scope cl (D + 1) env))
        (fun r s' => match r with | .ok _ => ∃ D', Value.ref D = .ref D' ∧ RR D' (D + 1) s' | .error _ => False) { s with heap := h', toks := tk } := by
    intro k
    induction k with
    | zero =>
      intro i ys news₁ h' tk m' hk hi hyl hst' F' hn' N' off' hJ'
      obtain rfl : i = n := by omega
      refine n_compLoopT (W.done _ _ _ hst' fun h₂ tk₂ hk₂ => ?_)
      have off3 := off'.mem
      have F₂ := fr_but F' hk₂ hIL hI₀
      have N₂ := news_but N' hk₂ fun p hp => by
        rcases List.mem_cons.mp hp with rfl | hp
        · exact Nat.ne_of_gt hIlt
        · exact (off3 p hp).1
      have hn₂ : h₂.Ns (D + 1) m' := hn'.at' fun o e => hk₂ _ o (by intro q; exact absurd (List.mem_singleton.mp q) (neA (by omega))) e
      obtain ⟨oC, heC, hoC⟩ := ns_obj hn₂
      refine ⟨D, rfl, fin D (D + 1) oC h₂ tk₂ ys news₁ ⟨_, hoC⟩ F₂ (fun p hp => ?_) (neA (by omega)) (fun p hp => ⟨(off3 p hp).2.1, (off3 p hp).2.2⟩) hyl hJ'⟩
      rcases List.mem_cons.mp hp with rfl | hp
      · exact ⟨heC, neA (by omega), hC₀⟩
      · exact N₂ p hp
    | succ k ih =>
      intro i ys news₁ h' tk m' hk hi hyl hst' F' hn' N' off' hJ'
      have off3 := off'.mem
      refine n_compLoopT (W.item i _ _ _ (by omega) hst' fun v h₂ tk₂ hPv hst₂ hk₂ => ?_)
      dsimp only
      refine hgo i v _ _ hPv hst₂ ?_
      have F₂ := fr_but F' hk₂ hIL hI₀
      have N₂ := news_but N' hk₂ fun p hp => by
        rcases List.mem_cons.mp hp with rfl | hp
        · exact Nat.ne_of_gt hIlt
        · exact (off3 p hp).1
      have hn₂ : h₂.Ns (D + 1) m' := hn'.at' fun o e => hk₂ _ o (by intro q; exact absurd (List.mem_singleton.mp q) (neA (by omega))) e
      refine cps fun G9 r9 => ?_
      obtain ⟨oI, heI⟩ := hIo _ _ hst₂
      obtain ⟨oC, heC, hoC⟩ := ns_obj hn₂
      refine r9 ?_
      clear r9 G9
      have N₃ : News h₀ L h₂ ((I, oI) :: (D + 1, oC) :: (D, lst ys) :: news₁) := fun p hp => by
        rcases List.mem_cons.mp hp with rfl | hp
        · exact ⟨heI, Ne.symm hIL, hI₀⟩
        · rcases List.mem_cons.mp hp with rfl | hp
          · exact ⟨heC, neA (by omega), hC₀⟩
          · exact N₂ p hp
      refine wpN_mono (turn i ys v news₁ oI (D + 1) oC D h₂ tk₂ (by omega) hyl hPv hJ' ⟨_, hoC⟩ F₂ N₃ off' (neA (by omega)) (neA (by omega)) (neA (by omega))) (fun _ s₂ h₂' => wpN_mono h₂' (fun ok s₂' h₂'' => ?_) fun _ _ x => x) fun _ _ x => x
      cases ok with
      | false =>
        refine cps fun G9 r9 => ?_
        obtain ⟨h₄, tk₄, oC', news₄, rfl, ⟨mC', hoC'⟩, F₄, N₄, off₄, hJ₄⟩ := (if_neg (by decide) : (if false = true then _ else _) = _) ▸ h₂''
        refine r9 ?_
        clear r9 G9
        have zI := (N₄ (I, oI) (.head _)).1
        have zC := (N₄ (D + 1, oC') (.tail _ (.head _))).1
        have N₄' : News h₀ L h₄ news₄ := fun p hp => N₄ p (.tail _ (.tail _ (.tail _ hp)))
        have hst₄ : St (i + 1) h₄ := hSt _ _ _ _ _ _ hst₂ heI zI F₄.keep N₄' hJ₄
        exact ih (i + 1) ys news₄ h₄ tk₄ mC' (by omega) (by omega) (by omega) hst₄ F₄ (hoC'.ns zC) (fun p hp => N₄ p (.tail _ (.tail _ hp))) off₄ hJ₄
      | true =>
      refine wpN_mono ((if_pos rfl : (if true = true then _ else _) = _) ▸ h₂'') (fun y s₃ h₃ => ?_) fun _ _ x => x
      refine cps fun G9 r9 => ?_
      obtain ⟨h₄, tk₄, oC', news₄, rfl, ⟨mC', hoC'⟩, F₄, N₄, off₄, hJ₄⟩ := h₃
      refine r9 ?_
      clear r9 G9
      have zI := (N₄ (I, oI) (.head _)).1
      have zC := (N₄ (D + 1, oC') (.tail _ (.head _))).1
      have zD := (N₄ (D, lst ys) (.tail _ (.tail _ (.head _)))).1
      have N₄' : News h₀ L h₄ news₄ := fun p hp => N₄ p (.tail _ (.tail _ (.tail _ hp)))
      have hst₄ : St (i + 1) h₄ := hSt _ _ _ _ _ _ hst₂ heI zI F₄.keep N₄' hJ₄
      refine append_at (hsz := by show ys.toArray.size ≤ sizeLine; rw [List.size_toArray, sizeLine_eq]; omega) zD fun h₅ hs₅ hD₅ => ?_
      have off4 := off₄.mem
      have keep5 : ∀ b o, b ≠ D → h₄.get? b = some o → h₅.get? b = some o := fun b o nb e => hs₅.extBut b o nb e
      refine ih (i + 1) (ys ++ [y]) news₄ h₅ tk₄ mC' (by omega) (by omega) (by rw [List.length_append]; show ys.length + 1 ≤ i + 1; omega) ?_ (F₄.change hs₅ (neA (by omega)) hD₀) ((hoC'.ns zC).sameBut hs₅ (neA (by omega))) (fun p hp => ?_) off₄ hJ₄
      · refine hSt _ _ _ _ _ _ hst₂ heI (keep5 _ _ (neA (by omega)) zI) (fun b o e => keep5 b o (fun q => by rw [q, hD₀] at e; cases e) (F₄.keep b o e)) (fun p hp => ⟨keep5 _ _ (off4 p hp).2.2 (N₄' p hp).1, (N₄' p hp).2⟩) hJ₄
      · rcases List.mem_cons.mp hp with rfl | hp
        · exact ⟨hD₅.trans (congrArg some (lst_snoc ys y)), neA (by omega), hD₀⟩
        · exact ⟨keep5 _ _ (off4 p hp).2.2 (N₄' p hp).1, (N₄' p hp).2⟩
  have N₁ : News h₀ L h₁ ((D, lst []) :: news) := fun p hp => by
    rcases List.mem_cons.mp hp with rfl | hp
    · exact ⟨hacc, neA (by omega), hD₀⟩
    · exact ⟨old _ _ (N p hp).1, (N p hp).2⟩
  have l0 := fun tk => loop n 0 [] news h₁ tk _ (by omega) (Nat.zero_le _) (Nat.le_refl _) hst₁ (F.keeps old) hns₁ N₁ off₀ hJ
  exact n_compStartT (l0 _) (W.self 0 _ _ _ hst₁ (l0 _))
end
theorem off_NH : True := by
  w_top off
  trivial
/-- the list goes on as a value -/
noncomputable abbrev OutE (Q : Value → Shared → Prop) (D C : Addr) (s' : Shared) : Prop := ∃ m, s'.heap.Ns C m ∧ ∀ h', Heap.SameBut C s'.heap h' → Q (.ref D) { s' with heap := h' }
/-- the list is bound to a name -/
noncomputable abbrev OutA (prog : Program) (w : World) (A : Around) (env : Env) (y : Str) (py : Pos) (Q : Flow → Shared → Prop) (D C : Addr) (s' : Shared) : Prop :=
  wpAny (model prog w) A (assign (.Name y py) env (.ref D)) (fun _ s'' => ∃ m, s''.heap.Ns C m ∧ ∀ h', Heap.SameBut C s''.heap h' → Q .next { s'' with heap := h' }) Fl s'
section
variable {prog : Program} {w : World} {A : Around} {s : Shared} {env : Env}
theorem n_ListCompT {elt target iter : PySem.Expr} {ifs : List PySem.Expr} {scope : Scope} {pos : Pos} {cl : List (Str × Addr)} {Q : Value → Shared → Prop}
    (hclos : closureFor scope env = pure cl) (hkind : scope.kind = .function) (hnames : ∀ x ∈ scope.names, x.2 = .local → scope.names.lookup x.1 = some .local)
    (h : wpN (model prog w) A (eval iter env) (fun x s₁ => wpAny (model prog w) A (pyIter x) (fun it s₂ => CompOut prog w A (.ListComp elt [⟨target, iter, ifs, 0⟩] scope pos) scope cl env it (OutE Q) s₂) Fl s₁) Fl s)
    (hs : ∀ x, foldedSetIterable iter env x = pure x := by intro _; rfl) :
    wpN (model prog w) A (eval (.ListComp elt [⟨target, iter, ifs, 0⟩] scope pos) env) Q Fl s := by
  rw [eval_ListComp]
  show wpN _ _ (comprehension (.ListComp elt [⟨target, iter, ifs, 0⟩] scope pos) scope env (firstIterPos [⟨target, iter, ifs, 0⟩] pos) (newList []) false (eval iter env)) _ _ s
  unfold comprehension
  rw [hclos]
  have hcl : clausesOf (.ListComp elt [⟨target, iter, ifs, 0⟩] scope pos) = [⟨target, iter, ifs, 0⟩] := rfl
  rw [hcl]
  refine wpN_bind (wpN_mono h (fun x s₁ h₁ => wpN_bind (wpN_standAt (wpN_step (wpAny_of_eq (hs x) (wpN_step (wpAny_holding (wpAny_mono h₁ (fun it s₂ h₂ => ?_) fun _ _ x => x))))))) fun _ _ x => x)
  show wpN _ _ (newList [] >>= _) _ _ _
  refine wpN_step (wpAny_mono h₂ (fun acc s₃ h₃ => wpN_step (wpAny_pure (wpN_step (wpAny_mono h₃ (fun cenv s₄ h₄ => ?_) fun _ _ x => x)))) fun _ _ x => x)
  dsimp only
  have hv : ∀ x ∈ (scope.names.filter fun x => (x.2 == .local || x.2 == .cell) && x.1 != (".0" : Str)).reverse, x.2 = .local →
      Env.kindOf { cenv with scope := relabel scope env } x.1 = some .local := fun x hx hl => lookup_relabel_local (hnames x (List.mem_filter.mp (List.mem_reverse.mp hx)).1 hl)
  refine wpN_holding (wpN_bind (wpN_attempt (wpN_holding (wpN_run (h := none) (codeN_mono h₄ fun r s' hr => ?_)))))
  cases r with
  | ok f =>
    refine cps fun G9 r9 => ?_
    obtain ⟨D, rfl, m, hn, hr⟩ := hr
    refine r9 ?_
    clear r9 G9
    exact wpN_step (wpAny_holding (wpAny_comp_letGo (cenv := { cenv with scope := relabel scope env }) hkind _ s' m hv hn fun h' m' _ hs' => wpN_pure (hr h' hs')))
  | error x => exact hr.elim
theorem n_AssignComp {elt target iter : PySem.Expr} {ifs : List PySem.Expr} {scope : Scope} {pos spos py : Pos} {y : Str} {cl : List (Str × Addr)} {Q : Flow → Shared → Prop}
    (hsw : swapsWith (.ListComp elt [⟨target, iter, ifs, 0⟩] scope pos) (some (.Name y py)) spos.line env = pure true)
    (hclos : closureFor scope env = pure cl) (hkind : scope.kind = .function) (hnames : ∀ x ∈ scope.names, x.2 = .local → scope.names.lookup x.1 = some .local)
    (h : wpN (model prog w) A (eval iter env) (fun x s₁ => wpAny (model prog w) A (pyIter x) (fun it s₂ => CompOut prog w A (.ListComp elt [⟨target, iter, ifs, 0⟩] scope pos) scope cl env it (OutA prog w A env y py Q) s₂) Fl s₁) Fl s)
    (hs : ∀ x, foldedSetIterable iter env x = pure x := by intro _; rfl) :
    wpN (model prog w) A (exec (.Assign [.Name y py] (.ListComp elt [⟨target, iter, ifs, 0⟩] scope pos) spos) env) Q Fl s := by
  rw [exec_Assign_Name_used _ _ _ _ hsw]
  refine wpN_bind (wpN_standAt (wpN_bind ?_))
  show wpN _ _ (comprehension (.ListComp elt [⟨target, iter, ifs, 0⟩] scope pos) scope env (firstIterPos [⟨target, iter, ifs, 0⟩] pos) (newList []) false (eval iter env) (some (assign (.Name y py) env)) >>= _) _ _ s
  refine wpN_bind ?_
  unfold comprehension
  rw [hclos]
  have hcl : clausesOf (.ListComp elt [⟨target, iter, ifs, 0⟩] scope pos) = [⟨target, iter, ifs, 0⟩] := rfl
  rw [hcl]
  refine wpN_bind (wpN_mono h (fun x s₁ h₁ => wpN_bind (wpN_standAt (wpN_step (wpAny_of_eq (hs x) (wpN_step (wpAny_holding (wpAny_mono h₁ (fun it s₂ h₂ => ?_) fun _ _ x => x))))))) fun _ _ x => x)
  refine wpN_bind (m := standAt _) (wpN_standAt ?_)
  show wpN _ _ (newList [] >>= _) _ _ _
  refine wpN_step (wpAny_mono h₂ (fun acc s₃ h₃ => wpN_step (wpAny_pure (wpN_step (wpAny_mono h₃ (fun cenv s₄ h₄ => ?_) fun _ _ x => x)))) fun _ _ x => x)
  dsimp only
  have hv : ∀ x ∈ (scope.names.filter fun x => (x.2 == .local || x.2 == .cell) && x.1 != (".0" : Str)).reverse, x.2 = .local →
      Env.kindOf { cenv with scope := relabel scope env } x.1 = some .local := fun x hx hl => lookup_relabel_local (hnames x (List.mem_filter.mp (List.mem_reverse.mp hx)).1 hl)
  have hv' : ∀ x ∈ (scope.names.filter fun x => (x.2 == .local || x.2 == .cell) && x.1 != (".0" : Str)).reverse.drop 1 ++ (scope.names.filter fun x => (x.2 == .local || x.2 == .cell) && x.1 != (".0" : Str)).reverse.take 1,
      x.2 = .local → Env.kindOf { cenv with scope := relabel scope env } x.1 = some .local := fun x hx hl => by
    rcases List.mem_append.mp hx with h1 | h1
    · exact hv x (List.mem_of_mem_drop h1) hl
    · exact hv x (List.mem_of_mem_take h1) hl
  refine wpN_holding (wpN_bind (wpN_attempt (wpN_holding (wpN_run (h := none) (codeN_mono h₄ fun r s' hr => ?_)))))
  cases r with
  | ok f =>
    obtain ⟨D, rfl, hr⟩ := hr
    refine wpN_bind (wpN_rule (wpN_step (wpAny_holding (wpAny_mono hr (fun _ s'' hr' => ?_) fun _ _ h' => h'))))
    obtain ⟨m, hn, hr'⟩ := hr'
    exact wpN_step (wpAny_comp_letGo (cenv := { cenv with scope := relabel scope env }) hkind _ s'' m hv' hn fun h' m' _ hs' => wpN_pure (wpN_pure (wpN_pure (hr' h' hs'))))
  | error x => exact hr.elim
variable {h₀ : Heap} {L : Addr} {m : Str → Option Value}
theorem outE {Q : Value → Shared → Prop} {D C : Addr} {oC : Obj} {h : Heap} {tk : Nat} {ys : List Value} {news' : List (Addr × Obj)} (c : ∃ mC, NsObj oC mC) (F : Fr h₀ L h m) (N : News h₀ L h ((C, oC) :: (D, lst ys) :: news')) (nCD : @Ne Nat C D) (off : ∀ p ∈ news', p.1 ≠ C ∧ p.1 ≠ D)
    (fin : ∀ h', Fr h₀ L h' m → News h₀ L h' ((D, lst ys) :: news') → Off1 D news' → Q (.ref D) { s with heap := h', toks := tk }) : OutE Q D C { s with heap := h, toks := tk } := by
  obtain ⟨mC, hC⟩ := c
  have nC := N _ (.head _)
  refine ⟨mC, hC.ns nC.1, fun h' hs' => fin h' (F.change hs' nC.2.1 nC.2.2) (fun p hp => ?_) ?_⟩
  · refine ⟨hs'.extBut _ _ ?_ (N p (.tail _ hp)).1, (N p (.tail _ hp)).2⟩
    rcases List.mem_cons.mp hp with rfl | hp
    · exact Ne.symm nCD
    · exact (off p hp).1
  · clear N fin
    induction news' with
    | nil => trivial
    | cons q r ih => exact ⟨(off _ (.head _)).2, ih fun p hp => off p (.tail _ hp)⟩
theorem outA {Q : Flow → Shared → Prop} {y : Str} {py : Pos} {D C : Addr} {oC : Obj} {h : Heap} {tk : Nat} {ys : List Value} {news' : List (Addr × Obj)} (c : ∃ mC, NsObj oC mC) (F : Fr h₀ L h m) (N : News h₀ L h ((C, oC) :: (D, lst ys) :: news')) (nCD : @Ne Nat C D) (off : ∀ p ∈ news', p.1 ≠ C ∧ p.1 ≠ D)
    (hL : env.locals = L) (hy : env.kindOf y = some .local) (hp : (env.scope.kind == .class || (env.scope.kind == .module && env.locals != env.globals)) = false)
    (fin : ∀ h' tk', Fr h₀ L h' (fun z => if z = y then some (.ref D) else m z) → News h₀ L h' ((D, lst ys) :: news') → Off1 D news' → Q .next { s with heap := h', toks := tk' }) : OutA prog w A env y py Q D C { s with heap := h, toks := tk } := by
  subst hL
  refine wpAny_assign_Name (wpAny_storeName_local hy F.ns (fun h₂ hn₂ hs₂ => ?_) hp)
  have hL₀ : h₀.get? env.locals = none := Heap.get?_none_of_le F.above
  have F₂ : Fr h₀ env.locals h₂ (fun z => if z = y then some (.ref D) else m z) := F.set hn₂ hs₂
  exact outE c F₂ (News.set N hs₂) nCD off (Q := fun _ => Q .next) (fun h' F' N' o1 => fin h' _ F' N' o1)
end
theorem off_NI : True := by
  w_top off
  trivial
section
variable {prog : Program} {w : World} {A : Around} {s : Shared} {env : Env} {h₀ : Heap} {L : Addr} {m : Str → Option Value}
/-- a name is bound in a comprehension's frame -/
theorem storeC {M : Model} {E : Value → Shared → Prop} {scope : Scope} {cl : List (Str × Addr)} {I C D : Addr} {oI oC oD : Obj} {mC : Str → Option Value} {news : List (Addr × Obj)} {x : Str} {v : Value} {Q : Unit → Shared → Prop}
    (F : Fr h₀ L s.heap m) (N : News h₀ L s.heap ((I, oI) :: (C, oC) :: (D, oD) :: news)) (c : NsObj oC mC) (off : Off3 I C D news) (nIC : @Ne Nat I C) (nCD : @Ne Nat C D) (hkind : scope.kind = .function) (hx : scope.names.lookup x = some .local)
    (h : ∀ h₂ oC2, Fr h₀ L h₂ m → News h₀ L h₂ ((I, oI) :: (C, oC2) :: (D, oD) :: news) → NsObj oC2 (fun z => if z = x then some v else mC z) → Q () { s with heap := h₂, toks := s.toks + 1 }) :
    wpAny M A (storeName (compEnvC scope cl C env) x v) Q E s := by
  have nC := N _ (.tail _ (.head _))
  have off3 := off.mem
  refine wpAny_storeName_local (lookup_relabel_local hx) (c.ns nC.1) (fun h₂ hn₂ hs₂ => ?_) (by simp [compEnvC, relabel, hkind])
  obtain ⟨oC2, heC2, hoC2⟩ := ns_obj hn₂
  refine h h₂ oC2 (F.change hs₂ nC.2.1 nC.2.2) (fun p hp => ?_) hoC2
  rcases List.mem_cons.mp hp with rfl | hp
  · exact ⟨hs₂.extBut _ _ nIC (N _ (.head _)).1, (N _ (.head _)).2⟩
  · rcases List.mem_cons.mp hp with rfl | hp
    · exact ⟨heC2, nC.2⟩
    · refine ⟨hs₂.extBut _ _ ?_ (N _ (.tail _ (.tail _ hp))).1, (N _ (.tail _ (.tail _ hp))).2⟩
      rcases List.mem_cons.mp hp with rfl | hp
      · exact Ne.symm nCD
      · exact (off3 p hp).2.1
/-- a turn with one name -/
noncomputable abbrev Turn1 (prog : Program) (w : World) (A : Around) (h₀ : Heap) (L : Addr) (m : Str → Option Value) (s : Shared) (env : Env) (scope : Scope) (cl : List (Str × Addr)) (elt : PySem.Expr) (ifs : List PySem.Expr) (x : Str) (J : Nat → List Value → List (Addr × Obj) → Prop) (n : Nat) (P : Nat → Value → Prop) : Prop :=
  ∀ (i : Nat) (ys : List Value) (v : Value) (news₁ : List (Addr × Obj)) (I : Addr) (oI : Obj) (C : Addr) (oC : Obj) (D : Addr) (mC : Str → Option Value) (h₁ : Heap) (tk₁ : Nat), i < n → ys.length ≤ i → P i v → J i ys news₁ → NsObj oC (fun z => if z = x then some v else mC z) → Fr h₀ L h₁ m → News h₀ L h₁ ((I, oI) :: (C, oC) :: (D, lst ys) :: news₁) → Off3 I C D news₁ → @Ne Nat I C → @Ne Nat I D → @Ne Nat C D →
    wpN (model prog w) A (tests ifs (compEnvC scope cl C env)) (fun ok s₂' => if ok = true then
      wpN (model prog w) A (eval elt (compEnvC scope cl C env)) (CEnd h₀ L m s I oI C D ys (J (i + 1))) Fl s₂'
      else CSkip h₀ L m s I oI C D ys (J (i + 1)) s₂') Fl { s with heap := h₁, toks := tk₁ }
/-- a turn with two names -/
noncomputable abbrev Turn2 (prog : Program) (w : World) (A : Around) (h₀ : Heap) (L : Addr) (m : Str → Option Value) (s : Shared) (env : Env) (scope : Scope) (cl : List (Str × Addr)) (elt : PySem.Expr) (ifs : List PySem.Expr) (x y : Str) (J : Nat → List Value → List (Addr × Obj) → Prop) (n : Nat) (P : Nat → Value → Value → Prop) : Prop :=
  ∀ (i : Nat) (ys : List Value) (a b : Value) (news₁ : List (Addr × Obj)) (I : Addr) (oI : Obj) (C : Addr) (oC : Obj) (D : Addr) (mC : Str → Option Value) (h₁ : Heap) (tk₁ : Nat), i < n → ys.length ≤ i → P i a b → J i ys news₁ → NsObj oC (fun z => if z = y then some b else if z = x then some a else mC z) → Fr h₀ L h₁ m → News h₀ L h₁ ((I, oI) :: (C, oC) :: (D, lst ys) :: news₁) → Off3 I C D news₁ → @Ne Nat I C → @Ne Nat I D → @Ne Nat C D →
    wpN (model prog w) A (tests ifs (compEnvC scope cl C env)) (fun ok s₂' => if ok = true then
      wpN (model prog w) A (eval elt (compEnvC scope cl C env)) (CEnd h₀ L m s I oI C D ys (J (i + 1))) Fl s₂'
      else CSkip h₀ L m s I oI C D ys (J (i + 1)) s₂') Fl { s with heap := h₁, toks := tk₁ }
/-- the end of a comprehension -/
noncomputable abbrev Fin1 (h₀ : Heap) (L : Addr) (m : Str → Option Value) (s : Shared) (J : Nat → List Value → List (Addr × Obj) → Prop) (n : Nat) (RR : Addr → Addr → Shared → Prop) : Prop :=
  ∀ D C oC h tk ys news', (∃ mC, NsObj oC mC) → Fr h₀ L h m → News h₀ L h ((C, oC) :: (D, lst ys) :: news') → @Ne Nat C D → (∀ p ∈ news', p.1 ≠ C ∧ p.1 ≠ D) → ys.length ≤ n → J n ys news' → RR D C { s with heap := h, toks := tk }
theorem src_list {elt target iter : PySem.Expr} {ifs : List PySem.Expr} {scope : Scope} {pos : Pos} {cl : List (Str × Addr)} {l : Addr} {its : List Value} {news : List (Addr × Obj)} {RR : Addr → Addr → Shared → Prop}
    (J : Nat → List Value → List (Addr × Obj) → Prop) (hh : A.handled = none) (F : Fr h₀ L s.heap m) (N : News h₀ L s.heap news) (hsz : its.length ≤ 1000) (hJs : ∀ i ys nw, J i ys nw → SrcAt h₀ l its.toArray nw)
    (hcell : ∀ y ∈ scope.names, y.2 ≠ .cell) (hkind : scope.kind = .function) (hJ : J 0 [] news)
    (turn : ∀ i ys v news₁ I oI C oC D h₁ tk₁, i < its.length → ys.length ≤ i → its[i]? = some v → J i ys news₁ → (∃ mC, NsObj oC mC) → Fr h₀ L h₁ m → News h₀ L h₁ ((I, oI) :: (C, oC) :: (D, lst ys) :: news₁) → Off3 I C D news₁ → @Ne Nat I C → @Ne Nat I D → @Ne Nat C D →
      wpN (model prog w) A (assign target (compEnvC scope cl C env) v) (fun _ s₂ => wpN (model prog w) A (tests ifs (compEnvC scope cl C env)) (fun ok s₂' => if ok = true then
        wpN (model prog w) A (eval elt (compEnvC scope cl C env)) (CEnd h₀ L m s I oI C D ys (J (i + 1))) Fl s₂'
        else CSkip h₀ L m s I oI C D ys (J (i + 1)) s₂') Fl s₂) Fl { s with heap := h₁, toks := tk₁ })
    (hgo : ∀ I v s' i (Q' : Unit → Shared → Prop), v ∈ its → s'.heap.IsListIter I l i → Q' () s' → wpAny (model prog w) A (letOwnedTupleGo target (.ref I) v) Q' Fl s')
    (fin : Fin1 h₀ L m s J its.length RR) :
    wpAny (model prog w) A (pyIter (.ref l)) (fun it s₂ => CompOut prog w A (.ListComp elt [⟨target, iter, ifs, 0⟩] scope pos) scope cl env it RR s₂) Fl s := by
  have hl := (hJs _ _ _ hJ).list F.keep N
  obtain ⟨ol, hol, _⟩ := id hl
  have hlt : @LT.lt Nat _ l s.heap.objs.size := Heap.lt_size hol
  refine wpAny_pyIter_list hl ?_
  have esz : its.toArray.size = its.length := List.size_toArray
  refine n_compG (J := J) (m := m) (h₀ := h₀) (L := L) (news := news) (Walks.list hh s.heap.objs.size l (Nat.ne_of_lt hlt) its.toArray) (by rw [esz]; exact hsz) (fun i h st => let ⟨o, e, _⟩ := st.1; ⟨o, e⟩) ?_ hcell hkind ?_ ?_ ?_ ?_ ?_ ?_ ?_ ?_ ?_ ?_ ?_
  · intro i h h' o nw ys z9a e e' k N' j
    refine cps fun G7 r7 => ?_
    obtain ⟨⟨oi, hi, hr⟩, -⟩ := z9a
    refine r7 ?_
    clear r7 G7
    rw [hi] at e
    cases e
    exact ⟨⟨_, e', hr⟩, (hJs _ _ _ j).list k N'⟩
  · exact ⟨⟨_, Heap.get?_push_size _ rfl, rfl, rfl⟩, hl.at fun o e => Heap.get?_push_of_some _ e⟩
  · intro b hb
    show @LT.lt Nat _ b (s.heap.push _).objs.size
    rw [Heap.size_push]
    rcases List.mem_cons.mp hb with rfl | hb
    · omega
    · rw [List.mem_singleton.mp hb]; omega
  · exact F.push _
  · exact fun p hp => ⟨Heap.get?_push_of_some _ (N p hp).1, (N p hp).2⟩
  · exact Nat.ne_of_lt F.ns.lt
  · exact next_is_new F
  · intro p hp
    exact Nat.ne_of_lt (Heap.lt_size (N p hp).1)
  · exact hJ
  · exact fun i v s' Q' hv st h => hgo _ _ _ _ _ (List.mem_of_getElem? (i := i) (by simpa using hv)) st.1 h
  · intro i ys v news₁ oI C oC D h₁ tk₁ hi hy hP hj c F₁ N₁ off n1 n2 n3
    exact turn i ys v news₁ _ oI C oC D h₁ tk₁ (by rw [← esz]; exact hi) hy (by simpa using hP) hj c F₁ N₁ off n1 n2 n3
  · intro D C oC h tk ys news' c F' N' n1 n2 n3 j
    rw [esz] at n3 j
    exact fin D C oC h tk ys news' c F' N' n1 n2 n3 j
theorem src_list1 {elt iter : PySem.Expr} {x : Str} {px : Pos} {ifs : List PySem.Expr} {scope : Scope} {pos : Pos} {cl : List (Str × Addr)} {l : Addr} {its : List Value} {news : List (Addr × Obj)} {RR : Addr → Addr → Shared → Prop}
    (J : Nat → List Value → List (Addr × Obj) → Prop) (hh : A.handled = none) (F : Fr h₀ L s.heap m) (N : News h₀ L s.heap news) (hsz : its.length ≤ 1000) (hJs : ∀ i ys nw, J i ys nw → SrcAt h₀ l its.toArray nw)
    (hcell : ∀ y ∈ scope.names, y.2 ≠ .cell) (hkind : scope.kind = .function) (hx : scope.names.lookup x = some .local) (hJ : J 0 [] news)
    (turn : Turn1 prog w A h₀ L m s env scope cl elt ifs x J its.length (fun i v => its[i]? = some v)) (fin : Fin1 h₀ L m s J its.length RR) :
    wpAny (model prog w) A (pyIter (.ref l)) (fun it s₂ => CompOut prog w A (.ListComp elt [⟨.Name x px, iter, ifs, 0⟩] scope pos) scope cl env it RR s₂) Fl s := by
  refine src_list J hh F N hsz hJs hcell hkind hJ ?_ (fun I v s' i Q' _ st h => letGo_listiter st h) fin
  intro i ys v news₁ I oI C oC D h₁ tk₁ hi hy hP hj ⟨mC, c⟩ F₁ N₁ off n1 n2 n3
  refine wpN_any (wpAny_assign_Name (storeC (s := ⟨h₁, _, _, _, _⟩) F₁ N₁ c off n1 n3 hkind hx fun h₂ oC2 F₂ N₂ c2 => ?_))
  exact turn i ys v news₁ I oI C oC2 D mC h₂ _ hi hy hP hj c2 F₂ N₂ off n1 n2 n3
theorem src_list2 {elt iter : PySem.Expr} {x y : Str} {px py pt : Pos} {k : Nat} {ifs : List PySem.Expr} {scope : Scope} {pos : Pos} {cl : List (Str × Addr)} {l : Addr} {its : List Value} {news : List (Addr × Obj)} {RR : Addr → Addr → Shared → Prop}
    (J : Nat → List Value → List (Addr × Obj) → Prop) (hh : A.handled = none) (F : Fr h₀ L s.heap m) (N : News h₀ L s.heap news) (hsz : its.length ≤ 1000) (hJs : ∀ i ys nw, J i ys nw → SrcAt h₀ l its.toArray nw)
    (hcell : ∀ y ∈ scope.names, y.2 ≠ .cell) (hkind : scope.kind = .function) (hx : scope.names.lookup x = some .local) (hy' : scope.names.lookup y = some .local) (hJ : J 0 [] news) (P : Nat → Value → Value → Prop)
    (hits : ∀ v ∈ its, ∃ t, v = .ref t)
    (hP2 : ∀ i v h nw ys, its[i]? = some v → J i ys nw → Fr h₀ L h m → News h₀ L h nw → ∃ t a b, v = .ref t ∧ IsTup h t #[a, b] ∧ P i a b)
    (turn : Turn2 prog w A h₀ L m s env scope cl elt ifs x y J its.length P) (fin : Fin1 h₀ L m s J its.length RR) :
    wpAny (model prog w) A (pyIter (.ref l)) (fun it s₂ => CompOut prog w A (.ListComp elt [⟨.Tuple [.Name x px, .Name y py] k pt, iter, ifs, 0⟩] scope pos) scope cl env it RR s₂) Fl s := by
  refine src_list J hh F N hsz hJs hcell hkind hJ ?_ (fun I v s' i Q' hv st h => let ⟨t, e⟩ := hits v hv; e ▸ wpAny_letOwnedTupleGo_listiter st h) fin
  intro i ys v news₁ I oI C oC D h₁ tk₁ hi hy hP hj ⟨mC, c⟩ F₁ N₁ off n1 n2 n3
  refine cps fun G9 r9 => ?_
  obtain ⟨t, a, b, rfl, ht, hab⟩ := hP2 i v h₁ news₁ ys hP hj F₁ (fun p hp => N₁ p (.tail _ (.tail _ (.tail _ hp))))
  refine r9 ?_
  clear r9 G9
  refine wpN_any (unpackN_ (s := ⟨h₁, _, _, _, _⟩) F₁ N₁ ht hh rfl rfl fun h' F' N' => ?_)
  refine assignInOrder_cons (assign_Name (storeC (s := ⟨h', _, _, _, _⟩) F' N' c off n1 n3 hkind hx fun h₂ oC2 F₂ N₂ c2 => ?_))
  refine assignInOrder_cons (assign_Name (storeC (s := ⟨h₂, _, _, _, _⟩) F₂ N₂ c2 off n1 n3 hkind hy' fun h₃ oC3 F₃ N₃ c3 => ?_))
  refine assignInOrder_nil ?_
  exact turn i ys a b news₁ I oI C oC3 D mC h₃ _ hi hy hab hj c3 F₃ N₃ off n1 n2 n3
theorem src_range1 {elt iter : PySem.Expr} {x : Str} {px : Pos} {ifs : List PySem.Expr} {scope : Scope} {pos : Pos} {cl : List (Str × Addr)} {r : Addr} {n : Nat} {b : Int} {t u v : Tok} {news : List (Addr × Obj)} {RR : Addr → Addr → Shared → Prop}
    (J : Nat → List Value → List (Addr × Obj) → Prop) (hh : A.handled = none) (F : Fr h₀ L s.heap m) (N : News h₀ L s.heap news) (hr : IsRange s.heap r 0 b 1 t u v) (hb : b = n) (hsz : n ≤ 1000)
    (hcell : ∀ y ∈ scope.names, y.2 ≠ .cell) (hkind : scope.kind = .function) (hx : scope.names.lookup x = some .local) (hJ : J 0 [] news)
    (turn : Turn1 prog w A h₀ L m s env scope cl elt ifs x J n (fun i v => ∃ t, v = .int i t)) (fin : Fin1 h₀ L m s J n RR) :
    wpAny (model prog w) A (pyIter (.ref r)) (fun it s₂ => CompOut prog w A (.ListComp elt [⟨.Name x px, iter, ifs, 0⟩] scope pos) scope cl env it RR s₂) Fl s := by
  subst hb
  have hrs : Builtin.Range.rangeSize 0 (n : Int) 1 = n := by
    unfold Builtin.Range.rangeSize
    simp
    omega
  refine wpAny_pyIter_range hr (by unfold Builtin.Range.small Builtin.Range.rangeFitsLong; simp; rw [hrs]; omega) ?_
  refine n_compG (J := J) (m := m) (h₀ := h₀) (L := L) (news := news) (range_walks (I := s.heap.objs.size) hh 0 n) hsz (fun i h st => ⟨_, st⟩) ?_ hcell hkind ?_ ?_ ?_ ?_ ?_ ?_ ?_ ?_ ?_ ?_ ?_
  · rintro i h h' o nw ys st e e' k N' j
    exact range_st i h h' o nw st e e' k N' trivial
  · show IsRangeIter _ _ _ _ _
    rw [hrs]
    simpa using Heap.get?_push_size _ rfl
  · intro b hb
    show @LT.lt Nat _ b (s.heap.push _).objs.size
    rw [Heap.size_push, List.mem_singleton.mp hb]
    exact Nat.lt_succ_self _
  · exact F.push _
  · exact fun p hp => ⟨Heap.get?_push_of_some _ (N p hp).1, (N p hp).2⟩
  · exact Nat.ne_of_lt F.ns.lt
  · exact next_is_new F
  · intro p hp
    exact Nat.ne_of_lt (Heap.lt_size (N p hp).1)
  · exact hJ
  · exact fun i v s' Q' _ st h => wpAny_of_eq (by rfl) h
  · intro i ys v news₁ oI C oC D h₁ tk₁ hi hy hP hj ⟨mC, c⟩ F₁ N₁ off n1 n2 n3
    refine wpN_any (wpAny_assign_Name (storeC (s := ⟨h₁, _, _, _, _⟩) F₁ N₁ c off n1 n3 hkind hx fun h₂ oC2 F₂ N₂ c2 => ?_))
    refine turn i ys v news₁ _ oI C oC2 D mC h₂ _ hi hy ?_ hj c2 F₂ N₂ off n1 n2 n3
    obtain ⟨t, e⟩ := hP
    exact ⟨t, by rw [e]; congr 1; omega⟩
  · intro D C oC h tk ys news' c F' N' n1 n2 n3 j
    exact fin D C oC h tk ys news' c F' N' n1 n2 n3 j
end
theorem off_CH : True := by
  w_top off
  trivial
section
variable {M : Model} {A : Around} {E : Value → Shared → Prop} {s : Shared} {env : Env}
theorem n_methodCall {o : PySem.Expr} {name : Str} {apos pos : Pos} {args : List PySem.Expr} {pl : Sem Bool} {Q : Value → Shared → Prop}
    (h : wpAny M A (eval o env) (fun ov s₁ => wpAny M A (getMethod ov name pl) (fun fx s₂ => wpN M A (callWith pos fx.1 fx.2 (backTo pos (starEach args env)) []) Q E s₂) E s₁) E s)
    (he : eval (.Call (.Attribute o name apos) args [] pos) env = (do
      let ov ← eval o env
      standAt apos.atName
      let (f, first) ← holding [ov] (getMethod ov name pl)
      callWith pos f first (backTo pos (starEach args env)) []) := by rfl) : wpN M A (eval (.Call (.Attribute o name apos) args [] pos) env) Q E s := by
  rw [he]
  refine wpN_step (wpAny_mono h (fun ov s₁ h₁ => wpN_bind (wpN_standAt (wpN_step (wpAny_holding (wpAny_mono h₁ (fun fx s₂ h₂ => ?_) fun _ _ x => x))))) fun _ _ x => x)
  exact h₂
theorem n_callWith_builtin {pos : Pos} {i : String} {first : List Value} {Q : Value → Shared → Prop} {e : PySem.Expr} {rest : List PySem.Expr}
    (h : wpN M A (spliced (backTo pos (starEach (e :: rest) env))) (fun vs s₁ => wpN M A (call (.builtin i) (first ++ vs)) Q E s₁) E s)
    (he : starEach (e :: rest) env = (false, eval e env) :: starEach rest env := by rfl) (hplain : (backTo pos (starEach rest env)).any (·.1) = false := by rfl) :
    wpN M A (callWith pos (.builtin i) first (backTo pos (starEach (e :: rest) env)) []) Q E s := by
  rw [he] at h ⊢
  exact n_callWith (P := fun _ => True) (by show ((false || (backTo pos (starEach rest env)).any (·.1)) || false) = false; rw [hplain]; rfl) (fun h _ => ⟨.machine, .inr (.inl rfl), Looks.of_pure rfl⟩) (n_evalArgs (wpN_mono h (fun _ _ x => ⟨trivial, x⟩) fun _ _ x => x))
theorem bj_method {b : Array UInt8} {t : Tok} {pl : Sem Bool} {Q : Value × List Value → Shared → Prop} (h : Q (.builtin "bytes.join", [.bytes b t]) s) : wpAny M A (getMethod (.bytes b t) "join" pl) Q E s := by
  with_reducible exact KBd.method_of (.bytes b t) (typeIs_bytes _ _ _) slot_bj type_bj KBd.noRef h
end
theorem words39 : True := by
  (k_with "getMethod bytes" => (with_reducible refine bj_method ?_))
  trivial
theorem words40 : True := by
  (k_with "mine nstep" => ((with_reducible show wpN _ _ _ _ _ _); first
  | (refine n_callWith_builtin ?_ (by rfl) (by rfl))))
  trivial
theorem nameC_loc {M : Model} {A : Around} {E : Value → Shared → Prop} {s : Shared} {h₀ : Heap} {L C : Addr} {news : List (Addr × Obj)} {scope : Scope} {cl : List (Str × Addr)} {env : Env} {x : Str} {pos : Pos} {v : Value} {oC : Obj} {mC : Str → Option Value} {Q : Value → Shared → Prop}
    (N : News h₀ L s.heap news) (hm : (C, oC) ∈ news) (hC : NsObj oC mC) (hv : mC x = some v) (h : Q v s) (hk : (compEnvC scope cl C env).scope.kind = .function) (hx : (compEnvC scope cl C env).kindOf x = some .local) (hb : (x == ("__debug__" : Str)) = false := by decide) :
    wpAny M A (eval (.Name x pos) (compEnvC scope cl C env)) Q E s := wpAny_Name (wpAny_loadName_local hk hx (hC.ns (N _ hm).1) hv h) hb
theorem words41 : True := by
  (k_with "eval Name" => ((with_reducible show wpAny _ _ (eval (Expr.Name _ _) (compEnvC _ _ _ _)) _ _ _); (refine nameC_loc (by k_asm) (by k_mem) (by assumption) (by rfl) ?_ (by rfl) (by rfl); k_whole)))
  trivial
theorem words42 : True := by
  (k_with "mine oct" => (k_whole; (intro _ _ _ wk wp); (refine cps fun G6 r6 => ?_); (obtain ⟨_, _, we, _, _⟩ := wp); (subst we); (refine r6 ?_); (clear r6 G6); (have wF := fr_kept0 (by k_asm) wk); (have wN := news_kept0 (by k_asm) wk); (clear wk); (try dsimp only); k_sweep))
  trivial
theorem words43 : True := by
  (k_with "mine ncall" => ((with_reducible show wpN _ _ (call (Value.ref 96) _ _) _ _ _); (refine CtrN.use (field_spec (by omega)) (ret := ?_)); k_extra "mine oct"))
  trivial
theorem words44 : True := by
  (k_with "mine ncall" => ((with_reducible show wpN _ _ (call (Value.ref 82) _ _) _ _ _); (refine CtrN.use (message_spec (by omega) (by omega) (by omega)) (ret := ?_)); k_extra "mine oct"))
  trivial
/-- field by field -/
noncomputable def flds (fs : List (List UInt8)) : List (List UInt8) := fs.map fld
set_option maxHeartbeats 4000000 in
theorem comp_fields {prog : Program} {w : World} {iter : PySem.Expr} {xp ep fp cp : Pos} {mo : List (Str × Const)} {pos : Pos} {vs : List Value} {fs : List (List UInt8)} {l : Addr}
    {dp un : Nat} {cn : Str} {cs : Scope} {a : Addr} {ccd : Value} {cl : List (Str × Addr)} {outer : List Env} {A₀ : Around} {base h₀ : Heap} {L : Addr} {m : Str → Option Value} {s : Shared}
    {p : Program} {loose : List Str} {mean : ExcName → Option Value} {mg mb : Str → Option Value} {Q : Value → Shared → Prop} {news : List (Addr × Obj)}
    (hb : Bys vs fs) (hn : fs.length ≤ 1000) (hz : ∀ f ∈ fs, f.length < 250)
    (B : Below A₀ base outer h₀) (F : Fr h₀ L s.heap m) (X : (hd.heap_1 w.params).In h₀) (T : Top p loose mean mg mb h₀) (hk : cs.kind = .function) (hdp : dp + 10 < recursionLimit) (hu : un + 40 < cLine) (N : News h₀ L s.heap news) (S : SrcAt h₀ l vs.toArray news)
    (hit : ∀ (Q' : Value → Shared → Prop), Q' (.ref l) s → wpN (model prog w) (ktrTop dp un (some []) cn cs L a ccd cl outer) (eval iter (envX cn cs L a ccd cl)) Q' Fl s) (hs : ∀ x, foldedSetIterable iter (envX cn cs L a ccd cl) x = pure x)
    (fin : ∀ D h tk ys, Fr h₀ L h m → News h₀ L h ((D, lst ys) :: news) → Off1 D news → Bys ys (flds fs) → Q (.ref D) { s with heap := h, toks := tk }) :
    wpN (model prog w) (ktrTop dp un (some []) cn cs L a ccd cl outer) (eval (.ListComp (.Call (.Name (Str.ofString "put_field") fp) [.Name (Str.ofString "one") ep] [] cp) [⟨.Name (Str.ofString "one") xp, iter, [], 0⟩] { kind := .function, names := [(Str.ofString ".0", .local), (Str.ofString "one", .local), (Str.ofString "put_field", .globalImplicit)], isGenerator := false, isCoroutine := false, more := mo } pos) (envX cn cs L a ccd cl)) Q Fl s := by
  have hlen := hb.length
  refine n_ListCompT (cl := []) (by rfl) rfl (by show ∀ x ∈ [(Str.ofString ".0", NameKind.local), (Str.ofString "one", .local), (Str.ofString "put_field", .globalImplicit)], x.2 = .local → List.lookup x.1 [(Str.ofString ".0", NameKind.local), (Str.ofString "one", .local), (Str.ofString "put_field", .globalImplicit)] = some .local; decide) (hit _ ?_) hs
  have hh : (ktrTop dp un (some []) cn cs L a ccd cl outer).handled = none := rfl
  refine src_list1 (its := vs) (J := fun i ys nw => nw = news ∧ Bys ys (flds (fs.take i))) hh F N (by omega) (fun i ys nw j => by rw [j.1]; exact S) (by show ∀ x ∈ [(Str.ofString ".0", NameKind.local), (Str.ofString "one", .local), (Str.ofString "put_field", .globalImplicit)], x.2 ≠ .cell; decide) rfl (by with_unfolding_all rfl) ⟨rfl, .nil⟩ ?_ ?_
  · intro i ys v news₁ I oI C oC D mC h₂ tk₂ hi hy hP z9a hoC F₂ N₂ off nIC nID nCD
    refine cps fun G7 r7 => ?_
    obtain ⟨rfl, hys⟩ := z9a
    refine r7 ?_
    clear r7 G7
    refine n_tests0 ?_
    rw [if_pos rfl]
    refine cps fun G9 r9 => ?_
    obtain ⟨f, tf, e1, e2⟩ := bys_at i hb (by omega)
    refine r9 ?_
    clear r9 G9
    rw [hP] at e2
    cases e2
    have hfl := hz f (List.mem_of_getElem? e1)
    clear N F hit fin
    walk_at "mine steps"
    refine CEnd.intro ‹Fr h₀ L _ m› ‹News h₀ L _ (_ :: _)› hoC (by exact off) ⟨rfl, ?_⟩
    have e9 := ‹_ = fld f›
    subst e9
    rw [List.take_add_one, e1]
    show Bys _ (((fs.take i) ++ [f]).map fld)
    rw [List.map_append]
    exact hys.push
  · intro D C oC h₂ tk₂ ys news' c2 F' N' nCD off hyl z9a
    refine cps fun G7 r7 => ?_
    obtain ⟨rfl, hys⟩ := z9a
    refine r7 ?_
    clear r7 G7
    rw [hlen, List.take_length] at hys
    refine outE (s := ⟨_, _, _, _, _⟩) c2 F' N' nCD off (fun h₃ F₃ N₃ o1 => ?_)
    exact fin D h₃ _ ys F₃ N₃ o1 hys
theorem flds_len (fs : List (List UInt8)) (hz : ∀ f ∈ fs, f.length ≤ 30) (hn : fs.length ≤ 6) : (flds fs).flatten.length ≤ 192 := by
  have key : ∀ fs : List (List UInt8), (∀ f ∈ fs, f.length ≤ 30) → (flds fs).flatten.length ≤ 32 * fs.length := fun fs => by
    induction fs with
    | nil => intro _; simp [flds]
    | cons f r ih =>
      intro h
      have h1 := ih fun g hg => h g (.tail _ hg)
      have h2 := h f (.head _)
      have e : (flds (f :: r)).flatten.length = (fld f).length + (flds r).flatten.length := by simp [flds]
      rw [e, fld_len, List.length_cons]
      omega
  have := key fs hz
  omega
/-- what client_hello builds -/
noncomputable def chello (r : List UInt8) (fs : List (List UInt8)) (q : List UInt8) : List UInt8 := msg 1 ((fld r ++ fld (flds fs).flatten) ++ fld q)
theorem words45 : True := by
  (k_with "mine ncall" => ((with_reducible show wpN _ _ (call (Value.builtin "bytes.join") _ _) _ _ _); refine halt ?_))
  trivial
theorem words46 : True := by
  (k_with "mine nstep" => ((with_reducible show wpN _ _ _ _ _ _); first
  | ((with_reducible show wpN _ _ (eval (PySem.Expr.ListComp _ _ _ _) _) _ _ _); refine halt ?_)
  | (with_reducible refine n_methodCall ?_ (by k_dflt rfl); k_whole)))
  trivial
set_option maxHeartbeats 4000000 in
theorem chello_spec {prog : Program} {w : World} {r q : List UInt8} {vs : List Value} {fs : List (List UInt8)} {l : Addr} {tr tq : Tok} (hb : Bys vs fs) (hr : r.length ≤ 20) (hq : q.length ≤ 20) (hz : ∀ f ∈ fs, f.length ≤ 30) (hn : fs.length ≤ 6) :
    CtrN prog w 108 [.bytes r.toArray tr, .ref l, .bytes q.toArray tq] 20 60 [] (fun h => h.IsList l vs.toArray) (fun _ _ v => ∃ y t, v = .bytes y.toArray t ∧ y = chello r fs q ∧ y.length ≤ 400) := by
  unfold CtrN
  intro dp un cn cs a ccd cl outer A₀ base h₀ L m s p loose mean mg mb Q E B F X N T hk hd hu hl hret
  refine wpN_call ?_
  walk_at "mine enterN"
  (walk_at "mine shade"; rename_i g' L' h' tk' F' N' B' X' T' S' e'; walk_at "mine light")
  have hlg : g'.IsList l vs.toArray := let ⟨o, ho, hr⟩ := hl; ⟨o, S' _ _ ho (by simp), hr⟩
  refine n_noRaise ?_
  walk_at "mine steps"
  refine comp_fields hb (by omega) (fun f hf => by have := hz f hf; omega) B' F' X' T' rfl (by ktr_room) (by ktr_units) N' (.inl hlg) (fun Q' h => ?_) (by intro _; rfl) (fun D2 h2 tk2 ys2 F2 N2 o2 b2 => ?_)
  · refine wpN_any ?_
    k_steps
    exact h
  · clear N' F'
    have hz2 := flds_len fs hz hn
    walk_at "mine steps"
    have hl2 : h2.IsList D2 ys2.toArray := News.isList N2 (.head _)
    refine wpN_any ?_
    refine bj_run (s := ⟨h2, _, _, _, _⟩) hl2 b2 (by omega) (fun t3 k3 => ?_)
    walk_at "mine steps"
    subst_vars
    refine hret _ _ _ (Keeps.fr S' ‹_›) ⟨_, _, rfl, rfl, ?_⟩
    rw [msg_len, List.length_append, List.length_append, fld_len, fld_len, fld_len]
    omega
theorem off_SH : True := by
  w_top off
  trivial
set_option maxHeartbeats 4000000 in
theorem shello_spec {prog : Program} {w : World} {r : List UInt8} {tr : Tok} (hr : r.length ≤ 20) :
    CtrN prog w 122 [.bytes r.toArray tr] 20 60 [] (fun _ => True) (fun _ _ v => ∃ y t, v = .bytes y.toArray t ∧ y = msg 2 (fld r) ∧ y.length ≤ 400) := by
  unfold CtrN
  intro dp un cn cs a ccd cl outer A₀ base h₀ L m s p loose mean mg mb Q E B F X N T hk hd hu _ hret
  refine wpN_call ?_
  walk_at "mine enterN"
  (walk_at "mine shade"; rename_i g' L' h' tk' F' N' B' X' T' S' e'; walk_at "mine light")
  refine n_noRaise ?_
  walk_at "mine steps"
  subst_vars
  refine hret _ _ _ (Keeps.fr S' ‹_›) ⟨_, _, rfl, rfl, ?_⟩
  rw [msg_len, fld_len]
  omega
set_option maxHeartbeats 4000000 in
theorem ext_spec {prog : Program} {w : World} {r q : List UInt8} {tr tq : Tok} (hr : r.length ≤ 20) (hq : q.length ≤ 20) :
    CtrN prog w 136 [.bytes r.toArray tr, .bytes q.toArray tq] 20 60 [] (fun _ => True) (fun _ _ v => ∃ y t, v = .bytes y.toArray t ∧ y = msg 8 (fld r ++ fld q) ∧ y.length ≤ 400) := by
  unfold CtrN
  intro dp un cn cs a ccd cl outer A₀ base h₀ L m s p loose mean mg mb Q E B F X N T hk hd hu _ hret
  refine wpN_call ?_
  walk_at "mine enterN"
  (walk_at "mine shade"; rename_i g' L' h' tk' F' N' B' X' T' S' e'; walk_at "mine light")
  refine n_noRaise ?_
  walk_at "mine steps"
  subst_vars
  refine hret _ _ _ (Keeps.fr S' ‹_›) ⟨_, _, rfl, rfl, ?_⟩
  rw [msg_len, List.length_append, fld_len, fld_len]
  omega
theorem off_CP : True := by
  w_top off
  trivial
/-- a contract on the spine, for a call that may raise one of our own -/
noncomputable def CtrEN (prog : Program) (w : World) (f : Addr) (vs : List Value) (dd uu : Nat) (pre : Heap → Prop) (post : Heap → Heap → Value → Prop) (bad : Int → Prop) : Prop :=
  ∀ (dp un : Nat) (cn : Str) (cs : Scope) (a : Addr) (ccd : Value) (cl : List (Str × Addr)) (outer : List Env) (A₀ : Around) (base h₀ : Heap) (L : Addr) (m : Str → Option Value) (s : Shared)
    (p : Program) (loose : List Str) (mean : ExcName → Option Value) (mg mb : Str → Option Value) (Q E : Value → Shared → Prop),
    Below A₀ base outer h₀ → Fr h₀ L s.heap m → (hd.heap_1 w.params).In h₀ → Top p loose mean mg mb h₀ → cs.kind = .function → dp + dd < recursionLimit → un + uu < cLine → pre s.heap →
    (∀ r h' tk', Keeps [] s.heap h' → post s.heap h' r → Q r { s with heap := h', toks := tk' }) →
    (∀ c e h' tk', bad c → Raises (envX cn cs L a ccd cl :: outer) s.heap c e h' → E (.ref e) { s with heap := h', toks := tk' }) →
    wpN (model prog w) (ktrTop dp un (some []) cn cs L a ccd cl outer) (call (.ref f) vs) Q E s
theorem CtrE.toN {prog : Program} {w : World} {f : Addr} {vs : List Value} {dd uu : Nat} {pre : Heap → Prop} {post : Heap → Heap → Value → Prop} {bad : Int → Prop} (C : CtrE prog w f vs dd uu pre post bad) : CtrEN prog w f vs dd uu pre post bad :=
  fun dp un cn cs a ccd cl outer A₀ base h₀ L m s p loose mean mg mb Q E b1 b2 b3 b4 b5 b6 b7 b8 b9 b10 => wpN_any (C dp un (some []) cn cs a ccd cl outer A₀ base h₀ L m s p loose mean mg mb Q E b1 b2 b3 b4 b5 b6 b7 b8 b9 b10)
theorem words47 : True := by
  (k_with "mine nstep" => ((with_reducible show wpN _ _ (exec (Stmt.For _ _ _ _ _) _) _ _ _); refine halt ?_))
  trivial
theorem words48 : True := by
  (k_with "compareOp In bytes ref" => ((with_reducible show wpAny _ _ (compareOp CmpOp.In (Value.bytes (List.toArray _) _) (Value.ref _)) _ _ _); refine halt ?_))
  trivial
theorem find_take {fs gs : List (List UInt8)} {i : Nat} {x : List UInt8} (h : ∀ j f, j < i → fs[j]? = some f → gs.contains f = false) (hx : fs[i]? = some x) (hc : gs.contains x = true) : fs.find? gs.contains = some x := by
  induction fs generalizing i with
  | nil => simp at hx
  | cons f r ih =>
    cases i with
    | zero =>
      have e : f = x := by simpa using hx
      rw [e, List.find?_cons, hc]
    | succ i =>
      have h0 := h 0 f (Nat.succ_pos i) rfl
      rw [List.find?_cons, h0]
      exact ih (i := i) (fun j g hj hg => h (j + 1) g (by omega) (by simpa using hg)) (by simpa using hx)
theorem find_none {fs gs : List (List UInt8)} (h : ∀ (j : Nat) (f : List UInt8), fs[j]? = some f → gs.contains f = false) : fs.find? gs.contains = none := by
  rw [List.find?_eq_none]
  intro x hx
  refine cps fun G9 r9 => ?_
  obtain ⟨j, hj⟩ := List.mem_iff_getElem?.mp hx
  refine r9 ?_
  clear r9 G9
  rw [h j x hj]; decide
set_option maxHeartbeats 4000000 in
theorem chosen_loop {prog : Program} {w : World} {px po p1 p2 p3 p4 p5 p6 pos : Pos} {o t : Addr} {vs us : List Value} {fs gs : List (List UInt8)} (hb : Bys vs fs) (hc : Bys us gs) {A : Around} {scope : Scope} {name : Str} {f : Addr} {cdv : Value} {g : Heap} {L : Addr} {s : Shared} {m₀ : Str → Option Value} {Q : Flow → Shared → Prop} (hh : A.handled = none)
    (hs : scope.kind = .function) (k1 : (envOf name scope L f cdv).kindOf (Str.ofString "one") = some .local) (k2 : (envOf name scope L f cdv).kindOf (Str.ofString "ours") = some .local) (k3 : (envOf name scope L f cdv).kindOf (Str.ofString "theirs") = some .local)
    (F : Fr g L s.heap m₀) (e1 : m₀ (Str.ofString "ours") = some (.ref o)) (e2 : m₀ (Str.ofString "theirs") = some (.ref t)) (ho : g.IsList o vs.toArray) (ht : g.IsList t us.toArray)
    (ret : ∀ x tx h' tk' m', Fr g L h' m' → fs.find? gs.contains = some x → Q (.ret (.bytes x.toArray tx)) { s with heap := h', toks := tk' })
    (non : ∀ h' tk' m', Fr g L h' m' → fs.find? gs.contains = none → Q .next { s with heap := h', toks := tk' }) :
    wpN (model prog w) A (exec (.For (.Name (Str.ofString "one") px) (.Name (Str.ofString "ours") po) [.If (.Compare (.Name (Str.ofString "one") p1) [.In] [.Name (Str.ofString "theirs") p2] p3) [.Return (some (.Name (Str.ofString "one") p4)) p5] [] p6] [] pos) (envOf name scope L f cdv)) Q Fl s := by
  have hlen := hb.length
  refine n_For (wpN_any (nameX_L F e1 ?_ hs k2)) (by intro _; rfl)
  refine cps fun G9 r9 => ?_
  obtain ⟨oo, hoo, hor⟩ := ho
  refine r9 ?_
  clear r9 G9
  have hl : s.heap.IsList o vs.toArray := ⟨oo, F.keep _ _ hoo, hor⟩
  have hlt : @LT.lt Nat _ o s.heap.objs.size := Heap.lt_size (F.keep _ _ hoo)
  have hI₀ := next_is_new F
  have hIL := Nat.ne_of_lt F.ns.lt
  refine wpAny_pyIter_list hl ?_
  refine n_for (fun i s₁ => ∃ h tk ov, s₁ = { s with heap := h, toks := tk } ∧ Fr g L h (fun y => if y = Str.ofString "one" then ov else m₀ y) ∧ (h.IsListIter s.heap.objs.size o i ∧ h.IsList o vs.toArray) ∧ ∀ j f, j < i → fs[j]? = some f → gs.contains f = false)
    (Walks.list hh s.heap.objs.size o (Nat.ne_of_lt hlt) vs.toArray) ?_ (fun i v s' Q' _ st h => letGo_listiter st.1 h) ?_ ?_ ?_
  · intro i s₁ z9a
    refine cps fun G7 r7 => ?_
    obtain ⟨h, tk, ov, rfl, _, st, _⟩ := z9a
    refine r7 ?_
    clear r7 G7
    exact st
  · intro i s₁ v h₁ tk₁ hi z9a hP hst hk
    refine cps fun G7 r7 => ?_
    obtain ⟨h, tk, ov, rfl, F₁, st, hno⟩ := z9a
    refine r7 ?_
    clear r7 G7
    refine cps fun G9 r9 => ?_
    obtain ⟨x, tx, ex, ev⟩ := bys_at i hb (by simpa using hi)
    have ev' : v = .bytes x.toArray tx := by
      have : vs[i]? = some v := by simpa using hP
      rw [ev] at this; exact (Option.some.inj this).symm
    subst ev'
    refine r9 ?_
    clear r9 G9
    have F₂ := fr_but F₁ hk hIL hI₀
    refine wpN_any (wpAny_assign_Name ?_)
    refine wpAny_storeName_local k1 F₂.ns (fun h₃ hn₃ hs₃ => ?_) (by show (scope.kind == .class || (scope.kind == .module && L != mainGlobals)) = false; rw [hs]; rfl)
    have F₃ : Fr g L h₃ (fun y => if y = Str.ofString "one" then some (.bytes x.toArray tx) else m₀ y) := by
      have := F₂.set hn₃ hs₃
      have e : (fun y => if y = Str.ofString "one" then some (Value.bytes x.toArray tx) else (fun y => if y = Str.ofString "one" then ov else m₀ y) y) = (fun y => if y = Str.ofString "one" then some (.bytes x.toArray tx) else m₀ y) := by
        funext y; by_cases q : y = Str.ofString "one"
        · rw [if_pos q, if_pos q]
        · rw [if_neg q, if_neg q]; show (if _ then _ else _) = _; rw [if_neg q]
      rwa [e] at this
    have st₃ : h₃.IsListIter s.heap.objs.size o (i + 1) ∧ h₃.IsList o vs.toArray := ⟨hst.1.at fun o' e => hs₃.extBut _ _ (Ne.symm hIL) e, ⟨oo, F₃.keep _ _ hoo, hor⟩⟩
    have htl : h₃.IsList t us.toArray := let ⟨a, b, c⟩ := ht; ⟨a, F₃.keep _ _ b, c⟩
    refine n_execs_cons (n_If (wpN_any (wpAny_isTrue_Compare1 (nameX_L F₃ rfl ?_ hs k1))))
    have et3 : (fun y => if y = Str.ofString "one" then some (Value.bytes x.toArray tx) else m₀ y) (Str.ofString "theirs") = some (.ref t) := by
      show (if Str.ofString "theirs" = Str.ofString "one" then _ else _) = _
      rw [if_neg (by decide)]; exact e2
    refine nameX_L F₃ et3 ?_ hs k3
    refine in_bys htl hc ?_
    refine wpAny_truthy_bool ?_
    cases hcx : gs.contains x with
    | true =>
      rw [if_pos rfl]
      refine n_execs_cons (n_Return (wpN_any (nameX_L F₃ rfl ?_ hs k1)))
      exact ret x tx h₃ _ _ F₃ (find_take hno ex hcx)
    | false =>
      rw [if_neg (by decide)]
      refine n_execs_nil (n_execs_nil ?_)
      refine ⟨h₃, _, _, rfl, F₃, st₃, fun j f hj hf => ?_⟩
      rcases Nat.lt_succ_iff_lt_or_eq.mp hj with q | q
      · exact hno j f q hf
      · subst q; rw [ex] at hf; cases hf; exact hcx
  · intro s₁ h₁ tk₁ z9a hk
    refine cps fun G7 r7 => ?_
    obtain ⟨h, tk, ov, rfl, F₁, st, hno⟩ := z9a
    refine r7 ?_
    clear r7 G7
    refine non h₁ tk₁ _ (fr_but F₁ hk hIL hI₀) (find_none fun j f hf => hno j f ?_ hf)
    have := (List.getElem?_eq_some_iff.mp hf).1
    simp; omega
  · refine ⟨_, s.toks, m₀ (Str.ofString "one"), rfl, ?_, ⟨⟨_, Heap.get?_push_size _ rfl, rfl, rfl⟩, hl.at fun o e => Heap.get?_push_of_some _ e⟩, fun j f hj => by omega⟩
    have e : (fun y => if y = Str.ofString "one" then m₀ (Str.ofString "one") else m₀ y) = m₀ := by
      funext y; by_cases q : y = Str.ofString "one"
      · rw [if_pos q, q]
      · rw [if_neg q]
    rw [e]; exact F.push _
set_option maxHeartbeats 4000000 in
theorem chosen_spec {prog : Program} {w : World} {o t : Addr} {vs us : List Value} {fs gs : List (List UInt8)} (hb : Bys vs fs) (hc : Bys us gs) :
    CtrEN prog w 150 [.ref o, .ref t] 12 50 (fun h => h.IsList o vs.toArray ∧ h.IsList t us.toArray) (fun _ _ r => ∃ x t', r = .bytes (x : List UInt8).toArray t' ∧ fs.find? gs.contains = some x) (fun c => c = 376 ∧ fs.find? gs.contains = none) := by
  unfold CtrEN
  intro dp un cn cs a ccd cl outer A₀ base h₀ L m s p loose mean mg mb Q E B F X T hk hdp hu hpre hret hbad
  have N : News h₀ L s.heap [] := News.nil
  refine wpN_call ?_
  walk_at "mine enterN"
  (walk_at "mine shade"; rename_i g' L' h' tk' F' N' B' X' T' S' e'; walk_at "mine light")
  have hL9 : s.heap.get? L' = none := Heap.get?_none_of_le (Nat.le_of_eq e'.symm)
  have ho : g'.IsList o vs.toArray := let ⟨x, hx, hr⟩ := hpre.1; ⟨x, S' _ _ hx (by simp), hr⟩
  have ht : g'.IsList t us.toArray := let ⟨x, hx, hr⟩ := hpre.2; ⟨x, S' _ _ hx (by simp), hr⟩
  walk_at "mine steps"
  refine n_noRaise (chosen_loop hb hc rfl rfl rfl rfl rfl F' rfl rfl ho ht (fun x tx h2 tk2 m2 F2 hf => ?_) (fun h2 tk2 m2 F2 hf => ?_))
  · exact hret _ _ _ (Keeps.fr S' F2) ⟨x, _, rfl, hf⟩
  · have N2 : News g' L' h2 [] := News.nil
    clear F' N'
    walk_at "mine steps"
    have hq := ‹MadeQ _ _ _ _›
    refine raises_leave rfl rfl hL9 (Keeps.fr S' ‹_›) (raises_made ‹_› ‹_› rfl ‹_› hq) (fun h3 r3 => ?_)
    exact hbad 376 _ h3 _ ⟨rfl, hf⟩ r3
theorem off_LM : True := by
  w_top off
  trivial
section
variable {prog : Program} {w : World} {A : Around} {R : Result → Shared → Prop} {s : Shared}
theorem codeN_expr {e : PySem.Expr} {env : Env}
    (h : wpN (model prog w) (A.deeper env) (eval e env) (fun v s' => R (.ok (.ret v)) s')
      (fun e' s' => wpAny (model prog w) (A.deeper env) (leaving env e') (fun _ s'' => R (.error e') s'') (fun e'' s'' => R (.error e'') s'') s') s) :
    codeN (model prog w) A (.expr e env) R s := by
  refine codeN_of_tree rfl ?_
  show wpN _ (A.deeper env) (do point; ret (← (eval e env).onRaise (leaving env))) _ _ s
  refine wpN_step (wpAny_point (wpN_bind ?_))
  have key : ∀ {t : Sem Value} {k : Value → Sem Unit} {Q : Value → Shared → Prop} {E' : Value → Shared → Prop} {s : Shared}, wpN (model prog w) (A.deeper env) t Q (fun e s' => wpAny (model prog w) (A.deeper env) (k e) (fun _ s'' => E' e s'') (fun e' s'' => E' e' s'') s') s → wpN (model prog w) (A.deeper env) (t.onRaise k) Q E' s := fun {t k Q E' s} h => fun Γ p h1 h2 h3 => by
    rw [Sem.wp_onRaise]
    exact Sem.wp_mono _ Γ t (fun _ _ _ h' => h') (fun e p' s' h' => h' Γ p' h1) p s (h Γ p h1 h2 h3)
  exact key (wpN_mono h (fun v s' h' => wpN_pure h') fun _ _ h' => h')
theorem codeN_call_lam {a : Addr} {args : Args} {o : Obj} {fd : FuncData} {body : PySem.Expr} (hroom : A.depth < recursionLimit) (ho : s.heap.get? a = some o)
    (hd' : o.data = .func fd) (hco : fd.scope.isCoroutine = false) (hgen : fd.scope.isGenerator = false) (hbody : fd.body = .expr body) (hcd : s.heap.CodeRec fd.code fd.qualname)
    (h : wpAny (model prog w) A.in1 (bindArgs fd args) (fun binds s₁ =>
      wpAny (model prog w) A.in1 (newFunctionEnv fd.scope fd.globals fd.closure binds (fd.qualname ++ ".<locals>.") (some a) fd.code none fd.builtins)
        (fun env s₂ => s₂.heap.NoLimit ∧ codeN (model prog w) A (.expr body env) R s₂) (fun e s' => R (.error e) s') s₁) (fun e s' => R (.error e) s') s) :
    codeN (model prog w) A (.call (.ref a) args) R s := by
  refine codeN_of_tree rfl ?_
  show wpN _ A.in1 (callAny (.ref a) args) _ _ s
  simp only [callAny]
  refine wpN_step (wpAny_load ho ?_)
  refine cps fun G9 r9 => ?_
  obtain ⟨c, oc, vs, tq, hc, hoc, hdc, hq⟩ := hcd
  refine r9 ?_
  clear r9 G9
  simp only [hd', callFunction, hco, hgen, hbody, hc]
  rw [hc] at h
  refine wpN_step (m := field (.ref c) 1) (wpAny_field hoc hdc hq (wpN_bind (wpN_pure ?_)))
  exact wpN_step (wpAny_mono h (fun binds s₁ h₁ => wpN_step (wpAny_mono h₁ (fun env s₂ h₂ => wpN_step (wpAny_enterFrame h₂.1 hroom
    (wpN_pure (And.intro rfl h₂.2)))) fun _ _ h' => h')) fun _ _ h' => h')
end
section
variable {prog : Program} {w : World} {A₀ A : Around} {s : Shared} {base h₀ : Heap} {outer : List Env} {L : Addr} {m mg mb : Str → Option Value} {env : Env} {news : List (Addr × Obj)} {K : Frag} {p : Program} {loose : List Str} {mean : ExcName → Option Value}
  {R : Result → Shared → Prop} {name qual : Str} {params : Arguments} {body : PySem.Expr} {scope : Scope} {cl : List (Str × Addr)} {pm ctv : Value} {c' : Addr} {f : Addr} {args : Args} {oc : Value} {od : Option Addr} {osl : Array (Option Value)}
/-- a closure without parameters is entered -/
theorem enterLam (B : Below A₀ base outer h₀) (F : Fr h₀ L s.heap m) (X₀ : K.In h₀) (N : News h₀ L s.heap news) (T : Top p loose mean mg mb h₀) (hA : A.frames = some (env :: outer)) (hf : env.frame = some L) (hke : env.scope.kind = .function)
    (ho : s.heap.get? f = some ⟨oc, od, .func (kla_fn name qual params body scope cl pm (.ref c') ctv), osl⟩) (hcd : s.heap.CodeRec (.ref c') qual) (hroom : A.depth < recursionLimit)
    (hbind : bindArgs (kla_fn name qual params body scope cl pm (.ref c') ctv) args = pure [])
    (h : ∀ g L' h₁ tk, Fr g L' h₁ (fun _ => none) → News g L' h₁ news → Below A base (env :: outer) g → K.In g → Top p loose mean mg mb g → Keeps (news.map (·.1)) s.heap g → L' = s.heap.objs.size →
      wpN (model prog w) (A.deeper (envX qual scope L' f (.ref c') cl)) (eval body (envX qual scope L' f (.ref c') cl))
        (fun v s' => R (.ok (.ret v)) s')
        (fun e s' => wpAny (model prog w) (A.deeper (envX qual scope L' f (.ref c') cl)) (leaving (envX qual scope L' f (.ref c') cl) e) (fun _ s'' => R (.error e) s'') (fun e' s'' => R (.error e') s'') s')
        { s with heap := h₁, toks := tk })
    (hco : scope.isCoroutine = false) (hgen : scope.isGenerator = false) (hk : scope.kind = .function)
    (hcell : ∀ x ∈ scope.names, x.2 ≠ .cell) : codeN (model prog w) A (.call (.ref f) args) R s := by
  obtain ⟨BG, st, kp⟩ := hide_facts B F N hA hf hke
  refine codeN_call_lam (fd := kla_fn name qual params body scope cl pm (.ref c') ctv) (body := body) hroom ho rfl hco hgen rfl hcd ?_
  rw [hbind]
  refine wpAny_pure (wpAny_newFunctionEnv hcell (fun _ q => nomatch q) (fun h₁ hns₀ hsb₀ => ⟨(T.nolimit.keeps F.keep).fresh _ hsb₀, codeN_expr ?_⟩) hk)
  have hk₁ : ∀ b o, s.heap.get? b = some o → h₁.get? b = some o := fun b o e => hsb₀.extBut b o (Nat.ne_of_lt (Heap.lt_size e)) (Heap.get?_push_of_some _ e)
  exact h _ _ h₁ _ ⟨hns₀, fun b o e => hk₁ b o (of_hideAll _ e), Nat.le_of_eq (hideAll_size _ _)⟩ (fun q hq => ⟨hk₁ _ _ (N q hq).1, Nat.ne_of_lt (Heap.lt_size (N q hq).1), hideAll_none _ (List.mem_map_of_mem hq)⟩) BG (X₀.keeps st) (T.keeps st) kp rfl
end
/-- a name that a closure holds, its cell in the ground -/
theorem nameG_free {M : Model} {A : Around} {E : Value → Shared → Prop} {s : Shared} {h₀ : Heap} {L a c : Addr} {m : Str → Option Value} {cn : Str} {cs : Scope} {ccd : Value} {cl : List (Str × Addr)} {x : Str} {pos : Pos} {v : Value} {o : Obj} {Q : Value → Shared → Prop}
    (F : Fr h₀ L s.heap m) (hc : cl.lookup x = some c) (ho : h₀.get? c = some o) (hd : o.data = .cell (some v)) (h : Q v s) (hk : cs.kind = .function) (hx : (envX cn cs L a ccd cl).kindOf x = some .free)
    (hb : (x == ("__debug__" : Str)) = false := by decide) (hn : (x == ("__classdict__" : Str)) = false := by decide) : wpAny M A (eval (.Name x pos) (envX cn cs L a ccd cl)) Q E s :=
  wpAny_Name (wpAny_loadName_free hk hx hc ⟨o, F.keep _ _ ho, hd⟩ h hn) hb
/-- a closure of this form lies here -/
noncomputable def LamAt (h : Heap) (q : Addr) (qual : Str) (params : Arguments) (scope : Scope) (body : PySem.Expr) (cl : List (Str × Addr)) : Prop :=
  ∃ name pm c' ctv oc od osl, h.get? q = some ⟨oc, od, .func (kla_fn name qual params body scope cl pm (.ref c') ctv), osl⟩ ∧ h.CodeRec (.ref c') qual
theorem LamAt.keeps {h h' : Heap} {q : Addr} {qual : Str} {params : Arguments} {scope : Scope} {body : PySem.Expr} {cl : List (Str × Addr)} (k : Keeps [] h h') (x : LamAt h q qual params scope body cl) : LamAt h' q qual params scope body cl := by
  refine cps fun G9 r9 => ?_
  obtain ⟨name, pm, c', ctv, oc, od, osl, ho, c, o, vs, tq, hc, hoc, hd, hq⟩ := x
  refine r9 ?_
  clear r9 G9
  exact ⟨name, pm, c', ctv, oc, od, osl, k.all _ _ ho, c, o, vs, tq, hc, k.all _ _ hoc, hd, hq⟩
noncomputable def noArgs : Arguments := { posonlyargs := [], args := [], vararg := none, kwonlyargs := [], kw_defaults := [], kwarg := none, defaults := [] }
theorem off_LW : True := by
  w_top off
  trivial
theorem words49 : True := by
  (k_with "eval Name" => ((with_reducible show wpAny _ _ (eval (Expr.Name _ _) (envX _ _ _ _ _ _)) _ _ _); (refine nameG_free (by k_asm) (by assumption) (by assumption) (by assumption) ?_ (by rfl) (by rfl); k_whole)))
  trivial
noncomputable abbrev fnames (l : List (Str × NameKind)) : Scope := { kind := .function, names := l, isGenerator := false, isCoroutine := false, more := [] }
theorem words50 : True := by
  (k_with "mine ncall" => ((with_reducible show wpN _ _ (call (Value.ref 150) _ _) _ _ _); refine halt ?_))
  trivial
theorem words51 : True := by
  (k_with "mine ncall" => ((with_reducible show wpN _ _ (call (Value.ref 89) _ _) _ _ _); refine halt ?_))
  trivial
theorem words52 : True := by
  (k_with "mine ncall" => ((with_reducible show wpN _ _ (call (Value.ref 103) _ _) _ _ _); refine halt ?_))
  trivial
theorem words53 : True := by
  (k_with "mine ncall" => ((with_reducible show wpN _ _ (call (Value.ref 115) _ _) _ _ _); refine halt ?_))
  trivial
theorem words54 : True := by
  (k_with "mine ncall" => ((with_reducible show wpN _ _ (call (Value.ref 129) _ _) _ _ _); refine halt ?_))
  trivial
theorem words55 : True := by
  (k_with "mine ncall" => ((with_reducible show wpN _ _ (call (Value.ref 143) _ _) _ _ _); refine halt ?_))
  trivial
theorem words56 : True := by
  (k_with "mine ncall" => ((with_reducible show wpN _ _ (call (Value.ref 122) _ _) _ _ _); (refine CtrN.use (shello_spec (by omega)) (ret := ?_)); k_extra "mine oct"))
  trivial
theorem words57 : True := by
  (k_with "mine ncall" => ((with_reducible show wpN _ _ (call (Value.ref 108) _ _) _ _ _); (refine CtrN.use (chello_spec (by assumption) (by omega) (by omega) (by assumption) (by omega)) (ret := ?_)); k_extra "mine oct"))
  trivial
/-- a cell with this value -/
noncomputable def CellAt (h : Heap) (cl : List (Str × Addr)) (x : Str) (v : Value) : Prop := ∃ c o, cl.lookup x = some c ∧ h.get? c = some o ∧ o.data = .cell (some v)
theorem cut_le9 {x : List UInt8} {lo hi : Option Int} : (cut x lo hi).length ≤ x.length := by
  unfold cut
  rw [List.length_take, List.length_drop]
  omega
theorem IsList.kept {h h' : Heap} {l : Addr} {its : Array Value} (k : ∀ b o, h.get? b = some o → h'.get? b = some o) (x : h.IsList l its) : h'.IsList l its := let ⟨o, e, r⟩ := x; ⟨o, k _ _ e, r⟩
set_option maxHeartbeats 4000000 in
theorem work_chosen {prog : Program} {w : World} {q : Addr} {h0 : Heap} {qual : Str} {cl : List (Str × Addr)} {p1 p2 p3 p4 : Pos} {o t : Addr} {vs us : List Value} {fs gs : List (List UInt8)} (hb : Bys vs fs) (hc : Bys us gs) (ho : h0.IsList o vs.toArray) (ht : h0.IsList t us.toArray)
    (lam : LamAt h0 q qual noArgs (fnames [("ours", .free), ("theirs", .free), ("chosen_protocol", .globalImplicit)]) (.Call (.Name "chosen_protocol" p1) [.Name "ours" p2, .Name "theirs" p3] [] p4) cl)
    (c0 : CellAt h0 cl "ours" (.ref o)) (c1 : CellAt h0 cl "theirs" (.ref t)) :
    WorkN prog w q h0 20 80 [] (fun n => n = []) (fun _ r => ∃ x t', r = .bytes (x : List UInt8).toArray t' ∧ fs.find? gs.contains = some x) (fun c => c = 376 ∧ fs.find? gs.contains = none) := by
  unfold WorkN
  intro dp un cn cs a ccd cl' outer A₀ base h₀ L m s p loose mean mg mb Q E B F X T hk hdp hu K0 N hret hbad
  refine cps fun G9 r9 => ?_
  obtain ⟨name, pm, c', ctv, oc, od, osl, hl, hcd⟩ := lam.keeps K0
  obtain ⟨a0, o0, l0, g0, d0⟩ := c0
  obtain ⟨a1, o1, l1, g1, d1⟩ := c1
  refine r9 ?_
  clear r9 G9
  refine wpN_call (enterLam B F X N T rfl rfl hk hl hcd (by ktr_room) rfl (fun g' L' h' tk' F' N' B' X' T' S' e' => ?_) rfl rfl rfl (by decide))
  have hL9 : s.heap.get? L' = none := Heap.get?_none_of_le (Nat.le_of_eq e'.symm)
  have y0 : g'.get? a0 = some o0 := S'.all _ _ (K0.all _ _ g0)
  have y1 : g'.get? a1 = some o1 := S'.all _ _ (K0.all _ _ g1)
  walk_at "mine steps"
  refine chosen_spec hb hc _ _ _ _ _ _ _ _ _ _ _ _ _ _ _ _ _ _ _ _ _ ‹_› ‹Fr g' L' _ _› ‹_› ‹_› rfl (by ktr_room) (by ktr_units) ⟨IsList.kept (Keeps.all (Keeps.fr S' F')) (IsList.kept K0.all ho), IsList.kept (Keeps.all (Keeps.fr S' F')) (IsList.kept K0.all ht)⟩ (fun r h3 tk3 k3 hp => ?_) (fun c e h3 tk3 hb2 hr2 => ?_)
  · exact hret _ _ _ _ (Keeps.fr S' (fr_kept0 ‹Fr g' L' _ _› k3)) rfl (fun _ q => nomatch q) hp
  · refine raises_leave rfl rfl hL9 (Keeps.fr S' ‹Fr g' L' _ _›) hr2 (fun h3 r3 => ?_)
    exact hbad _ _ _ h3 _ [] (fun _ _ e _ => e) rfl (fun _ q => nomatch q) hb2 r3
set_option maxHeartbeats 4000000 in
theorem work_none {prog : Program} {w : World} {q : Addr} {h0 : Heap} {qual : Str} {cl : List (Str × Addr)} {p1 p2 p3 p4 : Pos} {x : List UInt8} {tx : Tok} (hx : x.length ≤ 500)
    (lam : LamAt h0 q qual noArgs (fnames [("one", .free), ("read_fields", .globalImplicit)]) (.Call (.Name "read_fields" p1) [.Name "one" p2, .Constant Const.none 0 p3] [] p4) cl)
    (c0 : CellAt h0 cl "one" (.bytes x.toArray tx)) :
    WorkN prog w q h0 20 80 [] (fun n => n = []) (fun h r => ∃ D vs fs n, r = .ref D ∧ h.get? D = some (listOf (vs : List Value).toArray n) ∧ Bys vs fs ∧ rd x.length x = some fs) (fun c => c = 306 ∧ rd x.length x = none) := by
  unfold WorkN
  intro dp un cn cs a ccd cl' outer A₀ base h₀ L m s p loose mean mg mb Q E B F X T hk hdp hu K0 N hret hbad
  refine cps fun G9 r9 => ?_
  obtain ⟨name, pm, c', ctv, oc, od, osl, hl, hcd⟩ := lam.keeps K0
  obtain ⟨a0, o0, l0, g0, d0⟩ := c0
  refine r9 ?_
  clear r9 G9
  refine wpN_call (enterLam B F X N T rfl rfl hk hl hcd (by ktr_room) rfl (fun g' L' h' tk' F' N' B' X' T' S' e' => ?_) rfl rfl rfl (by decide))
  have hL9 : s.heap.get? L' = none := Heap.get?_none_of_le (Nat.le_of_eq e'.symm)
  have y0 : g'.get? a0 = some o0 := S'.all _ _ (K0.all _ _ g0)
  walk_at "mine steps"
  refine (fields_none hx).toN _ _ _ _ _ _ _ _ _ _ _ _ _ _ _ _ _ _ _ _ _ ‹_› ‹Fr g' L' _ _› ‹_› ‹_› rfl (by ktr_room) (by ktr_units) trivial (fun r h3 tk3 k3 hp => ?_) (fun c e h3 tk3 hb2 hr2 => ?_)
  · exact hret _ _ _ _ (Keeps.fr S' (fr_kept0 ‹Fr g' L' _ _› k3)) rfl (fun _ q => nomatch q) (by obtain ⟨D, vs, fs, n, z0, _, z2, z3, z4, _⟩ := hp; exact ⟨D, vs, fs, n, z0, z2, z3, z4⟩)
  · refine raises_leave rfl rfl hL9 (Keeps.fr S' ‹Fr g' L' _ _›) hr2 (fun h3 r3 => ?_)
    exact hbad _ _ _ h3 _ [] (fun _ _ e _ => e) rfl (fun _ q => nomatch q) ⟨hb2.1, by cases z : rd x.length x with | none => rfl | some fs => exact absurd trivial (hb2.2 fs z)⟩ r3
set_option maxHeartbeats 4000000 in
theorem work_rsh {prog : Program} {w : World} {q : Addr} {h0 : Heap} {qual : Str} {cl : List (Str × Addr)} {p1 p2 p3 p4 p5 p6 p7 p8 : Pos} {r : List UInt8} {tr : Tok} (hr : r.length ≤ 20)
    (lam : LamAt h0 q qual noArgs (fnames [("random", .free), ("read_server_hello", .globalImplicit), ("server_hello", .globalImplicit)]) (.Call (.Name "read_server_hello" p1) [.Subscript (.Call (.Name "server_hello" p2) [.Name "random" p3] [] p4) (.Slice (some (.Constant (Const.int 4) 0 p5)) Option.none Option.none p6) p7] [] p8) cl)
    (c0 : CellAt h0 cl "random" (.bytes r.toArray tr)) :
    WorkN prog w q h0 40 120 [] (fun n => n = []) (fun _ v => ∃ a t, v = .bytes (a : List UInt8).toArray t ∧ rsh (cut (msg 2 (fld r)) (some 4) none) = some a) (fun c => c = 306 ∧ rsh (cut (msg 2 (fld r)) (some 4) none) = none) := by
  unfold WorkN
  intro dp un cn cs a ccd cl' outer A₀ base h₀ L m s p loose mean mg mb Q E B F X T hk hdp hu K0 N hret hbad
  refine cps fun G9 r9 => ?_
  obtain ⟨name, pm, c', ctv, oc, od, osl, hl, hcd⟩ := lam.keeps K0
  obtain ⟨a0, o0, l0, g0, d0⟩ := c0
  refine r9 ?_
  clear r9 G9
  refine wpN_call (enterLam B F X N T rfl rfl hk hl hcd (by ktr_room) rfl (fun g' L' h' tk' F' N' B' X' T' S' e' => ?_) rfl rfl rfl (by decide))
  have hL9 : s.heap.get? L' = none := Heap.get?_none_of_le (Nat.le_of_eq e'.symm)
  have y0 : g'.get? a0 = some o0 := S'.all _ _ (K0.all _ _ g0)
  walk_at "mine steps"
  clear e'
  subst_vars
  refine (rsh_spec ?hx).toN _ _ _ _ _ _ _ _ _ _ _ _ _ _ _ _ _ _ _ _ _ ‹_› ‹Fr g' L' _ _› ‹_› ‹_› rfl (by ktr_room) (by ktr_units) trivial (fun r h3 tk3 k3 hp => ?_) (fun c e h3 tk3 hb2 hr2 => ?_)
  · exact Nat.le_trans (Nat.le_trans cut_le9 ‹_›) (by decide)
  · exact hret _ _ _ _ (Keeps.fr S' (fr_kept0 ‹Fr g' L' _ _› k3)) rfl (fun _ q => nomatch q) hp
  · refine raises_leave rfl rfl hL9 (Keeps.fr S' ‹Fr g' L' _ _›) hr2 (fun h3 r3 => ?_)
    exact hbad _ _ _ h3 _ [] (fun _ _ e _ => e) rfl (fun _ q => nomatch q) hb2 r3
set_option maxHeartbeats 4000000 in
theorem work_rsh2 {prog : Program} {w : World} {q : Addr} {h0 : Heap} {qual : Str} {cl : List (Str × Addr)} {p1 p2 p3 p4 p5 p6 p7 p8 p9 p10 : Pos} {r : List UInt8} {tr : Tok} (hr : r.length ≤ 20)
    (lam : LamAt h0 q qual noArgs (fnames [("random", .free), ("read_server_hello", .globalImplicit), ("server_hello", .globalImplicit)]) (.Call (.Name "read_server_hello" p1) [.BinOp (.Subscript (.Call (.Name "server_hello" p2) [.Name "random" p3] [] p4) (.Slice (some (.Constant (Const.int 4) 0 p5)) Option.none Option.none p6) p7) .Add (.Constant (Const.bytes [0, 0]) 0 p8) p9] [] p10) cl)
    (c0 : CellAt h0 cl "random" (.bytes r.toArray tr)) :
    WorkN prog w q h0 40 120 [] (fun n => n = []) (fun _ v => ∃ a t, v = .bytes (a : List UInt8).toArray t ∧ rsh (cut (msg 2 (fld r)) (some 4) none ++ [0, 0]) = some a) (fun c => c = 306 ∧ rsh (cut (msg 2 (fld r)) (some 4) none ++ [0, 0]) = none) := by
  unfold WorkN
  intro dp un cn cs a ccd cl' outer A₀ base h₀ L m s p loose mean mg mb Q E B F X T hk hdp hu K0 N hret hbad
  refine cps fun G9 r9 => ?_
  obtain ⟨name, pm, c', ctv, oc, od, osl, hl, hcd⟩ := lam.keeps K0
  obtain ⟨a0, o0, l0, g0, d0⟩ := c0
  refine r9 ?_
  clear r9 G9
  refine wpN_call (enterLam B F X N T rfl rfl hk hl hcd (by ktr_room) rfl (fun g' L' h' tk' F' N' B' X' T' S' e' => ?_) rfl rfl rfl (by decide))
  have hL9 : s.heap.get? L' = none := Heap.get?_none_of_le (Nat.le_of_eq e'.symm)
  have y0 : g'.get? a0 = some o0 := S'.all _ _ (K0.all _ _ g0)
  walk_at "mine steps"
  clear e'
  subst_vars
  refine (rsh_spec ?hx).toN _ _ _ _ _ _ _ _ _ _ _ _ _ _ _ _ _ _ _ _ _ ‹_› ‹Fr g' L' _ _› ‹_› ‹_› rfl (by ktr_room) (by ktr_units) trivial (fun r h3 tk3 k3 hp => ?_) (fun c e h3 tk3 hb2 hr2 => ?_)
  · (rw [List.length_append]; exact Nat.le_trans (Nat.add_le_add_right (Nat.le_trans cut_le9 ‹_›) _) (by decide))
  · exact hret _ _ _ _ (Keeps.fr S' (fr_kept0 ‹Fr g' L' _ _› k3)) rfl (fun _ q => nomatch q) hp
  · refine raises_leave rfl rfl hL9 (Keeps.fr S' ‹Fr g' L' _ _›) hr2 (fun h3 r3 => ?_)
    exact hbad _ _ _ h3 _ [] (fun _ _ e _ => e) rfl (fun _ q => nomatch q) hb2 r3
set_option maxHeartbeats 4000000 in
theorem work_rex {prog : Program} {w : World} {q : Addr} {h0 : Heap} {qual : Str} {cl : List (Str × Addr)} {p1 p2 p3 p4 p5 p6 p7 p8 : Pos} {r : List UInt8} {tr : Tok} (hr : r.length ≤ 20)
    (lam : LamAt h0 q qual noArgs (fnames [("random", .free), ("read_extensions", .globalImplicit), ("server_hello", .globalImplicit)]) (.Call (.Name "read_extensions" p1) [.Subscript (.Call (.Name "server_hello" p2) [.Name "random" p3] [] p4) (.Slice (some (.Constant (Const.int 4) 0 p5)) Option.none Option.none p6) p7] [] p8) cl)
    (c0 : CellAt h0 cl "random" (.bytes r.toArray tr)) :
    WorkN prog w q h0 40 120 [] (fun n => n = []) (fun h v => ∃ T a b t1 t2, v = .ref T ∧ h.get? T = some { cls := .type "tuple", data := .seq #[.bytes (a : List UInt8).toArray t1, .bytes (b : List UInt8).toArray t2] } ∧ rex (cut (msg 2 (fld r)) (some 4) none) = some (a, b)) (fun c => c = 306 ∧ rex (cut (msg 2 (fld r)) (some 4) none) = none) := by
  unfold WorkN
  intro dp un cn cs a ccd cl' outer A₀ base h₀ L m s p loose mean mg mb Q E B F X T hk hdp hu K0 N hret hbad
  refine cps fun G9 r9 => ?_
  obtain ⟨name, pm, c', ctv, oc, od, osl, hl, hcd⟩ := lam.keeps K0
  obtain ⟨a0, o0, l0, g0, d0⟩ := c0
  refine r9 ?_
  clear r9 G9
  refine wpN_call (enterLam B F X N T rfl rfl hk hl hcd (by ktr_room) rfl (fun g' L' h' tk' F' N' B' X' T' S' e' => ?_) rfl rfl rfl (by decide))
  have hL9 : s.heap.get? L' = none := Heap.get?_none_of_le (Nat.le_of_eq e'.symm)
  have y0 : g'.get? a0 = some o0 := S'.all _ _ (K0.all _ _ g0)
  walk_at "mine steps"
  clear e'
  subst_vars
  refine (rex_spec ?hx).toN _ _ _ _ _ _ _ _ _ _ _ _ _ _ _ _ _ _ _ _ _ ‹_› ‹Fr g' L' _ _› ‹_› ‹_› rfl (by ktr_room) (by ktr_units) trivial (fun r h3 tk3 k3 hp => ?_) (fun c e h3 tk3 hb2 hr2 => ?_)
  · exact Nat.le_trans (Nat.le_trans cut_le9 ‹_›) (by decide)
  · exact hret _ _ _ _ (Keeps.fr S' (fr_kept0 ‹Fr g' L' _ _› k3)) rfl (fun _ q => nomatch q) (by obtain ⟨T, a, b, t1, t2, z0, _, z2, z3⟩ := hp; exact ⟨T, a, b, t1, t2, z0, z2, z3⟩)
  · refine raises_leave rfl rfl hL9 (Keeps.fr S' ‹Fr g' L' _ _›) hr2 (fun h3 r3 => ?_)
    exact hbad _ _ _ h3 _ [] (fun _ _ e _ => e) rfl (fun _ q => nomatch q) hb2 r3
set_option maxHeartbeats 4000000 in
theorem work_rch {prog : Program} {w : World} {q : Addr} {h0 : Heap} {qual : Str} {cl : List (Str × Addr)} {p1 p2 p3 p4 p5 p6 p7 p8 p9 p10 : Pos} {r o : List UInt8} {vs : List Value} {fs : List (List UInt8)} {l : Addr} {tr to : Tok} (hb : Bys vs fs) (hr : r.length ≤ 20) (ho : o.length ≤ 20) (hz : ∀ f ∈ fs, f.length ≤ 30) (hn : fs.length ≤ 6) (hli : h0.IsList l vs.toArray)
    (lam : LamAt h0 q qual noArgs (fnames [("own", .free), ("random", .free), ("spoken", .free), ("read_client_hello", .globalImplicit), ("client_hello", .globalImplicit)]) (.Call (.Name "read_client_hello" p1) [.Subscript (.Call (.Name "client_hello" p2) [.Name "random" p3, .Name "spoken" p4, .Name "own" p5] [] p6) (.Slice (some (.Constant (Const.int 4) 0 p7)) Option.none Option.none p8) p9] [] p10) cl)
    (c0 : CellAt h0 cl "own" (.bytes o.toArray to)) (c1 : CellAt h0 cl "random" (.bytes r.toArray tr)) (c2 : CellAt h0 cl "spoken" (.ref l)) :
    WorkN prog w q h0 40 140 [] (fun n => n = []) (fun h v => ∃ T D a c us gs n t1 t2, v = .ref T ∧ h.get? T = some { cls := .type "tuple", data := .seq #[.bytes (a : List UInt8).toArray t1, .ref D, .bytes (c : List UInt8).toArray t2] } ∧ h.get? D = some (listOf (us : List Value).toArray n) ∧ Bys us gs ∧ rch (cut (chello r fs o) (some 4) none) = some (a, gs, c)) (fun c => c = 306 ∧ rch (cut (chello r fs o) (some 4) none) = none) := by
  unfold WorkN
  intro dp un cn cs a ccd cl' outer A₀ base h₀ L m s p loose mean mg mb Q E B F X T hk hdp hu K0 N hret hbad
  refine cps fun G9 r9 => ?_
  obtain ⟨name, pm, c', ctv, oc, od, osl, hl, hcd⟩ := lam.keeps K0
  obtain ⟨a0, o0, l0, g0, d0⟩ := c0
  obtain ⟨a1, o1, l1, g1, d1⟩ := c1
  obtain ⟨a2, o2, l2, g2, d2⟩ := c2
  refine r9 ?_
  clear r9 G9
  refine wpN_call (enterLam B F X N T rfl rfl hk hl hcd (by ktr_room) rfl (fun g' L' h' tk' F' N' B' X' T' S' e' => ?_) rfl rfl rfl (by decide))
  have hL9 : s.heap.get? L' = none := Heap.get?_none_of_le (Nat.le_of_eq e'.symm)
  have y0 : g'.get? a0 = some o0 := S'.all _ _ (K0.all _ _ g0)
  have y1 : g'.get? a1 = some o1 := S'.all _ _ (K0.all _ _ g1)
  have y2 : g'.get? a2 = some o2 := S'.all _ _ (K0.all _ _ g2)
  have hli' : h'.IsList l vs.toArray := IsList.kept (Keeps.all (Keeps.fr S' F')) (IsList.kept K0.all hli)
  walk_at "mine steps"
  clear e'
  subst_vars
  refine (rch_spec ?hx).toN _ _ _ _ _ _ _ _ _ _ _ _ _ _ _ _ _ _ _ _ _ ‹_› ‹Fr g' L' _ _› ‹_› ‹_› rfl (by ktr_room) (by ktr_units) trivial (fun r h3 tk3 k3 hp => ?_) (fun c e h3 tk3 hb2 hr2 => ?_)
  · exact Nat.le_trans (Nat.le_trans cut_le9 ‹_›) (by decide)
  · exact hret _ _ _ _ (Keeps.fr S' (fr_kept0 ‹Fr g' L' _ _› k3)) rfl (fun _ q => nomatch q) (by obtain ⟨T, D, a, c, us, gs, n, t1, t2, z0, _, _, z1, z2, z3, z4⟩ := hp; exact ⟨T, D, a, c, us, gs, n, t1, t2, z0, z1, z2, z3, z4⟩)
  · refine raises_leave rfl rfl hL9 (Keeps.fr S' ‹Fr g' L' _ _›) hr2 (fun h3 r3 => ?_)
    exact hbad _ _ _ h3 _ [] (fun _ _ e _ => e) rfl (fun _ q => nomatch q) hb2 r3
theorem off_LN : True := by
  w_top off
  trivial
/-- the messages' objects, as a list -/
theorem msgs_tups {P : Addr → Obj → Prop} {vs : List Value} {xs : List Msg} (h : Msgs P vs xs) : ∃ tups : List (Addr × Obj), Msgs (fun a o => (a, o) ∈ tups) vs xs ∧ ∀ q ∈ tups, P q.1 q.2 := by
  induction h with
  | nil => exact ⟨[], .nil, fun _ q => nomatch q⟩
  | cons r _ ih =>
    refine cps fun G9 r9 => ?_
    obtain ⟨a, t1, t2, t3, e, h⟩ := r
    obtain ⟨tups, h1, h2⟩ := ih
    refine r9 ?_
    clear r9 G9
    refine ⟨(a, _) :: tups, .cons ⟨a, t1, t2, t3, e, .head _⟩ (Msgs.mono (P := fun a o => (a, o) ∈ tups) (fun _ _ z => List.Mem.tail _ z) h1), fun q hq => ?_⟩
    rcases List.mem_cons.mp hq with rfl | hq
    · exact h
    · exact h2 q hq
set_option maxHeartbeats 4000000 in
theorem work_split2 {prog : Program} {w : World} {q : Addr} {h0 : Heap} {qual : Str} {cl : List (Str × Addr)} {p1 p2 p3 p4 : Pos} {x : List UInt8} {most : Int} {tx tm : Tok} (hx : x.length ≤ 500) (hm0 : 0 ≤ most)
    (lam : LamAt h0 q qual noArgs (fnames [("data", .free), ("most", .free), ("split_messages", .globalImplicit)]) (.Call (.Name "split_messages" p1) [.Name "data" p2, .Name "most" p3] [] p4) cl)
    (c0 : CellAt h0 cl "data" (.bytes x.toArray tx)) (c1 : CellAt h0 cl "most" (.int most tm)) :
    WorkN prog w q h0 20 80 [] (fun n => n = []) (fun h r => ∃ T D vs xs n t1 rest, r = .ref T ∧ h0.get? T = none ∧ h0.get? D = none ∧ h.get? T = some { cls := .type "tuple", data := .seq #[.ref D, .bytes (rest : List UInt8).toArray t1] } ∧ h.get? D = some (listOf (vs : List Value).toArray n) ∧ Msgs (fun a o => h0.get? a = none ∧ h.get? a = some o) vs xs ∧ sp x.length most x = some (xs, rest)) (fun c => c = 306 ∧ sp x.length most x = none) := by
  unfold WorkN
  intro dp un cn cs a ccd cl' outer A₀ base h₀ L m s p loose mean mg mb Q E B F X T hk hdp hu K0 N hret hbad
  refine cps fun G9 r9 => ?_
  obtain ⟨name, pm, c', ctv, oc, od, osl, hl, hcd⟩ := lam.keeps K0
  obtain ⟨a0, o0, l0, g0, d0⟩ := c0
  obtain ⟨a1, o1, l1, g1, d1⟩ := c1
  refine r9 ?_
  clear r9 G9
  refine wpN_call (enterLam B F X N T rfl rfl hk hl hcd (by ktr_room) rfl (fun g' L' h' tk' F' N' B' X' T' S' e' => ?_) rfl rfl rfl (by decide))
  have hL9 : s.heap.get? L' = none := Heap.get?_none_of_le (Nat.le_of_eq e'.symm)
  have y0 : g'.get? a0 = some o0 := S'.all _ _ (K0.all _ _ g0)
  have y1 : g'.get? a1 = some o1 := S'.all _ _ (K0.all _ _ g1)
  have gone : ∀ b, h'.get? b = none → h0.get? b = none := fun b e => by
    cases e2 : h0.get? b with
    | none => rfl
    | some o =>
      have := Keeps.all (Keeps.fr S' F') _ _ (K0.all _ _ e2)
      rw [e] at this
      cases this
  walk_at "mine steps"
  refine (split_spec hx hm0).toN _ _ _ _ _ _ _ _ _ _ _ _ _ _ _ _ _ _ _ _ _ ‹_› ‹Fr g' L' _ _› ‹_› ‹_› rfl (by ktr_room) (by ktr_units) trivial (fun r h3 tk3 k3 hp => ?_) (fun c e h3 tk3 hb2 hr2 => ?_)
  · exact hret _ _ _ _ (Keeps.fr S' (fr_kept0 ‹Fr g' L' _ _› k3)) rfl (fun _ q => nomatch q) (by obtain ⟨T, D, vs, xs, n, t1, rest, z0, y1, y2, z1, z2, z3, z4⟩ := hp; exact ⟨T, D, vs, xs, n, t1, rest, z0, gone _ y1, gone _ y2, z1, z2, z3.mono (fun _ _ z => ⟨gone _ z.1, z.2⟩), z4⟩)
  · refine raises_leave rfl rfl hL9 (Keeps.fr S' ‹Fr g' L' _ _›) hr2 (fun h3 r3 => ?_)
    exact hbad _ _ _ h3 _ [] (fun _ _ e _ => e) rfl (fun _ q => nomatch q) hb2 r3
theorem off_LF : True := by
  w_top off
  trivial
theorem ground_list {h₀ h g : Heap} {L l : Addr} {m : Str → Option Value} {news : List (Addr × Obj)} {items : Array Value} (F : Fr h₀ L h m) (N : News h₀ L h news) (S : Keeps (news.map (·.1)) h g) (hl : h₀.IsList l items) : g.IsList l items := by
  obtain ⟨o, ho, r⟩ := hl
  refine ⟨o, S l o (F.keep _ _ ho) (fun q => ?_), r⟩
  obtain ⟨p, hp, e⟩ := List.mem_map.mp q
  have := (N p hp).2.2
  rw [e, ho] at this; cases this
theorem next_K {prog : Program} {w : World} {P l : Addr} {vs : List Value} {ns : List Int} {k c many : Int} {tk tc tm : Tok} {n : Nat}
   {dp un : Nat} {gd : Option (List Code)} {cn : Str} {cs : Scope} {a : Addr} {ccd : Value} {cl : List (Str × Addr)} {outer : List Env} {A₀ : Around} {base h₀ : Heap} {L : Addr} {m : Str → Option Value} {s : Shared}
    {p : Program} {loose : List Str} {mean : ExcName → Option Value} {mg mb : Str → Option Value} {Q E : Value → Shared → Prop} {news : List (Addr × Obj)} {g : Obj → List (Addr × Obj)}
    (N : News h₀ L s.heap news := by k_asm) (U : UpdF P (listOf #[.ref l, .int k tk, .int c tc] n) news g := by k_updF) (hl : h₀.IsList l vs.toArray := by assumption) (hi : IntsAre vs ns := by assumption) (hn : ns.length ≤ 63 := by assumption)
    (B : Below A₀ base outer h₀ := by k_asm) (F : Fr h₀ L s.heap m := by k_asm) (X : (hd.heap_1 w.params).In h₀ := by k_asm) (T : Top p loose mean mg mb h₀ := by k_asm) (hk : cs.kind = .function := by first | exact rfl | assumption) (hd : dp + 1 < recursionLimit := by ktr_room) (hu : un + 8 < cLine := by ktr_units)
    (k0 : 0 ≤ k := by omega) (k1 : k < 10000 := by omega) (c0 : 0 ≤ c := by omega) (c1 : c < 997 := by omega) (m0 : 0 < many := by omega) (m1 : many ≤ 1000 := by omega)
    (h : ∀ v t t' h' tk', Fr h₀ L h' m → News h₀ L h' (g (listOf #[.ref l, .int (k+1) t', .int c tc] n)) → 0 ≤ v → v < many → Q (.int v t) { s with heap := h', toks := tk' }) :
    wpAny (model prog w) (ktrTop dp un gd cn cs L a ccd cl outer) (call (.ref 157) [.ref P, .int many tm]) Q E s := by
  have N1 := news_got N U
  have hlP : l ≠ P := fun q => by
    obtain ⟨o, ho, _⟩ := hl
    rw [q, (N1 _ (.head _)).2.2] at ho; cases ho
  refine next_spec hi hn k0 k1 c0 c1 m0 m1 _ _ _ _ _ _ _ _ _ _ _ _ _ _ _ _ _ _ _ _ _ _ B F X N1 T hk hd hu (let ⟨o, ho, r⟩ := hl; ⟨o, F.keep _ _ ho, r⟩) hlP fun v t t' h' tk' kp hP v0 v1 => ?_
  exact h v t t' h' tk' (fr_keptU F N U kp) (news_keptU N U kp hP) v0 v1
theorem words58 : True := by
  (k_with "call ref" => (
  (with_reducible show wpAny _ _ (call (Value.ref 157) _ _) _ _ _);
  k_dflt (refine next_K (h := ?_)); k_whole;
  intro _ _ _ _ _ _ wN _ _; (try dsimp only at wN); (try dsimp only); k_sweep))
  trivial
theorem lenG {prog : Program} {w : World} {A : Around} {E : Value → Shared → Prop} {s : Shared} {h₀ : Heap} {L l : Addr} {m : Str → Option Value} {vs : List Value} {Q : Value → Shared → Prop} (F : Fr h₀ L s.heap m) (hl : h₀.IsList l vs.toArray) (hz : vs.length ≤ 16384)
    (h : ∀ t k, Q (.int (vs.length : Int) t) { s with toks := k }) : wpAny (model prog w) A (call (.builtin "len") [.ref l]) Q E s :=
  kun_lenL (k := (vs.length : Int)) (let ⟨o, e, r⟩ := hl; ⟨o, F.keep _ _ e, r⟩) (congrArg _ List.size_toArray) (by omega) (h _ _)
theorem words59 : True := by
  (k_with "call builtin:len" => (k_here; (with_reducible show wpAny _ _ (call (Value.builtin "len") [Value.ref _]) _ _ _); (refine lenG (by k_asm) (by assumption) (by omega) ?_; k_whole); intro _ _))
  trivial
theorem words60 : True := by
  (k_with "call ref" => ((with_reducible show wpAny _ _ (call (Value.ref 157) _ _) _ _ _); refine halt ?_))
  trivial
theorem words61 : True := by
  (k_with "mine ncall" => ((with_reducible show wpN _ _ (call _ ([] ++ _) _) _ _ _); simp only [List.nil_append]))
  trivial
set_option maxHeartbeats 4000000 in
theorem work_many {prog : Program} {w : World} {q P l S : Addr} {h0 : Heap} {qual : Str} {cl : List (Str × Addr)} {p1 p2 p3 p4 p5 p6 p7 p8 p9 q1 q2 q3 q4 q5 q6 q7 q8 q9 : Pos} {x : List UInt8} {tx : Tok} {vs us : List Value} {ns : List Int} {fs : List (List UInt8)} {k c : Int} {tk tc : Tok} {n : Nat}
    (hi : IntsAre vs ns) (hn : ns.length ≤ 63) (k0 : 0 ≤ k) (k1 : k < 9999) (c0' : 0 ≤ c) (c1' : c < 997) (hx : x.length ≤ 500) (hr : rd x.length x = some fs) (hf : us.length = fs.length) (hl0 : h0.IsList l vs.toArray) (hs0 : h0.IsList S us.toArray) (hlP : l ≠ P) (hSP : S ≠ P) (hz : fs.length ≤ 100)
    (lam : LamAt h0 q qual noArgs (fnames [("data", .free), ("pen", .free), ("some", .free), ("read_fields", .globalImplicit), ("len", .globalImplicit), ("_law_next", .globalImplicit)])
      (.Call (.Name "read_fields" p1) [.Name "data" p2, .BinOp (.Call (.Name "len" p3) [.Name "some" p4] [] p5) .Add (.Subscript (.List [.Constant (Const.int 1) 0 p6, .UnaryOp .USub (.Constant (Const.int 1) 0 p7) p8] p9) (.Call (.Name "_law_next" q1) [.Name "pen" q2, .Constant (Const.int 2) 0 q3] [] q4) q5) q6] [] q7) cl)
    (c0 : CellAt h0 cl "data" (.bytes x.toArray tx)) (c1 : CellAt h0 cl "pen" (.ref P)) (c2 : CellAt h0 cl "some" (.ref S)) :
    WorkN prog w q h0 20 120 [(P, listOf #[.ref l, .int k tk, .int c tc] n)] (fun m => ∃ t', m = [(P, listOf #[.ref l, .int (k + 1) t', .int c tc] n)]) (fun _ _ => False) (fun c => c = 306) := by
  unfold WorkN
  intro dp un cn cs a ccd cl' outer A₀ base h₀ L m s p loose mean mg mb Q E B F X T hk hdp hu K0 N hret hbad
  refine cps fun G9 r9 => ?_
  obtain ⟨name, pm, c', ctv, oc, od, osl, hl, hcd⟩ := lam.keeps K0
  obtain ⟨a0, o0, l0, g0, d0⟩ := c0
  obtain ⟨a1, o1, l1, g1, d1⟩ := c1
  obtain ⟨a2, o2, l2, g2, d2⟩ := c2
  refine r9 ?_
  clear r9 G9
  refine wpN_call (enterLam B F X N T rfl rfl hk hl hcd (by ktr_room) rfl (fun g' L' h' tk' F' N' B' X' T' S' e' => ?_) rfl rfl rfl (by decide))
  have hL9 : s.heap.get? L' = none := Heap.get?_none_of_le (Nat.le_of_eq e'.symm)
  have nc : ∀ {b o v}, h0.get? b = some o → o.data = .cell (some v) → g'.get? b = some o := fun {b o v} e d => S' _ _ (K0.all _ _ e) fun z => by
    have := (N _ (.head _)).1
    simp only [List.map_cons, List.map_nil, List.mem_singleton] at z
    rw [← z, K0.all _ _ e] at this
    cases this
    cases d
  have y0 : g'.get? a0 = some o0 := nc g0 d0
  have y1 : g'.get? a1 = some o1 := nc g1 d1
  have y2 : g'.get? a2 = some o2 := nc g2 d2
  have hlg : g'.IsList l vs.toArray := let ⟨o, e, r⟩ := hl0; ⟨o, S' _ _ (K0.all _ _ e) (by simpa using hlP), r⟩
  have hsg : g'.IsList S us.toArray := let ⟨o, e, r⟩ := hs0; ⟨o, S' _ _ (K0.all _ _ e) (by simpa using hSP), r⟩
  clear e'
  walk_at "mine steps"
  refine next_K (hi := hi) (hn := hn) (k0 := k0) (c0 := c0') (c1 := c1') (m0 := by decide) (m1 := by decide) (F := ‹Fr g' L' _ _›) (N := ‹News g' L' _ (_ :: _)›) (hl := hlg) (h := fun v t8 t9 h9 k9 F9 N9 v0 v1 => ?_)
  have hv : v = 0 ∨ v = 1 := by omega
  k_sweep
  rcases hv with rfl | rfl
  all_goals
    walk_at "mine steps"
    refine (fields_many hx).toN _ _ _ _ _ _ _ _ _ _ _ _ _ _ _ _ _ _ _ _ _ ‹_› ‹Fr g' L' _ _› ‹_› ‹_› rfl (by ktr_room) (by ktr_units) trivial (fun r h3 tk3 k3 hp => ?_) (fun c3 e h3 tk3 hb2 hr2 => ?_)
    · refine cps fun G9 r9 => ?_
      obtain ⟨D, vs', fs', n', _, _, _, _, z1, z2⟩ := hp
      refine r9 ?_
      clear r9 G9
      rw [hr] at z1; cases z1
      omega
    · have Fz := ‹Fr g' L' _ _›
      have Nz : News g' L' _ [(P, listOf #[.ref l, .int (k + 1) t9, .int c tc] n)] := fun p hp => by
        rw [List.mem_singleton.mp hp]; exact ‹News g' L' _ (_ :: _)› _ (by k_mem)
      refine raises_leave (hc := hideAll _ [L']) rfl rfl (hideAll_none _ (.head _)) (fun b o e _ => of_hideAll _ e) hr2 (fun h4 r4 => ?_)
      refine hbad _ _ _ h4 _ [(P, listOf #[.ref l, .int (k + 1) t9, .int c tc] n)] (fun b o e nb => hideAll_get _ (Fz.keep _ _ (S' _ _ e nb)) (fun z => ?_)) ⟨_, rfl⟩ (fun p hp => ?_) hb2.1 r4
      · rw [List.mem_singleton.mp z, hL9] at e; cases e
      · exact hideAll_get _ (Nz p hp).1 (fun z => (Nz p hp).2.1 (List.mem_singleton.mp z))
theorem off_PL1 : True := by
  w_top off
  trivial
theorem cut_from {x : List UInt8} {k : Int} (h0 : 0 ≤ k) (h1 : k ≤ x.length) : cut x (some k) none = x.drop k.toNat := by
  have e : clipAt x.length k = k.toNat := by unfold clipAt; rw [if_neg (by omega), Int.min_eq_left h1, Int.max_eq_right h0]
  unfold cut
  simp only [Option.elim]
  rw [e]
  exact List.take_of_length_le (by rw [List.length_drop]; omega)
theorem cut_to {x : List UInt8} {k : Int} (h0 : 0 ≤ k) (h1 : k ≤ x.length) : cut x none (some k) = x.take k.toNat := by
  have e : clipAt x.length k = k.toNat := by unfold clipAt; rw [if_neg (by omega), Int.min_eq_left h1, Int.max_eq_right h0]
  unfold cut
  simp only [Option.elim, List.drop_zero, Nat.sub_zero]
  rw [e]
theorem cut_msg (k : Int) (d : List UInt8) : cut (msg k d) (some 4) none = d := by
  rw [cut_from (by decide) (by rw [msg_len]; omega)]
  rfl
theorem whole_two (b : UInt8) : whole [0, b] = (b.toNat : Int) := by
  unfold whole
  simp [KBw.bInts]
theorem oct_len {n : Nat} (h : n < 256) : ((n : Int).toNat.toUInt8).toNat = n := by
  simp
  omega
theorem rd_fld {f rest : List UInt8} {n : Nat} (h : f.length < 256) : rd (n + 1) (fld f ++ rest) = (rd n rest).map (f :: ·) := by
  have e : (fld f ++ rest) = 0 :: ((f.length : Int).toNat.toUInt8) :: (f ++ rest) := rfl
  have w : whole ((fld f ++ rest).take 2) = f.length := by
    rw [e]
    show whole [0, (f.length : Int).toNat.toUInt8] = _
    rw [whole_two, oct_len h]
  have ln : (fld f ++ rest).length = f.length + 2 + rest.length := by rw [List.length_append, fld_len]
  rw [rd_some (by omega) (by rw [w, ln]; omega), w]
  have e2 : (fld f ++ rest).drop 2 = f ++ rest := rfl
  have e3 : (fld f ++ rest).drop (2 + (f.length : Int).toNat) = rest := by
    rw [← List.drop_drop, e2, Int.toNat_natCast, List.drop_left]
  rw [e3, e2, Int.toNat_natCast, List.take_left]
theorem rd_flds : ∀ {fs : List (List UInt8)} {n : Nat}, (∀ f ∈ fs, f.length < 256) → fs.length ≤ n → rd n (flds fs).flatten = some fs
  | [], n, _, _ => rd_nil n
  | f :: fs, 0, _, h => by simp at h
  | f :: fs, n + 1, hz, h => by
    have e : (flds (f :: fs)).flatten = fld f ++ (flds fs).flatten := rfl
    rw [e, rd_fld (hz f (.head _)), rd_flds (fun g hg => hz g (.tail _ hg)) (by simpa using h)]
    rfl
theorem flds_count (fs : List (List UInt8)) : 2 * fs.length ≤ (flds fs).flatten.length := by
  induction fs with
  | nil => simp [flds]
  | cons f r ih =>
    have e : (flds (f :: r)).flatten = fld f ++ (flds r).flatten := rfl
    rw [e, List.length_append, fld_len, List.length_cons]
    omega
theorem rd_all {fs : List (List UInt8)} (hz : ∀ f ∈ fs, f.length < 256) : rd (flds fs).flatten.length (flds fs).flatten = some fs := rd_flds hz (by have := flds_count fs; omega)
theorem rd_one {f : List UInt8} (h : f.length < 256) : rd (fld f).length (fld f) = some [f] := by
  have := rd_all (fs := [f]) (by simpa using h)
  simpa [flds] using this
theorem rd_two {f g : List UInt8} (h : f.length < 256) (h2 : g.length < 256) : rd (fld f ++ fld g).length (fld f ++ fld g) = some [f, g] := by
  have := rd_all (fs := [f, g]) (by simpa using ⟨h, h2⟩)
  simpa [flds] using this
theorem rd_three {f g k : List UInt8} (h : f.length < 256) (h2 : g.length < 256) (h3 : k.length < 256) : rd ((fld f ++ fld g) ++ fld k).length ((fld f ++ fld g) ++ fld k) = some [f, g, k] := by
  have := rd_all (fs := [f, g, k]) (by simpa using ⟨h, h2, h3⟩)
  simpa [flds, List.append_assoc] using this
theorem rch_law {r q : List UInt8} {fs : List (List UInt8)} (hr : r.length ≤ 20) (hq : q.length ≤ 20) (hz : ∀ f ∈ fs, f.length ≤ 30) (hn : fs.length ≤ 6) :
    rch (cut (chello r fs q) (some 4) none) = if r.length = 8 then some (r, fs, q) else none := by
  unfold chello
  rw [cut_msg]
  unfold rch
  have hl := flds_len fs hz hn
  rw [rd_three (by omega) (by omega) (by omega)]
  dsimp only
  rw [rd_all (fun f hf => by have := hz f hf; omega)]
  rfl
theorem rsh_law {r : List UInt8} (hr : r.length ≤ 20) : rsh (cut (msg 2 (fld r)) (some 4) none) = if r.length = 8 then some r else none := by
  rw [cut_msg]
  unfold rsh
  rw [rd_one (by omega)]
theorem rsh_more {r : List UInt8} (hr : r.length ≤ 20) : rsh (cut (msg 2 (fld r)) (some 4) none ++ [0, 0]) = none := by
  rw [cut_msg]
  unfold rsh
  have e : fld r ++ [0, 0] = fld r ++ fld [] := rfl
  rw [e, rd_two (by omega) (by decide)]
theorem rex_law {q r : List UInt8} (hq : q.length ≤ 20) (hr : r.length ≤ 20) : rex (cut (msg 8 (fld q ++ fld r)) (some 4) none) = some (q, r) := by
  rw [cut_msg]
  unfold rex
  rw [rd_two (by omega) (by omega)]
theorem rex_less {r : List UInt8} (hr : r.length ≤ 20) : rex (cut (msg 2 (fld r)) (some 4) none) = none := by
  rw [cut_msg]
  unfold rex
  rw [rd_one (by omega)]
/-- what follows the fields is no field -/
theorem rd_tail {t : List UInt8} (ht : ∀ n, rd n t = none) : ∀ {fs : List (List UInt8)} {n : Nat}, (∀ f ∈ fs, f.length < 256) → rd n ((flds fs).flatten ++ t) = none
  | [], n, _ => ht n
  | f :: fs, 0, hz => by
    have e : (flds (f :: fs)).flatten ++ t = fld f ++ ((flds fs).flatten ++ t) := by
      have e : (flds (f :: fs)).flatten = fld f ++ (flds fs).flatten := rfl
      rw [e, List.append_assoc]
    rw [e]; rfl
  | f :: fs, n + 1, hz => by
    have e : (flds (f :: fs)).flatten ++ t = fld f ++ ((flds fs).flatten ++ t) := by
      have e : (flds (f :: fs)).flatten = fld f ++ (flds fs).flatten := rfl
      rw [e, List.append_assoc]
    rw [e, rd_fld (hz f (.head _)), rd_tail ht (fun g hg => hz g (.tail _ hg))]
    rfl
theorem rd_bad1 : ∀ n, rd n [0] = none := fun n => rd_none1 (by decide) (by decide)
theorem rd_bad2 : ∀ n, rd n [0, 1] = none := fun n => rd_none2 (by decide) (by
  show ((2 : Nat) : Int) < 2 + whole [0, 1]
  rw [whole_two]; decide)
theorem rd_bad3 : ∀ n, rd n [1, 0, 120] = none := fun n => rd_none2 (by decide) (by
  show ((3 : Nat) : Int) < 2 + whole [1, 0]
  unfold whole
  simp [KBw.bInts])
theorem rd_cut : ∀ {fs : List (List UInt8)} {n : Nat}, (∀ f ∈ fs, f.length < 256) → fs ≠ [] → rd n ((flds fs).flatten.dropLast) = none
  | [], _, _, h => absurd rfl h
  | [f], n, hz, _ => by
    have hf := hz f (.head _)
    have e : (flds [f]).flatten = fld f := by simp [flds]
    rw [e]
    by_cases h0 : f = []
    · subst h0
      exact rd_none1 (by decide) (by decide)
    · have e2 : (fld f).dropLast = 0 :: (f.length : Int).toNat.toUInt8 :: f.dropLast := by
        cases f with
        | nil => exact absurd rfl h0
        | cons a r => rfl
      have hl : 0 < f.length := List.length_pos_iff.mpr h0
      rw [e2]
      refine rd_none2 (by simp) ?_
      show _ < 2 + whole [0, (f.length : Int).toNat.toUInt8]
      rw [whole_two, oct_len hf]
      simp
      omega
  | f :: g :: r, 0, hz, _ => by
    have e : (flds (f :: g :: r)).flatten = fld f ++ (fld g ++ (flds r).flatten) := rfl
    have ne : fld g ++ (flds r).flatten ≠ [] := by simp [fld]
    rw [e, List.dropLast_append_of_ne_nil ne]
    rfl
  | f :: g :: r, n + 1, hz, _ => by
    have e : (flds (f :: g :: r)).flatten = fld f ++ (flds (g :: r)).flatten := rfl
    have ne : (flds (g :: r)).flatten ≠ [] := by simp [flds, fld]
    rw [e, List.dropLast_append_of_ne_nil ne, rd_fld (hz f (.head _)), rd_cut (fun k hk => hz k (.tail _ hk)) (by simp)]
    rfl
theorem cut_last (x : List UInt8) : cut x none (some (-1)) = x.dropLast := by
  have e : clipAt x.length (-1) = x.length - 1 := by
    unfold clipAt
    rw [if_pos (by decide)]
    omega
  unfold cut
  simp only [Option.elim, List.drop_zero, Nat.sub_zero]
  rw [e, List.dropLast_eq_take]
theorem off_LA : True := by
  w_top off
  trivial
theorem code169 {w : World} {g : Heap} (X : (hd.heap_1 w.params).In g) : CodeHd g 168 166 := ⟨_, _, _, _, _, _, _, _, _, X _ _ (by with_unfolding_all rfl), rfl, rfl, rfl, rfl, rfl, rfl, rfl, rfl, by decide⟩
theorem code174 {w : World} {g : Heap} (X : (hd.heap_1 w.params).In g) : CodeHd g 173 171 := ⟨_, _, _, _, _, _, _, _, _, X _ _ (by with_unfolding_all rfl), rfl, rfl, rfl, rfl, rfl, rfl, rfl, rfl, by decide⟩
theorem code179 {w : World} {g : Heap} (X : (hd.heap_1 w.params).In g) : CodeHd g 178 176 := ⟨_, _, _, _, _, _, _, _, _, X _ _ (by with_unfolding_all rfl), rfl, rfl, rfl, rfl, rfl, rfl, rfl, rfl, by decide⟩
theorem code184 {w : World} {g : Heap} (X : (hd.heap_1 w.params).In g) : CodeHd g 183 181 := ⟨_, _, _, _, _, _, _, _, _, X _ _ (by with_unfolding_all rfl), rfl, rfl, rfl, rfl, rfl, rfl, rfl, rfl, by decide⟩
theorem codeAmong_snoc_or {pos pos' : Pos} {c cv : Value} (l : List Value) (h : TriplesOk l) (hc : codeAmong pos' (l ++ [rawInt pos.line, rawInt pos.col, c]) = some cv) : codeAmong pos' l = some cv ∨ cv = c := by
  fun_induction TriplesOk l with
  | case1 =>
    right
    simp only [List.nil_append, rawInt, codeAmong] at hc
    split at hc
    · exact (Option.some.inj hc).symm
    · cases hc
  | case2 a t b u x rest ih =>
    simp only [List.cons_append, codeAmong] at hc ⊢
    split at hc
    · rename_i q; rw [if_pos q]; exact .inl hc
    · rename_i q; rw [if_neg q]; exact ih h hc
  | case3 l h1 h2 => exact h.elim
/-- the table of a def's code objects, and they -/
noncomputable def TabC (qual : Str) (ps : Array Value) (codes : List (Addr × Obj)) : Prop :=
  TriplesOk ps.toList ∧ ∀ pos cv, codeAmong pos ps.toList = some cv → ∃ c' oc vs t, cv = .ref c' ∧ (c', oc) ∈ codes ∧ oc.data = .fields vs ∧ vs[1]? = some (.str qual t)
theorem TabC.nil {qual : Str} : TabC qual #[] [] := ⟨trivial, fun pos cv e => by cases e⟩
theorem TabC.snoc {qual : Str} {ps : Array Value} {codes : List (Addr × Obj)} {pos : Pos} {c' : Addr} {oc : Obj} {vs : Array Value} {t : Tok} (K : TabC qual ps codes) (hd : oc.data = .fields vs) (hv : vs[1]? = some (.str qual t)) :
    TabC qual (ps ++ #[rawInt pos.line, rawInt pos.col, .ref c']) ((c', oc) :: codes) := by
  have e : (ps ++ #[rawInt pos.line, rawInt pos.col, Value.ref c']).toList = ps.toList ++ [rawInt pos.line, rawInt pos.col, Value.ref c'] := by simp
  refine ⟨by rw [e]; exact TriplesOk_snoc _ _ _ _ K.1, fun pos' cv hc => ?_⟩
  rw [e] at hc
  rcases codeAmong_snoc_or _ K.1 hc with q | q
  · refine cps fun G9 r9 => ?_
    obtain ⟨c2, oc2, vs2, t2, a, b, r⟩ := K.2 _ _ q
    refine r9 ?_
    clear r9 G9
    exact ⟨c2, oc2, vs2, t2, a, .tail _ b, r⟩
  · exact ⟨c', oc, vs, t, q, .head _, hd, hv⟩
theorem News.cons {h₀ h : Heap} {L : Addr} {p : Addr × Obj} {news : List (Addr × Obj)} (a : News h₀ L h [p]) (b : News h₀ L h news) : News h₀ L h (p :: news) := fun q hq => by
  rcases List.mem_cons.mp hq with rfl | hq
  · exact a _ (.head _)
  · exact b _ hq
theorem News.app {h₀ h : Heap} {L : Addr} {xs ys : List (Addr × Obj)} (a : News h₀ L h xs) (b : News h₀ L h ys) : News h₀ L h (xs ++ ys) := fun q hq => by
  rcases List.mem_append.mp hq with hq | hq
  · exact a _ hq
  · exact b _ hq
theorem News.swap {h₀ h : Heap} {L : Addr} {ys zs : List (Addr × Obj)} (xs : List (Addr × Obj)) (a : News h₀ L h (xs ++ ys)) (b : News h₀ L h zs) : News h₀ L h (xs ++ zs) := News.app (fun q hq => a q (List.mem_append_left _ hq)) b
/-- a closure is made -/
theorem mk_lam {M : Model} {A : Around} {E : Value → Shared → Prop} {s : Shared} {h₀ : Heap} {L a c P : Addr} {m mg mb : Str → Option Value} {cn : Str} {cs : Scope} {ccd : Value} {cl : List (Str × Addr)} {news : List (Addr × Obj)} {g : Obj → List (Addr × Obj)}
    {p : Program} {loose : List Str} {mean : ExcName → Option Value} {params : Arguments} {body : PySem.Expr} {scope : Scope} {ps : Array Value} {pos : Pos} {clos : List (Str × Addr)} {codes : List (Addr × Obj)} {Q : Value → Shared → Prop}
    (F : Fr h₀ L s.heap m) (N : News h₀ L s.heap news) (T : Top p loose mean mg mb h₀) (C : CodeHd h₀ c P) (hcd : ccd = .ref c) (U : UpdF P (tabObj ps) news g) (K : TabC ((envX cn cs L a ccd cl).qual ++ Str.ofString "<lambda>") ps codes) (hsub : ∀ q ∈ codes, q ∈ news ∧ q.1 ≠ P)
    (hdef : defaultsOf params (envX cn cs L a ccd cl) = ([], [])) (hcl : closureFor scope (envX cn cs L a ccd cl) = pure clos)
    (h : ∀ f ps' cod' h' tk, Fr h₀ L h' m → News h₀ L h' (g (tabObj ps')) → News h₀ L h' (cod' ++ codes) → TabC ((envX cn cs L a ccd cl).qual ++ Str.ofString "<lambda>") ps' (cod' ++ codes) → (∀ q ∈ cod', ∀ p ∈ news, p.1 < q.1) → (∀ p ∈ news, p.1 < f) → LamAt h' f ((envX cn cs L a ccd cl).qual ++ Str.ofString "<lambda>") params scope body clos → FnAt f h' →
      Q (.ref f) { s with heap := h', toks := tk }) :
    wpAny M A (eval (.Lambda params body scope pos) (envX cn cs L a ccd cl)) Q E s := by
  refine kla_eval hdef ?_
  refine cps fun G9 r9 => ?_
  obtain ⟨pre, post, e1, e2, _, _⟩ := U.split
  refine r9 ?_
  clear r9 G9
  have hm : (P, tabObj ps) ∈ news := by rw [e1]; exact List.mem_append_right _ (.head _)
  cases hc : codeAmong pos ps.toList with
  | none =>
    refine kla_nest F N T C hcd U K.1 hc hcl fun f c' oc vs t ctv h' tk F' N' d1 d2 l1 l2 => ?_
    have K' := K.snoc (pos := pos) (c' := c') d1 d2
    have sub : ∀ q ∈ codes, q ∈ g (tabObj (ps ++ #[rawInt pos.line, rawInt pos.col, .ref c'])) := fun q hq => by
      have hq' := (hsub q hq).1
      rw [e1] at hq'
      rw [e2]
      rcases List.mem_append.mp hq' with z | z
      · exact List.mem_append_left _ z
      · rcases List.mem_cons.mp z with z | z
        · exact absurd (congrArg Prod.fst z) (hsub q hq).2
        · exact List.mem_append_right _ (.tail _ z)
    have nf := (N' _ (.head _)).1
    have nc := (N' _ (.tail _ (.head _))).1
    refine h f _ [(c', oc)] h' tk F' (fun q hq => N' q (.tail _ (.tail _ hq))) (fun q hq => ?_) K' (fun q hq p hp => ?_) (fun p hp => Nat.lt_trans (l1 p hp) l2) ⟨_, _, c', ctv, _, _, _, nf, ⟨c', oc, vs, t, rfl, nc, d1, d2⟩⟩ ⟨_, _, _, _, nf⟩
    · rcases List.mem_cons.mp hq with rfl | hq
      · exact N' _ (.tail _ (.head _))
      · exact N' q (.tail _ (.tail _ (sub q hq)))
    · rw [List.mem_singleton.mp hq]; exact l1 p hp
  | some cv =>
    refine cps fun G9 r9 => ?_
    obtain ⟨c', oc, vs, t, rfl, hcm, d1, d2⟩ := K.2 _ _ hc
    refine r9 ?_
    clear r9 G9
    refine kla_hit F N T C hcd hm K.1 hc hcl fun f ctv h' tk F' N' l1 => ?_
    have nf := (N' _ (.head _)).1
    have nc := (N' _ (.tail _ (hsub _ hcm).1)).1
    refine h f ps [] h' tk F' (fun q hq => N' q (.tail _ ?_)) (fun q hq => N' q (.tail _ (hsub q hq).1)) K (fun q hq => nomatch hq) l1 ⟨_, _, c', ctv, _, _, _, nf, ⟨c', oc, vs, t, rfl, nc, d1, d2⟩⟩ ⟨_, _, _, _, nf⟩
    rw [e1, ← e2]; exact hq
theorem off_LB : True := by
  w_top off
  trivial
/-- addresses that a tail does not name -/
noncomputable def Apart (as : List Addr) (tl : List (Addr × Obj)) : Prop := ∀ q ∈ tl, q.1 ∉ as
theorem Apart.ne {as : List Addr} {tl : List (Addr × Obj)} {d : Addr} (x : Apart as tl) (hd : d ∈ as) : ∀ p ∈ tl, p.1 ≠ d := fun p hp q => x p hp (q ▸ hd)
theorem allLt_ne {d e : Addr} {tl : List (Addr × Obj)} (x : AllLt d tl) (hd : (@LE.le Nat _ d e)) : ∀ p ∈ tl, p.1 ≠ e := by
  induction tl with
  | nil => exact fun _ hp => nomatch hp
  | cons q r ih =>
    unfold AllLt at x
    intro p hp
    rcases List.mem_cons.mp hp with rfl | hp
    · exact Nat.ne_of_lt (Nat.lt_of_lt_of_le x.1 hd)
    · exact ih x.2 p hp
/-- the end of a law's def: its caller's ground has turned too -/
theorem turn_done {w : World} {A₀ : Around} {base h₀ hs g g' hf : Heap} {outer : List Env} {L L' : Addr} {m m' : Str → Option Value} {env : Env} {mt : List (Addr × Obj)} {p : Program} {loose : List Str} {mean : ExcName → Option Value} {mg mb : Str → Option Value}
    (B : Below A₀ base outer h₀) (F : Fr h₀ L hs m) (hL : env.frame = some L) (N : News h₀ L hs mt) (S : Keeps (mt.map (·.1)) hs g) (T : KtsTurn ((env :: outer).filterMap (·.frame)) g g') (F' : Fr g' L' hf m') (XB : (hd.heap_1 w.params).In base) (TB : Top p loose mean mg mb base) :
    ∃ h₀', Fr h₀' L hf m ∧ Below A₀ base outer h₀' ∧ (hd.heap_1 w.params).In h₀' ∧ Top p loose mean mg mb h₀' ∧ (∀ news, News h₀ L hs news → (∀ q ∈ news, q.1 ∉ mt.map (·.1)) → News h₀' L hf news) ∧ (∀ news, News g' L' hf news → News h₀' L hf news) ∧
      (∀ b, h₀.get? b = none → h₀'.get? b = none) ∧ KtsTurn (outer.filterMap (·.frame)) h₀ h₀' := by
  have hX : ∀ b ∈ mt.map (·.1), h₀.get? b = none ∧ b ≠ L := fun b hb => by
    obtain ⟨q, hq, rfl⟩ := List.mem_map.mp hb
    exact ⟨(N _ hq).2.2, (N _ hq).2.1⟩
  refine cps fun G9 r9 => ?_
  obtain ⟨h₀', a1, a2, a3, a4, a5⟩ := turn_back B F hL hX S T F'
  refine r9 ?_
  clear r9 G9
  refine ⟨h₀', a1, a2, XB.keeps a2.stays, TB.keeps a2.stays, a3, fun news Nf q hq => ?_, a5.none_, a5⟩
  have hq' := Nf q hq
  by_cases hx : q.1 ∈ mt.map (·.1)
  · exact ⟨hq'.1, (hX _ hx).2, a5.none_ _ (hX _ hx).1⟩
  · have gn : g.get? q.1 = none := by
      cases z : g.get? q.1 with
      | none => rfl
      | some o => obtain ⟨sl, e⟩ := T.up z; rw [hq'.2.2] at e; cases e
    have sn : hs.get? q.1 = none := by
      cases z : hs.get? q.1 with
      | none => rfl
      | some o => rw [S _ _ z hx] at gn; cases gn
    refine ⟨hq'.1, fun e => ?_, a5.none_ _ (kts_none F.keep sn)⟩
    refine cps fun G9 r9 => ?_
    obtain ⟨o, _, _, ho, _⟩ := F.ns
    refine r9 ?_
    clear r9 G9
    rw [e, ho] at sn; cases sn
/-- a def of the law: it draws from the pen, makes closures and comes to True -/
noncomputable def LawC (prog : Program) (w : World) (f tab : Addr) (qual : Str) (dd uu : Nat) : Prop :=
  ∀ (vs : List Value) (ns : List Int) (P l : Addr) (k c : Int) (tk tc : Tok) (n : Nat) (ps : Array Value) (codes : List (Addr × Obj))
    (dp un : Nat) (cn : Str) (cs : Scope) (a : Addr) (ccd : Value) (cl : List (Str × Addr)) (outer : List Env) (A₀ : Around) (base h₀ : Heap) (L : Addr) (m : Str → Option Value) (s : Shared)
    (p : Program) (loose : List Str) (mean : ExcName → Option Value) (mg mb : Str → Option Value) (Q E : Value → Shared → Prop),
    IntsAre vs ns → ns.length ≤ 63 → 0 ≤ k → k < 9000 → 0 ≤ c → c < 997 →
    Below A₀ base outer h₀ → Fr h₀ L s.heap m → (hd.heap_1 w.params).In h₀ → News h₀ L s.heap ((P, listOf #[.ref l, .int k tk, .int c tc] n) :: (tab, tabObj ps) :: codes) → Top p loose mean mg mb h₀ →
    (hd.heap_1 w.params).In base → Top p loose mean mg mb base → cs.kind = .function → dp + dd < recursionLimit → un + uu < cLine →
    s.heap.IsList l vs.toArray → l ≠ P → TabC qual ps codes → (∀ q ∈ codes, q.1 ≠ P ∧ q.1 ≠ tab ∧ q.1 ≠ l) →
    (∀ h' tk' h₀' k' t' ps' codes', Fr h₀' L h' m → Below A₀ base outer h₀' → (hd.heap_1 w.params).In h₀' → Top p loose mean mg mb h₀' → k ≤ k' → k' ≤ k + 50 →
      News h₀' L h' ((P, listOf #[.ref l, .int k' t', .int c tc] n) :: (tab, tabObj ps') :: codes') → TabC qual ps' codes' → (∀ q ∈ codes', q ∈ codes ∨ s.heap.get? q.1 = none) →
      (∀ news, News h₀ L s.heap news → (∀ q ∈ news, q.1 ≠ P ∧ q.1 ≠ tab ∧ q.1 ∉ codes.map (·.1)) → News h₀' L h' news) → Q (.bool true) { s with heap := h', toks := tk' }) →
    wpN (model prog w) (ktrTop dp un (some []) cn cs L a ccd cl outer) (call (.ref f) [.ref P]) Q E s
theorem law_pre {s : Shared} {h₀ g : Heap} {L P l tab : Addr} {k c : Int} {tk tc : Tok} {n : Nat} {ps : Array Value} {codes : List (Addr × Obj)} {vs : List Value}
    (N : News h₀ L s.heap ((P, listOf #[.ref l, .int k tk, .int c tc] n) :: (tab, tabObj ps) :: codes)) (hl : s.heap.IsList l vs.toArray) (hlP : l ≠ P) (hco : ∀ q ∈ codes, q.1 ≠ P ∧ q.1 ≠ tab ∧ q.1 ≠ l)
    (S : Keeps (((P, listOf #[.ref l, .int k tk, .int c tc] n) :: (tab, tabObj ps) :: codes).map (·.1)) s.heap g) : @Ne Nat P tab ∧ Apart [P, tab] codes ∧ g.IsList l vs.toArray := by
  have n1 := (N _ (.head _)).1
  have n2 := (N _ (.tail _ (.head _))).1
  refine ⟨fun e => ?_, fun q hq z => ?_, ?_⟩
  · have e' : P = tab := e
    rw [e', n2] at n1; cases n1
  · have := hco q hq
    simp only [List.mem_cons, List.not_mem_nil, or_false] at z
    rcases z with z | z
    · exact this.1 z
    · exact this.2.1 z
  · refine cps fun G9 r9 => ?_
    obtain ⟨o, ho, hc, r⟩ := hl
    refine r9 ?_
    clear r9 G9
    refine ⟨o, S _ _ ho (fun z => ?_), hc, r⟩
    simp only [List.map_cons, List.mem_cons] at z
    rcases z with z | z | z
    · exact hlP z
    · rw [z, n2] at ho; cases ho; cases hc
    · obtain ⟨q, hq, e⟩ := List.mem_map.mp z
      exact (hco q hq).2.2 e
theorem allLt_lt {d : Addr} {tl : List (Addr × Obj)} (x : AllLt d tl) : ∀ p ∈ tl, @LT.lt Nat _ p.1 d := by
  induction tl with
  | nil => exact fun _ hp => nomatch hp
  | cons q r ih =>
    unfold AllLt at x
    intro p hp
    rcases List.mem_cons.mp hp with rfl | hp
    · exact x.1
    · exact ih x.2 p hp
theorem Apart.cells {P T L : Addr} {tl : List (Addr × Obj)} (x : Apart [P, T] tl) (l : AllLt L tl) : Apart [P, T, L + 1, L + 1 + 1, L + 1 + 1 + 1, L + 1 + 1 + 1 + 1] tl := fun q hq z => by
  have := x q hq
  simp only [List.mem_cons, List.not_mem_nil, or_false] at z this
  rcases z with z | z | z | z | z | z
  · exact this (.inl z)
  · exact this (.inr z)
  all_goals exact absurd z (Nat.ne_of_lt (Nat.lt_of_lt_of_le (allLt_lt l q hq) (by show @LE.le Nat _ L _; first | exact Nat.le_succ _ | exact Nat.le_add_right L 2 | exact Nat.le_add_right L 3 | exact Nat.le_add_right L 4)))
theorem apart1 {d : Addr} {tl : List (Addr × Obj)} (x : ∀ p ∈ tl, p.1 ≠ d) : Apart [d] tl := fun q hq z => x q hq (List.mem_singleton.mp z)
/-- the tail changed -/
inductive Mg (c c' : List (Addr × Obj)) : List (Addr × Obj) → List (Addr × Obj) → Prop
  | nil : Mg c c' c c'
  | cons {x : Addr × Obj} {xs ys : List (Addr × Obj)} : Mg c c' xs ys → Mg c c' (x :: xs) (x :: ys)
/-- the codes that stand in the old ones' place -/
noncomputable def Swap (h₀ h : Heap) (L : Addr) (_c c' : List (Addr × Obj)) : Prop := News h₀ L h c'
theorem News.mg {h₀ h : Heap} {L : Addr} {c c' xs ys : List (Addr × Obj)} (a : News h₀ L h xs) (b : Swap h₀ h L c c') (r : Mg c c' xs ys) : News h₀ L h ys := by
  induction r with
  | nil => exact b
  | cons r ih => exact News.cons (fun q hq => a q (by rw [List.mem_singleton.mp hq]; exact .head _)) (ih fun q hq => a q (.tail _ hq))
/-- all of these are in the ledger -/
noncomputable def AllIn (news : List (Addr × Obj)) : List Addr → Prop
  | [] => True
  | a :: as => (∃ o, (a, o) ∈ news) ∧ AllIn news as
theorem AllIn.nil {news : List (Addr × Obj)} : AllIn news [] := trivial
theorem AllIn.cons {news : List (Addr × Obj)} {a : Addr} {as : List Addr} {o : Obj} (h : (a, o) ∈ news) (r : AllIn news as) : AllIn news (a :: as) := ⟨⟨o, h⟩, r⟩
theorem AllIn.get {news : List (Addr × Obj)} : ∀ {as : List Addr}, AllIn news as → ∀ a ∈ as, ∃ o, (a, o) ∈ news
  | _ :: _, x, a, h => by
    rcases List.mem_cons.mp h with rfl | h
    · exact x.1
    · exact x.2.get a h
/-- the codes: those at the call, and new ones -/
noncomputable def Cds (codes0 : List (Addr × Obj)) (L : Addr) (codes : List (Addr × Obj)) : Prop := ∀ q ∈ codes, q ∈ codes0 ∨ @LT.lt Nat _ L q.1
theorem mk_lam2 {M : Model} {A : Around} {E : Value → Shared → Prop} {s : Shared} {h₀ : Heap} {L a c P : Addr} {m mg mb : Str → Option Value} {cn : Str} {cs : Scope} {ccd : Value} {cl : List (Str × Addr)} {news : List (Addr × Obj)} {g : Obj → List (Addr × Obj)}
    {p : Program} {loose : List Str} {mean : ExcName → Option Value} {params : Arguments} {body : PySem.Expr} {scope : Scope} {ps : Array Value} {pos : Pos} {clos : List (Str × Addr)} {codes codes0 : List (Addr × Obj)} {as : List Addr} {Q : Value → Shared → Prop}
    (F : Fr h₀ L s.heap m := by k_asm) (N : News h₀ L s.heap news := by k_asm) (T : Top p loose mean mg mb h₀ := by k_asm) (hcd : ccd = .ref c := by exact rfl) (C : CodeHd h₀ c P := by assumption) (U : UpdF P (tabObj ps) news g := by k_updF) (K : TabC ((envX cn cs L a ccd cl).qual ++ Str.ofString "<lambda>") ps codes := by k_dflt assumption) (ap : Apart as codes := by k_dflt assumption) (cd : Cds codes0 L codes := by assumption) (hin : AllIn news as := by k_dflt (repeat (first | exact AllIn.nil | (apply AllIn.cons; focus k_mem)))) (hP : P ∈ as := by k_dflt k_mem) (hL : ∃ b, b ∈ as ∧ @LT.lt Nat _ L b := by exact ⟨_, List.Mem.tail _ (List.Mem.tail _ (List.Mem.head _)), Nat.lt_succ_self _⟩) (hsub : ∀ q ∈ codes, q ∈ news := by intro q hq; k_dflt (repeat (first | exact hq | refine List.Mem.tail _ ?_)))
    (hdef : defaultsOf params (envX cn cs L a ccd cl) = ([], []) := by exact rfl) (hcl : closureFor scope (envX cn cs L a ccd cl) = pure clos := by exact rfl)
    (h : ∀ f ps' codes' h' tk, Fr h₀ L h' m → News h₀ L h' (g (tabObj ps')) → Swap h₀ h' L codes codes' → TabC ((envX cn cs L a ccd cl).qual ++ Str.ofString "<lambda>") ps' codes' → Apart as codes' → Cds codes0 L codes' → (∀ p ∈ news, p.1 < f) → LamAt h' f ((envX cn cs L a ccd cl).qual ++ Str.ofString "<lambda>") params scope body clos → FnAt f h' →
      Q (.ref f) { s with heap := h', toks := tk }) :
    wpAny M A (eval (.Lambda params body scope pos) (envX cn cs L a ccd cl)) Q E s := by
  refine mk_lam F N T C hcd U K (fun q hq => ⟨hsub q hq, ap.ne hP q hq⟩) hdef hcl fun f ps' cod' h' tk F' N' Nc K' fr lt lam fn => ?_
  refine h f ps' (cod' ++ codes) h' tk F' N' Nc K' (fun q hq z => ?_) (fun q hq => ?_) lt lam fn
  · rcases List.mem_append.mp hq with hq | hq
    · obtain ⟨o, ho⟩ := hin.get _ z
      exact absurd (fr q hq _ ho) (Nat.lt_irrefl _)
    · exact ap q hq z
  · rcases List.mem_append.mp hq with hq | hq
    · refine cps fun G9 r9 => ?_
      obtain ⟨b, hb, hl⟩ := hL
      obtain ⟨o, hb⟩ := hin.get _ hb
      refine r9 ?_
      clear r9 G9
      exact .inr (Nat.lt_trans hl (fr q hq _ hb))
    · exact cd q hq
theorem words62 : True := by
  (k_with "mine k_all" => (refine Apart.ne (by assumption) (by with_unfolding_all (repeat (first | exact List.Mem.head _ | refine List.Mem.tail _ ?_)))))
  trivial
local macro_rules | `(tactic| k_all) => `(tactic| k_extra "mine k_all")
theorem newTupleL {M : Model} {A : Around} {E : Value → Shared → Prop} {s : Shared} {h₀ : Heap} {L : Addr} {m : Str → Option Value} {news : List (Addr × Obj)} {vs : List Value} {Q : Value → Shared → Prop} (F : Fr h₀ L s.heap m) (N : News h₀ L s.heap news) (hz : vs.length ≤ 1000)
    (h : ∀ T h', Fr h₀ L h' m → News h₀ L h' ((T, { cls := .type "tuple", data := .seq vs.toArray }) :: news) → (∀ p ∈ news, p.1 < T) → Q (.ref T) { s with heap := h' }) : wpAny M A (newTuple vs) Q E s := by
  unfold newTuple
  refine wpAny_newObj_type ?_ (by show vs.toArray.size ≤ _; rw [List.size_toArray, sizeLine_eq]; omega)
  refine h _ _ (F.push _) (fun p hp => ?_) (fun p hp => Heap.lt_size (N p hp).1)
  rcases List.mem_cons.mp hp with rfl | hp
  · exact ⟨Heap.get?_push_size _ rfl, Ne.symm (Nat.ne_of_lt F.ns.lt), next_is_new F⟩
  · exact ⟨Heap.get?_push_of_some _ (N p hp).1, (N p hp).2⟩
theorem words63 : True := by
  (k_with "newTuple" => ((with_unfolding_all refine newTupleL (by k_asm) (by k_asm) (by exact (Nat.le_of_ble_eq_true rfl)) ?_); k_whole; intro _ _ _ wN wl; (try dsimp only at wN); (try k_lt wl); (try k_sweep)))
  trivial
theorem words64 : True := by
  (k_with "call ref" => (
  (with_reducible show wpAny _ _ (call (Value.ref 157) _ _) _ _ _);
  k_dflt (refine next_K (h := ?_)); k_whole;
  intro _ _ _ _ _ _ wN _ _; (try dsimp only at wN); (try dsimp only); k_sweep))
  trivial
theorem words65 : True := by
  (k_with "eval Lambda" => (
  k_dflt (refine mk_lam2 (h := ?_)); k_whole;
  intro _ _ _ _ _ _ wN wM _ _ _ _ _ _; (try dsimp only at wN);
  have wO := News.mg wN wM (by k_dflt (repeat (first | with_reducible exact Mg.nil | apply Mg.cons)));
  clear wN wM; (try k_sweep)))
  trivial
theorem n_isTrue_Compare1 {M : Model} {A : Around} {E : Value → Shared → Prop} {s : Shared} {env : Env} {l op r pos whole} {Q : Bool → Shared → Prop}
    (h : wpN M A (eval l env) (fun a s₁ => wpN M A (eval r env) (fun b s₂ => wpAny M A (compareOp op a b) (fun c s₃ => wpAny M A (truthy c) Q E s₃) E s₂) E s₁) E s)
    (hm : behindInMarks op r = false := by with_unfolding_all rfl) : wpN M A (isTrue (.Compare l [op] [r] pos) env whole) Q E s := by
  rw [isTrue_Compare1, markedBehindIn_of_false hm]
  refine wpN_bind (wpN_mono h (fun a s₁ h₁ => wpN_bind (wpN_holding (wpN_mono h₁ (fun b s₂ h₂ => wpN_bind (wpN_standAt (wpN_bind (wpN_any (wpAny_operateT (wpAny_mono h₂ (fun c s₃ h₃ => ?_) fun _ _ x => x)))))) fun _ _ x => x))) fun _ _ x => x)
  exact wpN_holding (wpN_any h₃)
theorem words66 : True := by
  (k_with "mine nstep" => (
  (with_reducible show wpN _ _ (eval _ _) _ _ _);
  first
  | ((with_reducible show wpN _ _ (eval (PySem.Expr.Name _ _) _) _ _ _); with_reducible refine wpN_any ?_; (try k_fold))
  | ((with_reducible show wpN _ _ (eval (PySem.Expr.Constant _ _ _) _) _ _ _); with_reducible refine wpN_any ?_; (try k_fold))
  | ((with_reducible show wpN _ _ (eval (PySem.Expr.Lambda _ _ _ _) _) _ _ _); with_reducible refine wpN_any ?_; (try k_fold))
  | ((with_reducible show wpN _ _ (eval (PySem.Expr.List _ _) _) _ _ _); with_reducible refine wpN_any ?_; (try k_fold))))
  trivial
theorem words67 : True := by
  (k_with "mine nstep" => (
  (with_reducible show wpN _ _ _ _ _ _);
  first
  | with_reducible refine n_execs_nil ?_
  | (with_reducible refine n_execs_let ?_; intro _ _)
  | with_reducible refine n_Return ?_
  | with_reducible refine n_If ?_
  | with_reducible refine n_BinOp ?_
  | with_reducible refine n_Compare ?_ (by with_unfolding_all rfl)
  | with_reducible refine n_Tuple ?_
  | with_reducible refine n_isTrue_not ?_
  | with_reducible refine n_isTrue_or_nil ?_
  | with_reducible refine n_isTrue_or ?_
  | with_reducible refine n_And2 ?_
  | with_reducible refine n_Call_Name ?_
  | with_reducible refine n_Subscript ?_
  | with_reducible refine n_args_nil ?_
  | with_reducible refine n_args_cons ?_ (by k_dflt rfl)
  | with_reducible refine n_spliced_nil ?_
  | with_reducible refine n_callWith_type ?_ (by k_dflt rfl) (by k_dflt rfl)
  | (with_reducible refine n_callWith_K (by k_asm) (by k_is) ?_ (by k_dflt rfl) (by k_dflt rfl); k_whole)
  | ((with_reducible show wpN _ _ (call _ _ _) _ _ _); k_extra "mine ncall")))
  trivial
theorem words68 : True := by
  (k_with "mine nstep" => ((with_reducible show wpN _ _ (isTrue (PySem.Expr.Compare _ _ _ _) _ _) _ _ _); (with_reducible refine n_isTrue_Compare1 ?_ (by with_unfolding_all rfl))))
  trivial
theorem words69 : True := by
  (k_with "mine ncall" => ((with_reducible show wpN _ _ (call (Value.ref 164) _ _) _ _ _); refine halt ?_))
  trivial
theorem off_LC : True := by
  w_top off
  trivial
section
variable {prog : Program} {w : World} {A : Around} {E : Value → Shared → Prop} {s : Shared} {h₀ : Heap} {L l : Addr} {m : Str → Option Value} {news : List (Addr × Obj)} {Q : Value → Shared → Prop}
theorem rep_flat {α : Type} (n : Nat) (x : α) : (List.replicate n [x]).flatten = List.replicate n x := by
  induction n with
  | zero => rfl
  | succ n ih => rw [List.replicate_succ, List.flatten_cons, ih, List.replicate_succ]; rfl
theorem ints_rep (n : Nat) (v : Int) (t : Tok) : IntsAre (List.replicate n (.int v t)) (List.replicate n v) := by
  induction n with
  | zero => exact .nil
  | succ n ih => rw [List.replicate_succ, List.replicate_succ]; exact .cons _ _ ih
/-- one octet, so many times -/
theorem bytes_rep {b k : Int} {t : Tok} {n0 : Nat} {d : Option Addr} {sl : Array (Option Value)} (F : Fr h₀ L s.heap m := by k_asm) (N : News h₀ L s.heap news := by k_asm) (hm : (l, { cls := .type "list", dict := d, data := .seq (List.replicate k.toNat [Value.int b t]).flatten.toArray n0, slots := sl }) ∈ news := by k_mem) (hh : A.handled = none := by exact rfl) (b0 : 0 ≤ b := by omega) (b1 : b < 256 := by omega) (hk : k ≤ 10000 := by omega)
    (h : ∀ h' y t' tk, Fr h₀ L h' m → News h₀ L h' news → y = List.replicate k.toNat b.toNat.toUInt8 → y.length = k.toNat → Q (.bytes y.toArray t') { s with heap := h', toks := tk }) :
    wpAny (model prog w) A (call (.type "bytes") [.ref l]) Q E s := by
  have hl := News.isList N hm
  rw [rep_flat] at hl
  refine call_bytes_ints hl (ints_rep _ _ _) (fun n hn => ?_) (by rw [List.length_replicate, sizeLine_eq]; omega) hh fun h' t' tk hk' => ?_
  · rw [List.eq_of_mem_replicate hn]; exact ⟨b0, b1⟩
  · have kp : Keeps [] s.heap h' := Keeps.of_all hk'
    have e : byteArr (List.replicate k.toNat b) = (List.replicate k.toNat b.toNat.toUInt8).toArray := by
      unfold byteArr
      rw [List.map_replicate]
    rw [e]
    exact h h' _ t' tk (fr_kept0 F kp) (news_kept0 N kp) rfl (List.length_replicate ..)
theorem bytes_two {a b : Int} {ta tb : Tok} {n0 : Nat} {d : Option Addr} {sl : Array (Option Value)} (F : Fr h₀ L s.heap m := by k_asm) (N : News h₀ L s.heap news := by k_asm) (hm : (l, { cls := .type "list", dict := d, data := .seq #[Value.int a ta, Value.int b tb] n0, slots := sl }) ∈ news := by k_mem) (hh : A.handled = none := by exact rfl) (a0 : 0 ≤ a := by omega) (a1 : a < 256 := by omega) (b0 : 0 ≤ b := by omega) (b1 : b < 256 := by omega)
    (h : ∀ h' y t' tk, Fr h₀ L h' m → News h₀ L h' news → y = [a.toNat.toUInt8, b.toNat.toUInt8] → y.length = 2 → Q (.bytes y.toArray t') { s with heap := h', toks := tk }) :
    wpAny (model prog w) A (call (.type "bytes") [.ref l]) Q E s := by
  have hl : s.heap.IsList l [Value.int a ta, Value.int b tb].toArray := News.isList N hm
  refine call_bytes_ints (ns := [a, b]) hl (.cons _ _ (.cons _ _ .nil)) (fun n hn => ?_) (by rw [sizeLine_eq]; simp) hh fun h' t' tk hk' => ?_
  · rcases List.mem_cons.mp hn with rfl | hn
    · exact ⟨a0, a1⟩
    · rw [List.mem_singleton.mp hn]; exact ⟨b0, b1⟩
  · have kp : Keeps [] s.heap h' := Keeps.of_all hk'
    exact h h' [a.toNat.toUInt8, b.toNat.toUInt8] t' tk (fr_kept0 F kp) (news_kept0 N kp) rfl rfl
theorem bytes_four {a b c e : Int} {ta tb tc te : Tok} {n0 : Nat} {d : Option Addr} {sl : Array (Option Value)} (F : Fr h₀ L s.heap m := by k_asm) (N : News h₀ L s.heap news := by k_asm) (hm : (l, { cls := .type "list", dict := d, data := .seq #[Value.int a ta, Value.int b tb, Value.int c tc, Value.int e te] n0, slots := sl }) ∈ news := by k_mem) (hh : A.handled = none := by exact rfl)
    (a0 : 0 ≤ a := by omega) (a1 : a < 256 := by omega) (b0 : 0 ≤ b := by omega) (b1 : b < 256 := by omega) (c0 : 0 ≤ c := by omega) (c1 : c < 256 := by omega) (e0 : 0 ≤ e := by omega) (e1 : e < 256 := by omega)
    (h : ∀ h' y t' tk, Fr h₀ L h' m → News h₀ L h' news → y = [a.toNat.toUInt8, b.toNat.toUInt8, c.toNat.toUInt8, e.toNat.toUInt8] → y.length = 4 → Q (.bytes y.toArray t') { s with heap := h', toks := tk }) :
    wpAny (model prog w) A (call (.type "bytes") [.ref l]) Q E s := by
  have hl : s.heap.IsList l [Value.int a ta, Value.int b tb, Value.int c tc, Value.int e te].toArray := News.isList N hm
  refine call_bytes_ints (ns := [a, b, c, e]) hl (.cons _ _ (.cons _ _ (.cons _ _ (.cons _ _ .nil)))) (fun n hn => ?_) (by rw [sizeLine_eq]; simp) hh fun h' t' tk hk' => ?_
  · simp only [List.mem_cons, List.not_mem_nil, or_false] at hn
    rcases hn with rfl | rfl | rfl | rfl
    · exact ⟨a0, a1⟩
    · exact ⟨b0, b1⟩
    · exact ⟨c0, c1⟩
    · exact ⟨e0, e1⟩
  · have kp : Keeps [] s.heap h' := Keeps.of_all hk'
    exact h h' [a.toNat.toUInt8, b.toNat.toUInt8, c.toNat.toUInt8, e.toNat.toUInt8] t' tk (fr_kept0 F kp) (news_kept0 N kp) rfl rfl
end
theorem words70 : True := by
  (k_with "call type:bytes" => ((with_reducible show wpAny _ _ (call (Value.type "bytes") [Value.ref _]) _ _ _); (first | refine bytes_rep (h := ?_) | k_dflt (refine bytes_two (h := ?_)) | k_dflt (refine bytes_four (h := ?_))); k_whole; intro _ _ _ _ _ _ _ _; (try dsimp only); k_sweep))
  trivial
theorem off_LD : True := by
  w_top off
  trivial
theorem nameC_cell {M : Model} {A : Around} {E : Value → Shared → Prop} {s : Shared} {h₀ : Heap} {L C c : Addr} {news : List (Addr × Obj)} {scope : Scope} {cl : List (Str × Addr)} {env : Env} {x : Str} {pos : Pos} {v : Value} {o : Obj} {Q : Value → Shared → Prop}
    (N : News h₀ L s.heap news) (hc : cl.lookup x = some c) (hm : (c, o) ∈ news) (hd : o.data = .cell (some v)) (h : Q v s) (hk : (compEnvC scope cl C env).scope.kind = .function) (hx : (compEnvC scope cl C env).kindOf x = some .cell) (hb : (x == ("__debug__" : Str)) = false := by decide) :
    wpAny M A (eval (.Name x pos) (compEnvC scope cl C env)) Q E s := wpAny_Name (wpAny_loadName_cell hk hx hc ⟨o, (N _ hm).1, hd⟩ h) hb
theorem words71 : True := by
  (k_with "eval Name" => ((with_reducible show wpAny _ _ (eval (Expr.Name _ _) (compEnvC _ _ _ _)) _ _ _); (k_dflt (refine nameC_cell (by k_asm) (by first | assumption | rfl) (by k_mem) (by assumption) ?_ (by rfl) (by first | assumption | rfl); k_whole))))
  trivial
theorem News.pick {h₀ h : Heap} {L : Addr} {p : Addr × Obj} {news rest : List (Addr × Obj)} (N : News h₀ L h news) (hm : p ∈ news) (R : News h₀ L h rest) : News h₀ L h (p :: rest) := fun q hq => by
  rcases List.mem_cons.mp hq with rfl | hq
  · exact N _ hm
  · exact R _ hq
/-- the pen -/
noncomputable abbrev penO2 (l : Addr) (k c : Int) (tk tc : Tok) (n : Nat) : Obj := listOf #[.ref l, .int k tk, .int c tc] n
set_option maxHeartbeats 4000000 in
theorem comp_drawn {prog : Program} {w : World} {iter : PySem.Expr} {p0 p1 p2 p3 p4 p5 p6 p7 p8 p9 q0 q1 : Pos} {mo : List (Str × Const)} {pos : Pos} {vs : List Value} {ns : List Int} {c0 many : Int}
    {dp un : Nat} {cn : Str} {cs : Scope} {a : Addr} {ccd : Value} {cl : List (Str × Addr)} {outer : List Env} {A₀ : Around} {base h₀ : Heap} {L P l c : Addr} {oc : Obj} {k cc : Int} {tk tc : Tok} {n0 : Nat} {m : Str → Option Value} {s : Shared}
    {p : Program} {loose : List Str} {mean : ExcName → Option Value} {mg mb : Str → Option Value} {Q : Value → Shared → Prop} {tl : List (Addr × Obj)}
    (hi : IntsAre vs ns) (hn : ns.length ≤ 63) (k0 : 0 ≤ k) (k1 : k < 9500) (cc0 : 0 ≤ cc) (cc1 : cc < 997) (m0 : 0 < many) (m1 : many ≤ 10) (z0 : 0 ≤ c0) (z1 : c0 < 200)
    (B : Below A₀ base outer h₀) (X : (hd.heap_1 w.params).In h₀) (T : Top p loose mean mg mb h₀) (hk : cs.kind = .function) (hdp : dp + 10 < recursionLimit) (hu : un + 40 < cLine)
    (F : Fr h₀ L s.heap m) (N : News h₀ L s.heap ((c, oc) :: (P, penO2 l k cc tk tc n0) :: tl)) (hl : h₀.IsList l vs.toArray) (hcP : @Ne Nat c P) (ap : Apart [P] tl) (dc : oc.data = .cell (some (.ref P)))
    (hclos : closureFor { kind := .function, names := [(Str.ofString ".0", .local), (Str.ofString "at", .local), (Str.ofString "bytes", .globalImplicit), (Str.ofString "_law_next", .globalImplicit), (Str.ofString "pen", .free)], isGenerator := false, isCoroutine := false, more := mo } (envX cn cs L a ccd cl) = pure [(Str.ofString "pen", c)])
    (hkp : ∀ C, (compEnvC { kind := .function, names := [(Str.ofString ".0", .local), (Str.ofString "at", .local), (Str.ofString "bytes", .globalImplicit), (Str.ofString "_law_next", .globalImplicit), (Str.ofString "pen", .free)], isGenerator := false, isCoroutine := false, more := mo } [(Str.ofString "pen", c)] C (envX cn cs L a ccd cl)).kindOf (Str.ofString "pen") = some .cell)
    (hit : ∀ (Q' : Value → Shared → Prop), (∀ h' tk' r b u0 u1 u2 k' t' n, Fr h₀ L h' m → News h₀ L h' ((c, oc) :: (P, penO2 l k' cc t' tc n0) :: tl) → IsRange h' r 0 b 1 u0 u1 u2 → b = (n : Nat) → n ≤ 5 → k ≤ k' → k' ≤ k + 1 → Q' (.ref r) { s with heap := h', toks := tk' }) → wpN (model prog w) (ktrTop dp un (some []) cn cs L a ccd cl outer) (eval iter (envX cn cs L a ccd cl)) Q' Fl s) (hs : ∀ x, foldedSetIterable iter (envX cn cs L a ccd cl) x = pure x)
    (fin : ∀ D h' tk' ys fs k' t', Fr h₀ L h' m → News h₀ L h' ((D, lst ys) :: (c, oc) :: (P, penO2 l k' cc t' tc n0) :: tl) → Off1 D ((c, oc) :: (P, penO2 l k' cc t' tc n0) :: tl) → Bys ys fs → fs.length ≤ 5 → (∀ f ∈ fs, (f.length : Int) < many) → k ≤ k' → k' ≤ k + 6 → Q (.ref D) { s with heap := h', toks := tk' }) :
    wpN (model prog w) (ktrTop dp un (some []) cn cs L a ccd cl outer) (eval (.ListComp (.Call (.Name (Str.ofString "bytes") p0) [.BinOp (.List [.BinOp (.Constant (Const.int c0) 0 p1) .Add (.Name (Str.ofString "at") p2) p3] p4) .Mult (.Call (.Name (Str.ofString "_law_next") p5) [.Name (Str.ofString "pen") p6, .Constant (Const.int many) 0 p7] [] p8) p9] [] q0)
      [⟨.Name (Str.ofString "at") q1, iter, [], 0⟩] { kind := .function, names := [(Str.ofString ".0", .local), (Str.ofString "at", .local), (Str.ofString "bytes", .globalImplicit), (Str.ofString "_law_next", .globalImplicit), (Str.ofString "pen", .free)], isGenerator := false, isCoroutine := false, more := mo } pos) (envX cn cs L a ccd cl)) Q Fl s := by
  refine n_ListCompT hclos rfl (by show ∀ x ∈ [(Str.ofString ".0", NameKind.local), (Str.ofString "at", .local), (Str.ofString "bytes", .globalImplicit), (Str.ofString "_law_next", .globalImplicit), (Str.ofString "pen", .free)], x.2 = .local → List.lookup x.1 [(Str.ofString ".0", NameKind.local), (Str.ofString "at", .local), (Str.ofString "bytes", .globalImplicit), (Str.ofString "_law_next", .globalImplicit), (Str.ofString "pen", .free)] = some .local; decide) (hit _ fun h₁ tk₁ r b u0 u1 u2 k₁ t₁ n F₁ N₁ hr hb hn5 b0 b1 => ?_) hs
  have hh : (ktrTop dp un (some []) cn cs L a ccd cl outer).handled = none := rfl
  refine src_range1 (s := ⟨h₁, _, _, _, _⟩) (J := fun i ys nw => ∃ k' t' fs, nw = (c, oc) :: (P, penO2 l k' cc t' tc n0) :: tl ∧ k₁ ≤ k' ∧ k' ≤ k₁ + i ∧ Bys ys fs ∧ fs.length = i ∧ ∀ f ∈ fs, (f.length : Int) < many) hh F₁ N₁ hr hb (by omega) (by show ∀ x ∈ [(Str.ofString ".0", NameKind.local), (Str.ofString "at", .local), (Str.ofString "bytes", .globalImplicit), (Str.ofString "_law_next", .globalImplicit), (Str.ofString "pen", .free)], x.2 ≠ .cell; decide) rfl (by with_unfolding_all rfl) ⟨k₁, t₁, [], rfl, by omega, by omega, .nil, rfl, fun _ q => nomatch q⟩ ?_ ?_
  · intro i ys v news₁ I oI C oC D mC h₂ tk₂ hi2 hy z9a z9b hoC F₂ N₂ off nIC nID nCD
    refine cps fun G7 r7 => ?_
    obtain ⟨tv, rfl⟩ := z9a
    obtain ⟨k', t', fs, rfl, b2, b3, hys, hfl, hfz⟩ := z9b
    refine r7 ?_
    clear r7 G7
    refine n_tests0 ?_
    rw [if_pos rfl]
    have off3 := off.mem
    have eP : @Ne Nat P I ∧ @Ne Nat P C ∧ @Ne Nat P D := off3 _ (.tail _ (.head _))
    have hkC := hkp C
    clear N₁ F₁ hit fin hr N F
    walk_at "mine steps"
    have N9 := ‹News h₀ L _ (_ :: _)›
    have e9 := ‹_ = List.replicate _ _›
    have l9 := ‹List.length _ = Int.toNat _›
    refine CEnd.intro ‹Fr h₀ L _ m› (fun p hp => N9 p (.tail _ (.tail _ hp))) hoC (by exact off) ⟨k' + 1, _, fs ++ [_], rfl, by omega, by omega, hys.push, by rw [List.length_append, hfl]; rfl, fun f hf => ?_⟩
    rcases List.mem_append.mp hf with q | q
    · exact hfz f q
    · rw [List.mem_singleton.mp q]; omega
  · intro D C oC h₂ tk₂ ys news' c2 F' N' nCD off hyl z9a
    refine cps fun G7 r7 => ?_
    obtain ⟨k', t', fs, rfl, b2, b3, hys, hfl, hfz⟩ := z9a
    refine r7 ?_
    clear r7 G7
    refine outE (s := ⟨_, _, _, _, _⟩) c2 F' N' nCD off (fun h₃ F₃ N₃ o1 => ?_)
    exact fin D h₃ _ ys fs k' t' F₃ N₃ o1 hys (by omega) hfz (by omega) (by omega)
theorem off_LE : True := by
  w_top off
  trivial
theorem turned_list {fs : List Addr} {g g' : Heap} {l : Addr} {its : Array Value} (T : KtsTurn fs g g') (x : g.IsList l its) : g'.IsList l its := by
  refine cps fun G9 r9 => ?_
  obtain ⟨o, ho, r⟩ := x
  obtain ⟨sl, hs⟩ := T.up ho
  refine r9 ?_
  clear r9 G9
  exact ⟨_, hs, r⟩
/-- what _law_told tells, as a new object -/
noncomputable def TellsN (g : Heap) (L : Addr) (h' : Heap) (r : Value) (good : Heap → Value → Prop) (bad : Int → Prop) : Prop :=
  ∃ T, r = .ref T ∧ ((∃ v t, News g L h' [(T, { cls := .type "tuple", data := .seq #[.str (Str.ofString "told") t, v] })] ∧ good h' v) ∨
    (∃ c t t', News g L h' [(T, { cls := .type "tuple", data := .seq #[.str (Str.ofString "refused") t, .int c t'] })] ∧ bad c))
theorem told_law {prog : Program} {w : World} {q : Addr} {dd uu : Nat} {good : Heap → Value → Prop} {bad : Int → Prop} {s : Shared}
    {dp un : Nat} {cn : Str} {cs : Scope} {a : Addr} {ccd : Value} {cl : List (Str × Addr)} {outer : List Env} {A₀ : Around} {base g₀ h₀ : Heap} {L l : Addr} {its : Array Value} {m : Str → Option Value} {news : List (Addr × Obj)}
    {p : Program} {loose : List Str} {mean : ExcName → Option Value} {mg mb : Str → Option Value} {Q E : Value → Shared → Prop}
    (N : News h₀ L s.heap news) (F : Fr h₀ L s.heap m) (B : Below A₀ base outer h₀) (X : (hd.heap_1 w.params).In h₀) (T : Top p loose mean mg mb h₀) (XB : (hd.heap_1 w.params).In base) (TB : Top p loose mean mg mb base) (hk : cs.kind = .function) (tn : KtsTurn (outer.filterMap (·.frame)) g₀ h₀) (hl : h₀.IsList l its)
    (hdp : dp + (dd + 10) < recursionLimit) (hu : un + (uu + 20) < cLine) (fn : FnAt q s.heap)
    (W : WorkN prog w q s.heap dd uu [] (fun n => n = []) good bad) (stab : ∀ h h' v, good h v → Keeps [] h h' → good h' v)
    (ret : ∀ r h' tk' g, Fr g L h' m → Below A₀ base outer g → (hd.heap_1 w.params).In g → Top p loose mean mg mb g → News g L h' news → g.IsList l its → KtsTurn (outer.filterMap (·.frame)) g₀ g →
      (∀ b o, s.heap.get? b = some o → b ∉ (envX cn cs L a ccd cl :: outer).filterMap (·.frame) → h'.get? b = some o) → TellsN g L h' r good bad → Q r { s with heap := h', toks := tk' }) :
    wpN (model prog w) (ktrTop dp un (some []) cn cs L a ccd cl outer) (call (.ref 164) [.ref q]) Q E s := by
  refine told_spec W (fun n' e => by rw [e]) (fun z => nomatch z) stab fn B F News.nil X T XB TB hk hdp hu fun r h' tk' g F' B' X' T' nw _ ot tn' tl => ?_
  refine ret r h' tk' g F' B' X' T' (nw _ N (fun _ _ z => nomatch z)) (turned_list tn' hl) (tn.trans tn') (fun b o e nb => ot b o e nb (fun z => nomatch z)) ?_
  refine cps fun G9 r9 => ?_
  obtain ⟨T, rfl, hT, ht⟩ := tl
  refine r9 ?_
  clear r9 G9
  have k1 : T ≠ L := fun e => by
    refine cps fun G9 r9 => ?_
    obtain ⟨o, _, _, ho, _⟩ := F.ns
    refine r9 ?_
    clear r9 G9
    rw [e, ho] at hT
    cases hT
  have key : T ≠ L ∧ g.get? T = none := ⟨k1, tn'.none_ _ (kts_none F.keep hT)⟩
  refine ⟨T, rfl, ?_⟩
  refine cps fun G8 r8 => ?_
  rcases ht with ⟨v, t, e, hg⟩ | ⟨c, t, t', e, hb⟩
  · refine r8 ?_
    clear r8 G8
    exact .inl ⟨v, t, fun q hq => by rw [List.mem_singleton.mp hq]; exact ⟨e, key⟩, hg⟩
  · refine r8 ?_
    clear r8 G8
    exact .inr ⟨c, t, t', fun q hq => by rw [List.mem_singleton.mp hq]; exact ⟨e, key⟩, hb⟩
theorem sm_atom {h : Heap} {n : Nat} {v v' : Value} (a : Atom v v') : Sm h n v v' := by
  cases n with
  | zero => exact a
  | succ n => exact .inl a
/-- told, and what was due: the same -/
theorem told_ne {prog : Program} {w : World} {A : Around} {E : Value → Shared → Prop} {s : Shared} {T d : Addr} {x : Str} {t t' : Tok} {v v' : Value} {n n1 n2 : Nat} {d1 d2 : Option Addr} {s1 s2 : Array (Option Value)} {Q : Value → Shared → Prop}
    (h1 : s.heap.get? T = some { cls := .type "tuple", dict := d1, data := .seq #[.str x t, v] n1, slots := s1 }) (h2 : s.heap.get? d = some { cls := .type "tuple", dict := d2, data := .seq #[.str x t', v'] n2, slots := s2 }) (hs : Sm s.heap n v v') (hu : A.units + (n + 1) < cLine)
    (h : Q (.bool false) s) : wpAny (model prog w) A (compareOp .NotEq (.ref T) (.ref d)) Q E s := by
  refine cmp_ne (n := n) (vs := [.str x t, v]) (vs' := [.str x t', v']) (.inr ⟨⟨_, h1, rfl, _, rfl⟩, ⟨_, h2, rfl, _, rfl⟩⟩) ?_ hu h
  exact .cons (sm_atom (.inr (.inl ⟨_, _, _, rfl, rfl⟩))) (.cons hs .nil)
theorem told_eq {prog : Program} {w : World} {A : Around} {E : Value → Shared → Prop} {s : Shared} {T d : Addr} {x : Str} {t t' : Tok} {v v' : Value} {n n1 n2 : Nat} {d1 d2 : Option Addr} {s1 s2 : Array (Option Value)} {Q : Value → Shared → Prop}
    (h1 : s.heap.get? T = some { cls := .type "tuple", dict := d1, data := .seq #[.str x t, v] n1, slots := s1 }) (h2 : s.heap.get? d = some { cls := .type "tuple", dict := d2, data := .seq #[.str x t', v'] n2, slots := s2 }) (hs : Sm s.heap n v v') (hu : A.units + (n + 1) < cLine)
    (h : Q (.bool true) s) : wpAny (model prog w) A (compareOp .Eq (.ref T) (.ref d)) Q E s := by
  refine cmp_eq (n := n) (vs := [.str x t, v]) (vs' := [.str x t', v']) (.inr ⟨⟨_, h1, rfl, _, rfl⟩, ⟨_, h2, rfl, _, rfl⟩⟩) ?_ hu h
  exact .cons (sm_atom (.inr (.inl ⟨_, _, _, rfl, rfl⟩))) (.cons hs .nil)
theorem sm_int {h : Heap} {n : Nat} {k : Int} {t t' : Tok} : Sm h n (.int k t) (.int k t') := sm_atom (.inl ⟨_, _, _, rfl, rfl⟩)
theorem sm_by {h : Heap} {n : Nat} {k : Array UInt8} {t t' : Tok} : Sm h n (.bytes k t) (.bytes k t') := sm_atom (.inr (.inr ⟨_, _, _, rfl, rfl⟩))
theorem sm_list {h : Heap} {n : Nat} {a b : Addr} {vs vs' : List Value} (l1 : h.IsList a vs.toArray) (l2 : h.IsList b vs'.toArray) (hs : SmAll h n vs vs') : Sm h (n + 1) (.ref a) (.ref b) := .inr ⟨a, b, vs, vs', rfl, rfl, .inl ⟨l1, l2⟩, hs⟩
theorem sm_tup {h : Heap} {n : Nat} {a b : Addr} {vs vs' : List Value} (l1 : h.IsTuple a vs.toArray) (l2 : h.IsTuple b vs'.toArray) (hs : SmAll h n vs vs') : Sm h (n + 1) (.ref a) (.ref b) := .inr ⟨a, b, vs, vs', rfl, rfl, .inr ⟨l1, l2⟩, hs⟩
theorem sm_nil {h : Heap} {n : Nat} : SmAll h n [] [] := .nil
theorem sm_cons {h : Heap} {n : Nat} {v v' : Value} {vs vs' : List Value} (a : Sm h n v v') (b : SmAll h n vs vs') : SmAll h n (v :: vs) (v' :: vs') := .cons a b
theorem All2.join {α β : Type} {R R' : α → β → Prop} {S : α → α → Prop} (k : ∀ a a' b, R a b → R' a' b → S a a') {as : List α} {bs : List β} (h : All2 R as bs) : ∀ {as' : List α}, All2 R' as' bs → All2 S as as' := by
  induction h with
  | nil => intro as' h'; cases h'; exact .nil
  | cons r _ ih => intro as' h'; cases h' with | cons r' h' => exact .cons (k _ _ _ r r') (ih h')
theorem bys_smN {h : Heap} {n : Nat} {vs vs' : List Value} {fs : List (List UInt8)} (a : Bys vs fs) (b : Bys vs' fs) : SmAll h n vs vs' :=
  All2.join (fun v v' f x x' => by obtain ⟨t, rfl⟩ := x; obtain ⟨t', rfl⟩ := x'; exact sm_by) a b
theorem CellAt.of {h₀ h : Heap} {L c : Addr} {news : List (Addr × Obj)} {cl : List (Str × Addr)} {x : Str} {v : Value} {o : Obj} (N : News h₀ L h news) (hc : cl.lookup x = some c) (hm : (c, o) ∈ news) (hd : o.data = .cell (some v)) : CellAt h cl x v := ⟨c, o, hc, (N _ hm).1, hd⟩
theorem words72 : True := by
  (k_with "mine cell" => (refine CellAt.of (by k_asm) (by exact rfl) (by k_mem) (by assumption)))
  trivial
/-- the state of a law's def between its statements -/
inductive LSt (w : World) (A₀ : Around) (base : Heap) (outer : List Env) (p : Program) (loose : List Str) (mean : ExcName → Option Value) (mg mb : Str → Option Value) (g₀ : Heap) (L l : Addr) (its : Array Value) (s₀ : Shared) (pm : (Str → Option Value) → Prop) (news : List (Addr × Obj)) (s' : Shared) : Prop
  | mk (g h : Heap) (tk : Nat) (m : Str → Option Value) (e : s' = { s₀ with heap := h, toks := tk }) (F : Fr g L h m) (N : News g L h news) (B : Below A₀ base outer g) (X : (hd.heap_1 w.params).In g) (T : Top p loose mean mg mb g) (hl : g.IsList l its) (tn : KtsTurn (outer.filterMap (·.frame)) g₀ g) (hm : pm m) : LSt w A₀ base outer p loose mean mg mb g₀ L l its s₀ pm news s'
/-- a law's def between its statements, its table grown -/
inductive LTab (qual : Str) (as : List Addr) (codes : List (Addr × Obj)) (L' : Addr) (St : List (Addr × Obj) → Shared → Prop) (led : Array Value → List (Addr × Obj) → List (Addr × Obj)) (s' : Shared) : Prop
  | mk (ps : Array Value) (cods : List (Addr × Obj)) (K : TabC qual ps cods) (ap : Apart as cods) (cd : Cds codes L' cods) (st : St (led ps cods) s') : LTab qual as codes L' St led s'
theorem n_cut1 {M : Model} {A : Around} {E : Value → Shared → Prop} {s : Shared} {env : Env} {a : Stmt} {rest : List Stmt} {Q : Flow → Shared → Prop} (P : Shared → Prop)
    (h1 : wpN M A (exec a env) (fun f s' => match f with | .next => P s' | f => Q f s') E s) (h2 : ∀ s', P s' → wpN M A (execs rest env) Q E s') : wpN M A (execs (a :: rest) env) Q E s :=
  n_execs_cons (wpN_mono h1 (fun f s' h => by cases f <;> first | exact h2 _ h | exact h) fun _ _ x => x)
theorem n_cut {M : Model} {A : Around} {E : Value → Shared → Prop} {s : Shared} {env : Env} {rest : List Stmt} {Q : Flow → Shared → Prop} (P : Shared → Prop) (xs : List Stmt)
    (h1 : wpN M A (execs xs env) (fun f s' => match f with | .next => P s' | f => Q f s') E s) (h2 : ∀ s', P s' → wpN M A (execs rest env) Q E s') : wpN M A (execs (xs ++ rest) env) Q E s := fun Γ p a1 a2 a3 => by
  have key : ∀ (xs : List Stmt) (s : Shared) (p : Pos), Sem.wp M Γ (execs xs env) (fun f _ s' => match f with | .next => P s' | f => Q f s') (fun e _ s' => E e s') p s → Sem.wp M Γ (execs (xs ++ rest) env) (fun f _ s' => Q f s') (fun e _ s' => E e s') p s := by
    intro xs
    induction xs with
    | nil => intro s p h; exact h2 _ h Γ p a1 a2 a3
    | cons x xs ih =>
      intro s p h
      show Sem.wp M Γ (execs (x :: (xs ++ rest)) env) _ _ p s
      rw [arm_execs_cons, Sem.wp_bind'] at h ⊢
      refine Sem.wp_mono M Γ _ (fun f p' s' hf => ?_) (fun _ _ _ x => x) p s h
      cases f with
      | next => exact ih _ _ hf
      | _ => exact hf
  exact key xs s p (h1 Γ p a1 a2 a3)
theorem n_cut2 {M : Model} {A : Around} {E : Value → Shared → Prop} {s : Shared} {env : Env} {a b : Stmt} {rest : List Stmt} {Q : Flow → Shared → Prop} (P : Shared → Prop)
    (h1 : wpN M A (execs [a, b] env) (fun f s' => match f with | .next => P s' | f => Q f s') E s) (h2 : ∀ s', P s' → wpN M A (execs rest env) Q E s') : wpN M A (execs (a :: b :: rest) env) Q E s := n_cut P [a, b] h1 h2
theorem News.sub {h₀ h : Heap} {L : Addr} {news rest : List (Addr × Obj)} (N : News h₀ L h news) (hs : ∀ q ∈ rest, q ∈ news) : News h₀ L h rest := fun q hq => N q (hs q hq)
theorem words73 : True := by
  (k_with "mine pick" => ((repeat (refine' News.pick (news := _) (by assumption) (by k_mem) ?_)); (refine' News.sub (by assumption) ?_); intro _ wq; (repeat (first | exact wq | refine List.Mem.tail _ ?_))))
  trivial
theorem halt' {p : Prop} (h : p) : Halt p := h
theorem law_end {w : World} {P l tab : Addr} {k c : Int} {tk tc : Tok} {n : Nat} {ps : Array Value} {codes : List (Addr × Obj)} {qual : Str}
    {cn : Str} {cs : Scope} {a : Addr} {ccd : Value} {cl : List (Str × Addr)} {outer : List Env} {A₀ : Around} {base h₀ g' : Heap} {L L' : Addr} {m : Str → Option Value} {s : Shared}
    {p : Program} {loose : List Str} {mean : ExcName → Option Value} {mg mb : Str → Option Value} {Q : Value → Shared → Prop}
    (B : Below A₀ base outer h₀) (F : Fr h₀ L s.heap m) (N : News h₀ L s.heap ((P, listOf #[.ref l, .int k tk, .int c tc] n) :: (tab, tabObj ps) :: codes)) (XB : (hd.heap_1 w.params).In base) (TB : Top p loose mean mg mb base)
    (S' : Keeps (((P, listOf #[.ref l, .int k tk, .int c tc] n) :: (tab, tabObj ps) :: codes).map (·.1)) s.heap g') (e' : L' = s.heap.objs.size)
    (hret : ∀ h' tk' h₀' k' t' ps' codes', Fr h₀' L h' m → Below A₀ base outer h₀' → (hd.heap_1 w.params).In h₀' → Top p loose mean mg mb h₀' → k ≤ k' → k' ≤ k + 50 →
      News h₀' L h' ((P, listOf #[.ref l, .int k' t', .int c tc] n) :: (tab, tabObj ps') :: codes') → TabC qual ps' codes' → (∀ q ∈ codes', q ∈ codes ∨ s.heap.get? q.1 = none) →
      (∀ news, News h₀ L s.heap news → (∀ q ∈ news, q.1 ≠ P ∧ q.1 ≠ tab ∧ q.1 ∉ codes.map (·.1)) → News h₀' L h' news) → Q (.bool true) { s with heap := h', toks := tk' }) :
    ∀ hf tk' gf mf k' t' ps' codes', Fr gf L' hf mf → KtsTurn ((envX cn cs L a ccd cl :: outer).filterMap (·.frame)) g' gf → News gf L' hf ((P, listOf #[.ref l, .int k' t', .int c tc] n) :: (tab, tabObj ps') :: codes') → k ≤ k' → k' ≤ k + 50 → TabC qual ps' codes' → Cds codes L' codes' →
      Q (.bool true) { s with heap := hf, toks := tk' } := by
  intro hf tk' gf mf k' t' ps' codes' F' T' N' k0 k1 K cds
  refine cps fun G9 r9 => ?_
  obtain ⟨h₀', a1, a2, a3, a4, a5, a6, _, _⟩ := turn_done B F (env := envX cn cs L a ccd cl) rfl N S' T' F' XB TB
  refine r9 ?_
  clear r9 G9
  refine hret hf tk' h₀' k' t' ps' codes' a1 a2 a3 a4 k0 k1 (a6 _ N') K (fun q hq => ?_) (fun news Nn hn => a5 news Nn fun q hq z => ?_)
  · rcases cds q hq with z | z
    · exact .inl z
    · exact .inr (Heap.get?_none_of_le (by rw [← e']; exact Nat.le_of_lt z))
  · obtain ⟨b1, b2, b3⟩ := hn q hq
    simp only [List.map_cons, List.mem_cons] at z
    rcases z with z | z | z
    · exact b1 z
    · exact b2 z
    · exact b3 z
theorem words74 : True := by
  (k_with "mine ncall" => ((with_reducible show wpN _ _ (call (Value.ref 136) _ _) _ _ _); (refine CtrN.use (ext_spec (by omega) (by omega)) (ret := ?_)); k_extra "mine oct"))
  trivial
theorem words75 : True := by
  (k_with "compareOp Eq ref ref" => ((with_reducible show wpAny _ _ (compareOp CmpOp.Eq (Value.ref _) (Value.ref _)) _ _ _); refine halt ?_))
  trivial
section
theorem off_TH : True := by
  w_top off
  trivial
set_option maxHeartbeats 4000000 in
theorem hellos_law {prog : Program} {w : World} : LawC prog w 179 176 (Str.ofString "_law_hellos_right.<locals>.<lambda>") 100 400 := by
  unfold LawC
  intro vs ns P l k c tk tc n ps codes dp un cn cs a ccd cl outer A₀ base h₀ L m s p loose mean mg mb Q E hi hn k0 k1 c0 c1 B F X N T XB TB hk hd hu hl hlP K hco hret
  refine wpN_call ?_
  walk_at "mine enterNC"
  (walk_at "mine shade"; rename_i g' L' h' tk' F' B' X' T' S' e' l1 o1 o2 o3 o4 d1 d2 d3 d4 N'; walk_at "mine light")
  replace F' : Fr g' L' h' (fun _ => none) := F'
  replace d1 : o1.data = .cell none := (by with_unfolding_all exact d1)
  replace d2 : o2.data = .cell none := (by with_unfolding_all exact d2)
  replace d3 : o3.data = .cell none := (by with_unfolding_all exact d3)
  replace d4 : o4.data = .cell (some (.ref P)) := (by with_unfolding_all exact d4)
  refine cps fun G9 r9 => ?_
  obtain ⟨hPT, apc, hlg⟩ := law_pre N hl hlP hco S'
  have C' := code179 X'
  obtain ⟨lP, lT, lC⟩ := l1
  refine r9 ?_
  clear r9 G9
  replace apc := apc.cells lC
  have hcds : Cds codes L' codes := fun q hq => .inl hq
  have tn : KtsTurn ((envX cn cs L a ccd cl :: outer).filterMap (·.frame)) g' g' := .refl
  have fin := law_end B F N XB TB S' e' hret (cn := cn) (cs := cs) (a := a) (ccd := ccd) (cl := cl)
  clear F N B X T hret e'
  walk_at "mine steps"
  unfold Halt
  dsimp only
  refine n_noRaise ?_
  (walk_at "mine shade"; rename_i _ _ oR dR0 _ oO Fw Nw dO0 qn en; walk_at "mine light")
  refine cps fun G9 r9 => ?_
  obtain ⟨r, tr, hr, dR⟩ : ∃ r tr, (r : List UInt8).length ≤ 20 ∧ oR.data = .cell (some (.bytes r.toArray tr)) := ⟨_, _, by omega, dR0⟩
  obtain ⟨q, tq, hq, dO⟩ : ∃ q tq, (q : List UInt8).length ≤ 20 ∧ oO.data = .cell (some (.bytes q.toArray tq)) := ⟨_, _, by omega, dO0⟩
  refine r9 ?_
  clear r9 G9
  clear dR0 dO0
  have Np := News.pick (p := (L' + 1, o4)) Nw (by k_mem) (News.pick (p := (P, _)) Nw (by k_mem) (News.pick (p := (176, _)) Nw (by k_mem) (News.pick (p := (L' + 1 + 1, _)) Nw (by k_mem) (News.pick (p := (L' + 1 + 1 + 1, _)) Nw (by k_mem) (News.pick (p := (L' + 1 + 1 + 1 + 1, _)) Nw (by k_mem) (rest := codes) (fun q hq => Nw q (by (repeat (first | exact hq | refine List.Mem.tail _ ?_)))))))))
  clear Nw
  with_unfolding_all refine' comp_drawn (s := ⟨_, _, _, _, _⟩) hi hn ?a0 ?a1 c0 c1 ?a2 ?a3 ?a4 ?a5 B' X' T' rfl ?a7 ?a8 Fw Np hlg ?a9 ?a10 d4 rfl (fun _ => rfl) ?hit (fun _ => rfl) ?fin
  case a0 => omega
  case a1 => omega
  case a2 => omega
  case a3 => omega
  case a4 => omega
  case a5 => omega
  case a7 => ktr_room
  case a8 => ktr_units
  case a9 => k_ne
  case a10 => exact apart1 (by first | k_all | fail)
  case hit =>
    intro Q' hQ
    walk_at "mine steps"
    dsimp only
    refine hQ _ _ _ _ _ _ _ _ _ (Int.toNat _) (by assumption) (by assumption) (by assumption) (Int.toNat_of_nonneg (by assumption)).symm ?_ ?_ ?_
    all_goals omega
  case fin =>
    clear Np Fw
    intro D hx tkx ys fs k2 t2 Fx Nx ox hys hfn hfz b2 b3
    simp only [Off1] at ox
    (try have ox_p1 := ox.1)
    (try have ox_p2 := ox.2.1)
    (try have ox_p3 := ox.2.2.1)
    (try have ox_p4 := ox.2.2.2.1)
    (try have ox_p5 := ox.2.2.2.2.1)
    (try have ox_p6 := ox.2.2.2.2.2.1)
    (try have ox_p7 := ox.2.2.2.2.2.2.1)
    (try have ox_p8 := ox.2.2.2.2.2.2.2.1)
    (try have ox_p9 := ox.2.2.2.2.2.2.2.2.1)
    (try have ox_p10 := ox.2.2.2.2.2.2.2.2.2.1)
    have kk0 : k ≤ k2 := by omega
    have kk1 : k2 ≤ k + 12 := by omega
    with_unfolding_all refine' storeX_C Fx Nx ?c ?U ?d ?_ ?k ?x
    case k => rfl
    case x => rfl
    case c => rfl
    case U => k_updF
    case d => k_asm
    clear Fx Nx
    intro hx oS Fx Nx dS
    (try dsimp only at Nx)
    refine n_cut2 (fun s' => Halt (LTab (Str.ofString "_law_hellos_right.<locals>.<lambda>") [P, 176, L' + 1, L' + 1 + 1, L' + 1 + 1 + 1, L' + 1 + 1 + 1 + 1] codes L' (LSt w (ktrTop dp un (some []) cn cs L a ccd cl outer) base (envX cn cs L a ccd cl :: outer) p loose mean mg mb g' L' l vs.toArray s (fun _ => True)) (fun ps4 codes4 => (L' + 1, o4) :: (P, penO2 l k2 c t2 tc n) :: (176, tabObj ps4) :: (L' + 1 + 1, oO) :: (L' + 1 + 1 + 1, oR) :: (L' + 1 + 1 + 1 + 1, oS) :: (D, lst ys) :: codes4) s')) ?_ ?_
    · walk_at "mine steps"
      · unfold Halt
        (try dsimp only)
        have h8 := ‹(List.length _ : Int) = 8›
        have N8 := ‹News g' L' _ (_ :: _)›
        have lam := ‹LamAt _ _ _ _ _ _ _›
        have K8 := ‹TabC _ _ _›
        with_unfolding_all refine' told_law (s := ⟨_, _, _, _, _⟩) (l := l) (its := vs.toArray) N8 ?F B' X' T' XB TB rfl tn hlg ?d ?u ?fn ?W ?stab ?ret
        case F => k_asm
        case fn => assumption
        case W =>
          refine' work_rch hys ?r ?o ?z ?n ?li lam ?c0 ?c1 ?c2
          case c0 => walk_at "mine cell"
          case c1 => walk_at "mine cell"
          case c2 => walk_at "mine cell"
          case li => exact News.isList N8 (by k_mem)
          case r => omega
          case o => omega
          case z => exact fun f hf => by have := hfz f hf; omega
          case n => omega
        case d => ktr_room
        case u => ktr_units
        case stab =>
          intro h1 h2 v z9a k
          refine cps fun G7 r7 => ?_
          obtain ⟨T, D, a, c, us, gs, n, t1, t2, q1, q2, q3, q4⟩ := z9a
          refine r7 ?_
          clear r7 G7
          exact ⟨T, D, a, c, us, gs, n, t1, t2, q1, k.all _ _ q2, k.all _ _ q3, q4⟩
        case ret =>
          intro r9 h9 tk9 g9 F9 B9 X9 T9 N9 hl9 tn9 ot9 tl9
          clear N8 lam ot9
          rw [rch_law (by omega) (by omega) (fun f hf => by have := hfz f hf; omega) (by omega), if_pos (by omega)] at tl9
          walk_at "mine steps"
          refine cps fun G9 r9 => ?_
          obtain ⟨T, rfl, ht⟩ := tl9
          refine r9 ?_
          clear r9 G9
          refine cps fun G8 r8 => ?_
          rcases ht with ⟨v, t, eT, T', D', a', c', us, gs, n', t1, t2, rfl, e1, e2, e3, e4⟩ | ⟨_, _, _, _, hb⟩
          · cases e4
            refine r8 ?_
            clear r8 G8
            refine told_ne (n := 2) (eT _ (.head _)).1 (N9 _ (.head _)).1 (sm_tup ⟨_, e1, rfl, _, rfl⟩ ⟨_, (N9 _ (.tail _ (.head _))).1, rfl, _, rfl⟩ (sm_cons sm_by (sm_cons (sm_list ⟨_, e2, rfl, _, rfl⟩ ⟨_, (N9 _ (.tail _ (.tail _ (.head _)))).1, rfl, _, rfl⟩ (bys_smN e3 hys)) (sm_cons sm_by sm_nil)))) (by ktr_units) ?_
            clear eT e1 e2 e3
            walk_at "mine steps"
            exact halt' ⟨_, _, K8, by assumption, by assumption, g9, h9, _, _, rfl, F9, (by walk_at "mine pick"), B9, X9, T9, hl9, tn9, trivial⟩
          · refine r8 ?_
            clear r8 G8
            exact nomatch hb.2
      · unfold Halt
        (try dsimp only)
        have h8 := ‹¬ (List.length _ : Int) = 8›
        have N8 := ‹News g' L' _ (_ :: _)›
        have lam := ‹LamAt _ _ _ _ _ _ _›
        have K8 := ‹TabC _ _ _›
        with_unfolding_all refine' told_law (s := ⟨_, _, _, _, _⟩) (l := l) (its := vs.toArray) N8 ?F B' X' T' XB TB rfl tn hlg ?d ?u ?fn ?W ?stab ?ret
        case F => k_asm
        case fn => assumption
        case W =>
          refine' work_rch hys ?r ?o ?z ?n ?li lam ?c0 ?c1 ?c2
          case c0 => walk_at "mine cell"
          case c1 => walk_at "mine cell"
          case c2 => walk_at "mine cell"
          case li => exact News.isList N8 (by k_mem)
          case r => omega
          case o => omega
          case z => exact fun f hf => by have := hfz f hf; omega
          case n => omega
        case d => ktr_room
        case u => ktr_units
        case stab =>
          intro h1 h2 v z9a k
          refine cps fun G7 r7 => ?_
          obtain ⟨T, D, a, c, us, gs, n, t1, t2, q1, q2, q3, q4⟩ := z9a
          refine r7 ?_
          clear r7 G7
          exact ⟨T, D, a, c, us, gs, n, t1, t2, q1, k.all _ _ q2, k.all _ _ q3, q4⟩
        case ret =>
          intro r9 h9 tk9 g9 F9 B9 X9 T9 N9 hl9 tn9 ot9 tl9
          clear N8 lam ot9
          rw [rch_law (by omega) (by omega) (fun f hf => by have := hfz f hf; omega) (by omega), if_neg (by omega)] at tl9
          walk_at "mine steps"
          refine cps fun G9 r9 => ?_
          obtain ⟨T, rfl, ht⟩ := tl9
          refine r9 ?_
          clear r9 G9
          refine cps fun G8 r8 => ?_
          rcases ht with ⟨v, t, eT, T', D', a', c', us, gs, n', t1, t2, rfl, e1, e2, e3, e4⟩ | ⟨c9, t, t', eT, hb⟩
          · refine r8 ?_
            clear r8 G8
            exact nomatch e4
          · refine r8 ?_
            clear r8 G8
            refine cps fun G9 r9 => ?_
            obtain ⟨rfl, _⟩ := hb
            refine r9 ?_
            clear r9 G9
            refine told_ne (n := 0) (eT _ (.head _)).1 (N9 _ (.head _)).1 sm_int (by ktr_units) ?_
            clear eT
            walk_at "mine steps"
            exact halt' ⟨_, _, K8, by assumption, by assumption, g9, h9, _, _, rfl, F9, (by walk_at "mine pick"), B9, X9, T9, hl9, tn9, trivial⟩
    · clear B' X' T' hlg tn C' apc hcds K
      intro s' z9a
      refine cps fun G7 r7 => ?_
      obtain ⟨ps4, codes4, K4, ap4, cds4, g4, h4, tk4, m4, rfl, F4, N4, B4, X4, T4, hl4, tn4, -⟩ := z9a
      refine r7 ?_
      clear r7 G7
      have C4 := code179 X4
      refine n_cut2 (fun s' => Halt (LTab (Str.ofString "_law_hellos_right.<locals>.<lambda>") [P, 176, L' + 1, L' + 1 + 1, L' + 1 + 1 + 1, L' + 1 + 1 + 1 + 1] codes L' (LSt w (ktrTop dp un (some []) cn cs L a ccd cl outer) base (envX cn cs L a ccd cl :: outer) p loose mean mg mb g' L' l vs.toArray s (fun _ => True)) (fun ps4 codes4 => (L' + 1, o4) :: (P, penO2 l k2 c t2 tc n) :: (176, tabObj ps4) :: (L' + 1 + 1, oO) :: (L' + 1 + 1 + 1, oR) :: (L' + 1 + 1 + 1 + 1, oS) :: (D, lst ys) :: codes4) s')) ?_ ?_
      · walk_at "mine steps"
        · have h8 := ‹(List.length _ : Int) = 8›
          unfold Halt
          (try dsimp only)
          have N8 := ‹News _ L' _ (_ :: _)›
          have lam := ‹LamAt _ _ _ _ _ _ _›
          have K8 := ‹TabC _ _ _›
          with_unfolding_all refine' told_law (s := ⟨_, _, _, _, _⟩) (l := l) (its := vs.toArray) N8 ?F B4 X4 T4 XB TB rfl tn4 hl4 ?d ?u ?fn ?W ?stab ?ret
          case F => k_asm
          case fn => assumption
          case W =>
            refine' work_rsh ?r lam ?c0
            case c0 => walk_at "mine cell"
            case r => omega
          case d => ktr_room
          case u => ktr_units
          case stab =>
            intro h1 h2 v z9a k
            refine cps fun G7 r7 => ?_
            obtain ⟨a, t1, q1, q2⟩ := z9a
            refine r7 ?_
            clear r7 G7
            exact ⟨a, t1, q1, q2⟩
          case ret =>
            intro r5 h5 tk5 g5 F5 B5 X5 T5 N5 hl5 tn5 ot5 tl5
            clear N8 lam ot5
            rw [rsh_law (by omega), if_pos (by omega)] at tl5
            clear B4 X4 T4 tn4 hl4 C4
            have C5 := code179 X5
            walk_at "mine steps"
            refine cps fun G9 r9 => ?_
            obtain ⟨T, rfl, ht⟩ := tl5
            refine r9 ?_
            clear r9 G9
            refine cps fun G8 r8 => ?_
            rcases ht with ⟨v, t, eT, a', t1, rfl, e4⟩ | ⟨_, _, _, _, hb⟩
            · cases e4
              refine r8 ?_
              clear r8 G8
              refine told_ne (n := 0) (eT _ (.head _)).1 (N5 _ (.head _)).1 sm_by (by ktr_units) ?_
              clear eT
              walk_at "mine steps"
              unfold Halt
              (try dsimp only)
              have N8 := ‹News _ L' _ (_ :: _)›
              have lam := ‹LamAt _ _ _ _ _ _ _›
              have K8 := ‹TabC _ _ _›
              with_unfolding_all refine' told_law (s := ⟨_, _, _, _, _⟩) (l := l) (its := vs.toArray) N8 ?F B5 X5 T5 XB TB rfl tn5 hl5 ?d ?u ?fn ?W ?stab ?ret
              case F => k_asm
              case fn => assumption
              case W =>
                refine' work_rsh2 ?r lam ?c0
                case c0 => walk_at "mine cell"
                case r => omega
              case d => ktr_room
              case u => ktr_units
              case stab =>
                intro h1 h2 v z9a k
                refine cps fun G7 r7 => ?_
                obtain ⟨a, t1, q1, q2⟩ := z9a
                refine r7 ?_
                clear r7 G7
                exact ⟨a, t1, q1, q2⟩
              case ret =>
                intro r6 h6 tk6 g6 F6 B6 X6 T6 N6 hl6 tn6 ot6 tl6
                clear N8 lam ot6
                rw [rsh_more (by omega)] at tl6
                clear B5 X5 T5 tn5 hl5 C5
                refine cps fun G9 r9 => ?_
                obtain ⟨T2, rfl, ht⟩ := tl6
                refine r9 ?_
                clear r9 G9
                refine cps fun G8 r8 => ?_
                rcases ht with ⟨v2, t2, eT2, a2', t12, rfl, e5⟩ | ⟨_, t6, t6', eT2, hb2⟩
                · refine r8 ?_
                  clear r8 G8
                  exact nomatch e5
                · refine r8 ?_
                  clear r8 G8
                  refine cps fun G9 r9 => ?_
                  obtain ⟨rfl, _⟩ := hb2
                  refine r9 ?_
                  clear r9 G9
                  have N7 := News.cons eT2 N6
                  clear N6
                  (try dsimp only [aroundW])
                  walk_at "mine steps"
                  exact halt' ⟨_, _, K8, by assumption, by assumption, g6, _, _, _, rfl, by assumption, (by walk_at "mine pick"), B6, X6, T6, hl6, tn6, trivial⟩
            · refine r8 ?_
              clear r8 G8
              exact nomatch hb.2
        · have h8 := ‹¬ (List.length _ : Int) = 8›
          unfold Halt
          (try dsimp only)
          have N8 := ‹News _ L' _ (_ :: _)›
          have lam := ‹LamAt _ _ _ _ _ _ _›
          have K8 := ‹TabC _ _ _›
          with_unfolding_all refine' told_law (s := ⟨_, _, _, _, _⟩) (l := l) (its := vs.toArray) N8 ?F B4 X4 T4 XB TB rfl tn4 hl4 ?d ?u ?fn ?W ?stab ?ret
          case F => k_asm
          case fn => assumption
          case W =>
            refine' work_rsh ?r lam ?c0
            case c0 => walk_at "mine cell"
            case r => omega
          case d => ktr_room
          case u => ktr_units
          case stab =>
            intro h1 h2 v z9a k
            refine cps fun G7 r7 => ?_
            obtain ⟨a, t1, q1, q2⟩ := z9a
            refine r7 ?_
            clear r7 G7
            exact ⟨a, t1, q1, q2⟩
          case ret =>
            intro r5 h5 tk5 g5 F5 B5 X5 T5 N5 hl5 tn5 ot5 tl5
            clear N8 lam ot5
            rw [rsh_law (by omega), if_neg (by omega)] at tl5
            clear B4 X4 T4 tn4 hl4 C4
            have C5 := code179 X5
            walk_at "mine steps"
            refine cps fun G9 r9 => ?_
            obtain ⟨T, rfl, ht⟩ := tl5
            refine r9 ?_
            clear r9 G9
            refine cps fun G8 r8 => ?_
            rcases ht with ⟨v, t, eT, a', t1, rfl, e4⟩ | ⟨_, t, t', eT, hb⟩
            · refine r8 ?_
              clear r8 G8
              exact nomatch e4
            · refine r8 ?_
              clear r8 G8
              refine cps fun G9 r9 => ?_
              obtain ⟨rfl, _⟩ := hb
              refine r9 ?_
              clear r9 G9
              refine told_ne (n := 0) (eT _ (.head _)).1 (N5 _ (.head _)).1 sm_int (by ktr_units) ?_
              clear eT
              walk_at "mine steps"
              unfold Halt
              (try dsimp only)
              have N8 := ‹News _ L' _ (_ :: _)›
              have lam := ‹LamAt _ _ _ _ _ _ _›
              have K8 := ‹TabC _ _ _›
              with_unfolding_all refine' told_law (s := ⟨_, _, _, _, _⟩) (l := l) (its := vs.toArray) N8 ?F B5 X5 T5 XB TB rfl tn5 hl5 ?d ?u ?fn ?W ?stab ?ret
              case F => k_asm
              case fn => assumption
              case W =>
                refine' work_rsh2 ?r lam ?c0
                case c0 => walk_at "mine cell"
                case r => omega
              case d => ktr_room
              case u => ktr_units
              case stab =>
                intro h1 h2 v z9a k
                refine cps fun G7 r7 => ?_
                obtain ⟨a, t1, q1, q2⟩ := z9a
                refine r7 ?_
                clear r7 G7
                exact ⟨a, t1, q1, q2⟩
              case ret =>
                intro r6 h6 tk6 g6 F6 B6 X6 T6 N6 hl6 tn6 ot6 tl6
                clear N8 lam ot6
                rw [rsh_more (by omega)] at tl6
                clear B5 X5 T5 tn5 hl5 C5
                refine cps fun G9 r9 => ?_
                obtain ⟨T2, rfl, ht⟩ := tl6
                refine r9 ?_
                clear r9 G9
                refine cps fun G8 r8 => ?_
                rcases ht with ⟨v2, t2, eT2, a2', t12, rfl, e5⟩ | ⟨_, t6, t6', eT2, hb2⟩
                · refine r8 ?_
                  clear r8 G8
                  exact nomatch e5
                · refine r8 ?_
                  clear r8 G8
                  refine cps fun G9 r9 => ?_
                  obtain ⟨rfl, _⟩ := hb2
                  refine r9 ?_
                  clear r9 G9
                  have N7 := News.cons eT2 N6
                  clear N6
                  (try dsimp only [aroundW])
                  walk_at "mine steps"
                  exact halt' ⟨_, _, K8, by assumption, by assumption, g6, _, _, _, rfl, by assumption, (by walk_at "mine pick"), B6, X6, T6, hl6, tn6, trivial⟩
      · clear B4 X4 T4 hl4 tn4 C4 N4 F4 ap4 cds4 K4
        intro s' z9a
        refine cps fun G7 r7 => ?_
        obtain ⟨ps7, codes7, K7, ap7, cds7, g7, h7, tk7, m7, rfl, F7, N7, B7, X7, T7, hl7, tn7, -⟩ := z9a
        refine r7 ?_
        clear r7 G7
        have C7 := code179 X7
        walk_at "mine steps"
        unfold Halt
        have F8 := ‹Fr g7 L' _ m7›
        have N8 := ‹News g7 L' _ (_ :: _)›
        subst_vars
        refine (rex_spec ?hx).toN _ _ _ _ _ _ _ _ _ _ _ _ _ _ _ _ _ _ _ _ _ B7 F8 X7 T7 rfl (by ktr_room) (by ktr_units) trivial (fun r8 h8 tk8 k8 hp => ?_) (fun c8 e8 h8 tk8 hb8 hr8 => ?_)
        case hx => exact Nat.le_trans ‹_› (Nat.le_trans ‹_› (by decide))
        · refine cps fun G9 r9 => ?_
          obtain ⟨T, a', b', t3, t4, rfl, n8, hT, hx⟩ := hp
          refine r9 ?_
          clear r9 G9
          rw [rex_law hq hr] at hx
          cases hx
          have N9 := news_addN F8 (news_kept0 N8 k8) n8 hT
          have F9 := fr_kept0 F8 k8
          clear N8 F8
          walk_at "mine steps"
          unfold Halt
          have N8 := ‹News g7 L' _ (_ :: _)›
          refine cmp_eq (n := 0) (vs := [.bytes q.toArray _, .bytes r.toArray _]) (vs' := [.bytes q.toArray _, .bytes r.toArray _]) (.inr ⟨⟨_, (N8 _ (.tail _ (.head _))).1, rfl, _, rfl⟩, ⟨_, (N8 _ (.head _)).1, rfl, _, rfl⟩⟩) (sm_cons sm_by (sm_cons sm_by sm_nil)) (by ktr_units) ?_
          have N9 : News g7 L' _ ((L' + 1, o4) :: (P, penO2 l k2 c t2 tc n) :: (176, tabObj ps7) :: (L' + 1 + 1, oO) :: (L' + 1 + 1 + 1, oR) :: (L' + 1 + 1 + 1 + 1, oS) :: (D, lst ys) :: codes7) := News.sub N8 (fun q hq => .tail _ (.tail _ hq))
          clear N8
          walk_at "mine steps"
          unfold Halt
          (try dsimp only)
          have N8 := ‹News _ L' _ (_ :: _)›
          have lam := ‹LamAt _ _ _ _ _ _ _›
          have K8 := ‹TabC _ _ _›
          with_unfolding_all refine' told_law (s := ⟨_, _, _, _, _⟩) (l := l) (its := vs.toArray) N8 ?F B7 X7 T7 XB TB rfl tn7 hl7 ?d ?u ?fn ?W ?stab ?ret
          case F => k_asm
          case fn => assumption
          case W =>
            refine' work_rex ?r lam ?c0
            case c0 => walk_at "mine cell"
            case r => omega
          case d => ktr_room
          case u => ktr_units
          case stab =>
            intro h1 h2 v z9a k
            refine cps fun G7 r7 => ?_
            obtain ⟨T, a, b, t1, t2, q1, q2, q3⟩ := z9a
            refine r7 ?_
            clear r7 G7
            exact ⟨T, a, b, t1, t2, q1, k.all _ _ q2, q3⟩
          case ret =>
            intro r9 h9 tk9 g9 F9 B9 X9 T9 N9 hl9 tn9 ot9 tl9
            clear N8 lam ot9
            rw [rex_less (by omega)] at tl9
            refine cps fun G9 r9 => ?_
            obtain ⟨T2, rfl, ht⟩ := tl9
            refine r9 ?_
            clear r9 G9
            refine cps fun G8 r8 => ?_
            rcases ht with ⟨v2, t5, eT2, T5, a5, b5, t51, t52, rfl, e51, e52⟩ | ⟨_, t6, t6', eT2, hb2⟩
            · refine r8 ?_
              clear r8 G8
              exact nomatch e52
            · refine r8 ?_
              clear r8 G8
              refine cps fun G9 r9 => ?_
              obtain ⟨rfl, _⟩ := hb2
              refine r9 ?_
              clear r9 G9
              have N9' := News.cons eT2 N9
              clear N9
              walk_at "mine steps"
              unfold Halt
              have N10 := ‹News g9 L' _ (_ :: _)›
              refine told_eq (n := 0) (N10 _ (.tail _ (.head _))).1 (N10 _ (.head _)).1 sm_int (by ktr_units) ?_
              dsimp only
              exact fin _ _ g9 _ k2 t2 _ _ (by assumption) tn9 (by walk_at "mine pick") (by omega) (by omega) K8 (by assumption)
        · rw [rex_law hq hr] at hb8
          exact nomatch hb8.2
end
theorem off_LG : True := by
  w_top off
  trivial
set_option maxHeartbeats 4000000 in
/-- the fields made by hand -/
theorem comp_heads {prog : Program} {w : World} {iter : PySem.Expr} {p0 p1 p2 p3 p4 p5 p6 p7 p8 q1 : Pos} {mo : List (Str × Const)} {pos : Pos} {vs : List Value} {fs : List (List UInt8)} {l : Addr}
    {dp un : Nat} {cn : Str} {cs : Scope} {a : Addr} {ccd : Value} {cl : List (Str × Addr)} {outer : List Env} {A₀ : Around} {base h₀ : Heap} {L : Addr} {m : Str → Option Value} {s : Shared}
    {p : Program} {loose : List Str} {mean : ExcName → Option Value} {mg mb : Str → Option Value} {Q : Value → Shared → Prop} {news : List (Addr × Obj)}
    (hb : Bys vs fs) (hn : fs.length ≤ 1000) (hz : ∀ f ∈ fs, f.length < 250)
    (B : Below A₀ base outer h₀) (F : Fr h₀ L s.heap m) (X : (hd.heap_1 w.params).In h₀) (T : Top p loose mean mg mb h₀) (hk : cs.kind = .function) (hdp : dp + 10 < recursionLimit) (hu : un + 40 < cLine) (N : News h₀ L s.heap news) (S : SrcAt h₀ l vs.toArray news)
    (hit : ∀ (Q' : Value → Shared → Prop), Q' (.ref l) s → wpN (model prog w) (ktrTop dp un (some []) cn cs L a ccd cl outer) (eval iter (envX cn cs L a ccd cl)) Q' Fl s) (hs : ∀ x, foldedSetIterable iter (envX cn cs L a ccd cl) x = pure x)
    (fin : ∀ D h tk ys, Fr h₀ L h m → News h₀ L h ((D, lst ys) :: news) → Off1 D news → Bys ys (flds fs) → Q (.ref D) { s with heap := h, toks := tk }) :
    wpN (model prog w) (ktrTop dp un (some []) cn cs L a ccd cl outer) (eval (.ListComp (.BinOp (.Call (.Name (Str.ofString "bytes") p0) [.List [.Constant (Const.int 0) 0 p1, .Call (.Name (Str.ofString "len") p2) [.Name (Str.ofString "one") p3] [] p4] p5] [] p6) .Add (.Name (Str.ofString "one") p7) p8)
      [⟨.Name (Str.ofString "one") q1, iter, [], 0⟩] { kind := .function, names := [(Str.ofString ".0", .local), (Str.ofString "one", .local), (Str.ofString "bytes", .globalImplicit), (Str.ofString "len", .globalImplicit)], isGenerator := false, isCoroutine := false, more := mo } pos) (envX cn cs L a ccd cl)) Q Fl s := by
  have hlen := hb.length
  refine n_ListCompT (cl := []) (by rfl) rfl (by show ∀ x ∈ [(Str.ofString ".0", NameKind.local), (Str.ofString "one", .local), (Str.ofString "bytes", .globalImplicit), (Str.ofString "len", .globalImplicit)], x.2 = .local → List.lookup x.1 [(Str.ofString ".0", NameKind.local), (Str.ofString "one", .local), (Str.ofString "bytes", .globalImplicit), (Str.ofString "len", .globalImplicit)] = some .local; decide) (hit _ ?_) hs
  have hh : (ktrTop dp un (some []) cn cs L a ccd cl outer).handled = none := rfl
  refine src_list1 (its := vs) (J := fun i ys nw => nw = news ∧ Bys ys (flds (fs.take i))) hh F N (by omega) (fun i ys nw j => by rw [j.1]; exact S) (by show ∀ x ∈ [(Str.ofString ".0", NameKind.local), (Str.ofString "one", .local), (Str.ofString "bytes", .globalImplicit), (Str.ofString "len", .globalImplicit)], x.2 ≠ .cell; decide) rfl (by with_unfolding_all rfl) ⟨rfl, .nil⟩ ?_ ?_
  · intro i ys v news₁ I oI C oC D mC h₂ tk₂ hi hy hP z9a hoC F₂ N₂ off nIC nID nCD
    refine cps fun G7 r7 => ?_
    obtain ⟨rfl, hys⟩ := z9a
    refine r7 ?_
    clear r7 G7
    refine n_tests0 ?_
    rw [if_pos rfl]
    refine cps fun G9 r9 => ?_
    obtain ⟨f, tf, e1, e2⟩ := bys_at i hb (by omega)
    refine r9 ?_
    clear r9 G9
    rw [hP] at e2
    cases e2
    have hfl := hz f (List.mem_of_getElem? e1)
    clear N F hit fin
    walk_at "mine steps"
    have N9 := ‹News h₀ L _ (_ :: _)›
    have e9 := ‹_ = [Int.toNat 0 |>.toUInt8, _]›
    have e10 := ‹_ = _ ++ f›
    refine CEnd.intro ‹Fr h₀ L _ m› (fun p hp => N9 p (.tail _ hp)) hoC (by exact off) ⟨rfl, ?_⟩
    rw [List.take_add_one, e1]
    show Bys _ (((fs.take i) ++ [f]).map fld)
    rw [List.map_append]
    have e11 : fld f = [Int.toNat 0 |>.toUInt8, (f.length : Int).toNat.toUInt8] ++ f := rfl
    show Bys _ (_ ++ [fld f])
    rw [e11, ← e9, ← e10]
    exact hys.push
  · intro D C oC h₂ tk₂ ys news' c2 F' N' nCD off hyl z9a
    refine cps fun G7 r7 => ?_
    obtain ⟨rfl, hys⟩ := z9a
    refine r7 ?_
    clear r7 G7
    rw [hlen, List.take_length] at hys
    refine outE (s := ⟨_, _, _, _, _⟩) c2 F' N' nCD off (fun h₃ F₃ N₃ o1 => ?_)
    exact fin D h₃ _ ys F₃ N₃ o1 hys
theorem by_ne_same {prog : Program} {w : World} {A : Around} {E : Value → Shared → Prop} {s : Shared} {l : List UInt8} {t u : Tok} {Q : Value → Shared → Prop} (h : Q (.bool false) s) : wpAny (model prog w) A (compareOp .NotEq (.bytes l.toArray t) (.bytes l.toArray u)) Q E s := by
  refine by_ne ?_
  rw [decide_eq_true rfl]
  exact h
theorem words76 : True := by
  (k_with "compareOp NotEq bytes bytes" => (with_reducible refine by_ne_same ?_))
  trivial
/-- fields that are read -/
theorem fields_ok {prog : Program} {w : World} {x : List UInt8} {fs : List (List UInt8)} {many : Option Int} {tx tm : Tok} (hx : x.length ≤ 500) (hr : rd x.length x = some fs) (hm : manyOk many fs.length)
    {dp un : Nat} {cn : Str} {cs : Scope} {a : Addr} {ccd : Value} {cl : List (Str × Addr)} {outer : List Env} {A₀ : Around} {base h₀ : Heap} {L : Addr} {m : Str → Option Value} {s : Shared}
    {p : Program} {loose : List Str} {mean : ExcName → Option Value} {mg mb : Str → Option Value} {Q E : Value → Shared → Prop} {news : List (Addr × Obj)}
    (B : Below A₀ base outer h₀) (F : Fr h₀ L s.heap m) (X : (hd.heap_1 w.params).In h₀) (T : Top p loose mean mg mb h₀) (hk : cs.kind = .function) (hdp : dp + 10 < recursionLimit) (hu : un + 40 < cLine) (N : News h₀ L s.heap news)
    (ret : ∀ D h' tk' vs n, Fr h₀ L h' m → News h₀ L h' ((D, listOf (vs : List Value).toArray n) :: news) → Bys vs fs → Q (.ref D) { s with heap := h', toks := tk' }) :
    wpN (model prog w) (ktrTop dp un (some []) cn cs L a ccd cl outer) (call (.ref 103) [.bytes x.toArray tx, manyV many tm]) Q E s := by
  refine (fields_spec (many := many) (tm := tm) hx).toN _ _ _ _ _ _ _ _ _ _ _ _ _ _ _ _ _ _ _ _ _ B F X T hk hdp hu trivial (fun r h3 tk3 k3 hp => ?_) (fun c e h3 tk3 hb2 hr2 => ?_)
  · refine cps fun G9 r9 => ?_
    obtain ⟨D, vs, fs', n, rfl, n0, e, hb, e2, _⟩ := hp
    refine r9 ?_
    clear r9 G9
    rw [hr] at e2
    cases e2
    exact ret D h3 tk3 vs n (fr_kept0 F k3) (news_addN F (news_kept0 N k3) n0 e) hb
  · exact absurd hm (hb2.2 _ hr)
theorem words77 : True := by
  (k_with "compareOp NotEq ref ref" => ((with_reducible show wpAny _ _ (compareOp CmpOp.NotEq (Value.ref _) (Value.ref _)) _ _ _); refine halt ?_))
  trivial
theorem n_cutE {M : Model} {A : Around} {E : Value → Shared → Prop} {s : Shared} {env : Env} {t : Sem Flow} {rest : List Stmt} {Q : Flow → Shared → Prop} (P : Shared → Prop)
    (h1 : wpN M A t (fun f s' => match f with | .next => P s' | f => Q f s') E s) (h2 : ∀ s', P s' → wpN M A (execs rest env) Q E s') : wpN M A t (fun f s' => match f with | .next => wpN M A (execs rest env) Q E s' | f => Q f s') E s :=
  wpN_mono h1 (fun f s' h => by cases f <;> first | exact h2 _ h | exact h) fun _ _ x => x
theorem Apart.sub {as as' : List Addr} {tl : List (Addr × Obj)} (x : Apart as tl) (h : ∀ a ∈ as', a ∈ as) : Apart as' tl := fun q hq z => x q hq (h _ z)
theorem Apart.add {as : List Addr} {I : Addr} {tl : List (Addr × Obj)} (x : Apart as tl) (h : ∀ q ∈ tl, q.1 ≠ I) : Apart (as ++ [I]) tl := fun q hq z => by
  rcases List.mem_append.mp z with z | z
  · exact x q hq z
  · exact h q hq (List.mem_singleton.mp z)
theorem tells_new {h₀ g hs h' : Heap} {L : Addr} {m : Str → Option Value} {fs : List Addr} {r : Value} {good : Heap → Value → Prop} {bad : Int → Prop} (F : Fr h₀ L hs m) (T : KtsTurn fs h₀ g) (tl : Tells hs h' r good bad) : TellsN g L h' r good bad := by
  refine cps fun G9 r9 => ?_
  obtain ⟨T1, rfl, hT, ht⟩ := tl
  refine r9 ?_
  clear r9 G9
  have k1 : T1 ≠ L := fun e => by
    refine cps fun G9 r9 => ?_
    obtain ⟨o, _, _, ho, _⟩ := F.ns
    refine r9 ?_
    clear r9 G9
    rw [e, ho] at hT
    cases hT
  have key : T1 ≠ L ∧ g.get? T1 = none := ⟨k1, T.none_ _ (kts_none F.keep hT)⟩
  refine ⟨T1, rfl, ?_⟩
  refine cps fun G8 r8 => ?_
  rcases ht with ⟨v, t, e, hg⟩ | ⟨c, t, t', e, hb⟩
  · refine r8 ?_
    clear r8 G8
    exact .inl ⟨v, t, fun q hq => by rw [List.mem_singleton.mp hq]; exact ⟨e, key⟩, hg⟩
  · refine r8 ?_
    clear r8 G8
    exact .inr ⟨c, t, t', fun q hq => by rw [List.mem_singleton.mp hq]; exact ⟨e, key⟩, hb⟩
section
theorem off_TF : True := by
  w_top off
  trivial
theorem words78 : True := by
  (k_with "mine nstep" => ((with_reducible show wpN _ _ (exec (Stmt.Assign [PySem.Expr.Name _ _] (PySem.Expr.BinOp _ _ (PySem.Expr.IfExp _ _ _ _) _) _) _) _ _ _); refine halt ?_))
  trivial
inductive TFCut (D L' P : Addr) (St : ((Str → Option Value) → Prop) → List (Addr × Obj) → Shared → Prop) (led : List (Addr × Obj)) (s' : Shared) : Prop
  | mk (W : Addr) (ws : List Value) (xs : List (List UInt8)) (nW : Nat) (lt : @LT.lt Nat _ D W ∧ @LT.lt Nat _ (L' + 1 + 1 + 1 + 1) W ∧ @LT.lt Nat _ P W ∧ @LT.lt Nat _ 171 W) (hb : Bys ws xs) (hn : xs.length ≤ 4) (hx : ∀ x ∈ xs, x.length ≤ 300 ∧ rd x.length x = none) (st : St (fun m => m (Str.ofString "wrong") = some (.ref W)) ((W, listOf ws.toArray nW) :: led) s') : TFCut D L' P St led s'
inductive TFMid (as : List Addr) (codes : List (Addr × Obj)) (L' : Addr) (St : List (Addr × Obj) → Shared → Prop) (led : Array Value → Obj → List (Addr × Obj) → List (Addr × Obj)) (s' : Shared) : Prop
  | mk (ps5 : Array Value) (codes5 : List (Addr × Obj)) (oN : Obj) (v0 : Option Value) (K : TabC (Str.ofString "_law_fields_right.<locals>.<lambda>") ps5 codes5) (ap : Apart as codes5) (cd : Cds codes L' codes5) (dN : oN.data = .cell v0) (st : St (led ps5 oN codes5) s') : TFMid as codes L' St led s'
inductive TFLoop (as : List Addr) (codes : List (Addr × Obj)) (L' W : Addr) (St : List (Addr × Obj) → Shared → Prop) (led : Array Value → Obj → List (Addr × Obj) → Obj → List (Addr × Obj)) (i : Nat) (s' : Shared) : Prop
  | mk (ps5 : Array Value) (codes5 : List (Addr × Obj)) (oN : Obj) (v0 : Option Value) (oI : Obj) (K : TabC (Str.ofString "_law_fields_right.<locals>.<lambda>") ps5 codes5) (ap : Apart as codes5) (cd : Cds codes L' codes5) (dN : oN.data = .cell v0) (cI : oI.cls = .type "list_iterator") (dI : oI.data = .fields #[.ref W, .int (i : Nat) 0]) (st : St (led ps5 oN codes5 oI) s') : TFLoop as codes L' W St led i s'
set_option maxHeartbeats 4000000 in
theorem fields_law {prog : Program} {w : World} : LawC prog w 174 171 (Str.ofString "_law_fields_right.<locals>.<lambda>") 100 400 := by
  unfold LawC
  intro vs ns P l k c tk tc n ps codes dp un cn cs a ccd cl outer A₀ base h₀ L m s p loose mean mg mb Q E hi hn k0 k1 c0 c1 B F X N T XB TB hk hd hu hl hlP K hco hret
  refine wpN_call ?_
  walk_at "mine enterNC"
  (walk_at "mine shade"; rename_i g' L' h' tk' F' B' X' T' S' e' l1 o1 o2 o3 o4 d1 d2 d3 d4 N'; walk_at "mine light")
  replace F' : Fr g' L' h' (fun _ => none) := F'
  replace d1 : o1.data = .cell none := (by with_unfolding_all exact d1)
  replace d2 : o2.data = .cell none := (by with_unfolding_all exact d2)
  replace d3 : o3.data = .cell none := (by with_unfolding_all exact d3)
  replace d4 : o4.data = .cell (some (.ref P)) := (by with_unfolding_all exact d4)
  refine cps fun G9 r9 => ?_
  obtain ⟨hPT, apc, hlg⟩ := law_pre N hl hlP hco S'
  have C' := code174 X'
  obtain ⟨lP, lT, lC⟩ := l1
  refine r9 ?_
  clear r9 G9
  replace apc := apc.cells lC
  have hcds : Cds codes L' codes := fun q hq => .inl hq
  have tn : KtsTurn ((envX cn cs L a ccd cl :: outer).filterMap (·.frame)) g' g' := .refl
  have fin := law_end B F N XB TB S' e' hret (cn := cn) (cs := cs) (a := a) (ccd := ccd) (cl := cl)
  clear F N B X T hret e'
  walk_at "mine steps"
  unfold Halt
  dsimp only
  refine n_noRaise ?_
  have Fw := ‹Fr g' L' _ _›
  have Np := News.pick (p := (L' + 1, o4)) N' (by k_mem) (News.pick (p := (P, _)) N' (by k_mem) (News.pick (p := (171, _)) N' (by k_mem) (News.pick (p := (L' + 1 + 1, _)) N' (by k_mem) (News.pick (p := (L' + 1 + 1 + 1, _)) N' (by k_mem) (News.pick (p := (L' + 1 + 1 + 1 + 1, _)) N' (by k_mem) (rest := codes) (fun q hq => N' q (by (repeat (first | exact hq | refine List.Mem.tail _ ?_)))))))))
  clear N'
  with_unfolding_all refine' comp_drawn (s := ⟨_, _, _, _, _⟩) hi hn ?a0 ?a1 c0 c1 ?a2 ?a3 ?a4 ?a5 B' X' T' rfl ?a7 ?a8 Fw Np hlg ?a9 ?a10 d4 rfl (fun _ => rfl) ?hit (fun _ => rfl) ?fin
  case a0 => omega
  case a1 => omega
  case a2 => omega
  case a3 => omega
  case a4 => omega
  case a5 => omega
  case a7 => ktr_room
  case a8 => ktr_units
  case a9 => k_ne
  case a10 => exact apart1 (by first | k_all | fail)
  case hit =>
    intro Q' hQ
    walk_at "mine steps"
    dsimp only
    refine hQ _ _ _ _ _ _ _ _ _ (Int.toNat _) (by assumption) (by assumption) (by assumption) (Int.toNat_of_nonneg (by assumption)).symm ?_ ?_ ?_
    all_goals omega
  case fin =>
    clear Np Fw
    intro D hx tkx ys fs k2 t2 Fx Nx ox hys hfn hfz b2 b3
    simp only [Off1] at ox
    (try have ox_p1 := ox.1)
    (try have ox_p2 := ox.2.1)
    (try have ox_p3 := ox.2.2.1)
    (try have ox_p4 := ox.2.2.2.1)
    (try have ox_p5 := ox.2.2.2.2.1)
    (try have ox_p6 := ox.2.2.2.2.2.1)
    (try have ox_p7 := ox.2.2.2.2.2.2.1)
    (try have ox_p8 := ox.2.2.2.2.2.2.2.1)
    (try have ox_p9 := ox.2.2.2.2.2.2.2.2.1)
    (try have ox_p10 := ox.2.2.2.2.2.2.2.2.2.1)
    have kk0 : k ≤ k2 := by omega
    have kk1 : k2 ≤ k + 12 := by omega
    with_unfolding_all refine' storeX_C Fx Nx ?c ?U ?d ?_ ?k ?x
    case k => rfl
    case x => rfl
    case c => rfl
    case U => k_updF
    case d => k_asm
    clear Fx Nx
    intro hx oS Fx Nx dS
    (try dsimp only at Nx)
    walk_at "mine steps"
    have hyl := hys.length
    have hfl := flds_len fs (fun f hf => by have := hfz f hf; omega) (by omega)
    unfold Halt
    (try dsimp only)
    refine n_noRaise ?_
    have N2 := ‹News g' L' _ (_ :: _)›
    have F2 := ‹Fr g' L' _ _›
    with_unfolding_all refine' comp_heads (s := ⟨_, _, _, _, _⟩) (l := D) hys ?n ?z B' F2 X' T' rfl ?d ?u N2 ?S ?hit (fun _ => rfl) ?fin
    case n => omega
    case z => exact fun f hf => by have := hfz f hf; omega
    case d => ktr_room
    case u => ktr_units
    case S => exact .inr ⟨_, (by k_mem), rfl, _, rfl⟩
    case hit =>
      intro Q' h
      walk_at "mine steps"
      exact h
    case fin =>
      clear N2 F2 Nx Fx
      intro D2 h2 tk2 ys2 F3 N3 ox2 hys2
      simp only [Off1] at ox2
      (try have ox2_p1 := ox2.1)
      (try have ox2_p2 := ox2.2.1)
      (try have ox2_p3 := ox2.2.2.1)
      (try have ox2_p4 := ox2.2.2.2.1)
      (try have ox2_p5 := ox2.2.2.2.2.1)
      (try have ox2_p6 := ox2.2.2.2.2.2.1)
      (try have ox2_p7 := ox2.2.2.2.2.2.2.1)
      (try have ox2_p8 := ox2.2.2.2.2.2.2.2.1)
      (try have ox2_p9 := ox2.2.2.2.2.2.2.2.2.1)
      (try have ox2_p10 := ox2.2.2.2.2.2.2.2.2.2.1)
      walk_at "mine steps"
      refine wpN_any ?_
      refine bj_run (s := ⟨h2, _, _, _, _⟩) (News.isList N3 (.head _)) hys2 (by omega) (fun t3 k3 => ?_)
      walk_at "mine steps"
      unfold Halt
      (try dsimp only)
      refine n_noRaise ?_
      (walk_at "mine shade"; rename_i oD F2 Nq dD _ _; walk_at "mine light")
      have N2 := News.sub Nq (rest := (D, lst ys) :: (L' + 1, o4) :: (P, penO2 l k2 c t2 tc n) :: (171, tabObj ps) :: (L' + 1 + 1, o3) :: (L' + 1 + 1 + 1, _) :: (L' + 1 + 1 + 1 + 1, oS) :: codes) (fun q hq => .tail _ hq)
      clear Nq
      with_unfolding_all refine' comp_fields (s := ⟨_, _, _, _, _⟩) (l := D) hys ?n ?z B' F2 X' T' rfl ?d ?u N2 ?S ?hit (fun _ => rfl) ?fin
      case n => omega
      case z => exact fun f hf => by have := hfz f hf; omega
      case d => ktr_room
      case u => ktr_units
      case S => exact .inr ⟨_, .head _, rfl, _, rfl⟩
      case hit =>
        intro Q' h
        walk_at "mine steps"
        exact h
      case fin =>
        clear N2 F2
        intro D3 h3 tk3 ys3 F4 N4 ox3 hys3
        simp only [Off1] at ox3
        (try have ox3_p1 := ox3.1)
        (try have ox3_p2 := ox3.2.1)
        (try have ox3_p3 := ox3.2.2.1)
        (try have ox3_p4 := ox3.2.2.2.1)
        (try have ox3_p5 := ox3.2.2.2.2.1)
        (try have ox3_p6 := ox3.2.2.2.2.2.1)
        (try have ox3_p7 := ox3.2.2.2.2.2.2.1)
        (try have ox3_p8 := ox3.2.2.2.2.2.2.2.1)
        (try have ox3_p9 := ox3.2.2.2.2.2.2.2.2.1)
        (try have ox3_p10 := ox3.2.2.2.2.2.2.2.2.2.1)
        walk_at "mine steps"
        refine wpN_any ?_
        refine bj_run (s := ⟨h3, _, _, _, _⟩) (News.isList N4 (.head _)) hys3 (by omega) (fun t4 k4 => ?_)
        have N5 := News.sub N4 (fun q hq => List.Mem.tail _ hq)
        clear N4
        walk_at "mine steps"
        have hrd : rd (flds fs).flatten.length (flds fs).flatten = some fs := rd_all (fun f hf => by have := hfz f hf; omega)
        unfold Halt
        (try dsimp only)
        have F6 := ‹Fr g' L' _ _›
        with_unfolding_all refine' fields_ok (many := none) (tm := 0) (s := ⟨_, _, _, _, _⟩) ?hx hrd trivial B' F6 X' T' rfl ?d ?u N5 ?ret
        case hx => omega
        case d => ktr_room
        case u => ktr_units
        case ret =>
          clear F6
          intro D4 h4 tk4 vs4 n4 F6 N6 hb4
          walk_at "mine steps"
          unfold Halt
          refine cmp_ne (n := 0) (vs := vs4) (vs' := ys) (.inl ⟨News.isList N6 (.head _), News.isList N6 (.tail _ (.head _))⟩) (bys_smN hb4 hys) (by ktr_units) ?_
          have N5 := News.sub N6 (fun q hq => List.Mem.tail _ hq)
          clear N6 hb4
          walk_at "mine steps"
          unfold Halt
          (try dsimp only)
          have F6 := ‹Fr g' L' _ _›
          with_unfolding_all refine' fields_ok (many := some (ys.length : Int)) (tm := _) (s := ⟨_, _, _, _, _⟩) ?hx hrd (congrArg Nat.cast hyl.symm) B' F6 X' T' rfl ?d ?u N5 ?ret
          case hx => omega
          case d => ktr_room
          case u => ktr_units
          case ret =>
            clear F6
            intro D4 h4 tk4 vs4 n4 F6 N6 hb4
            walk_at "mine steps"
            unfold Halt
            refine cmp_ne (n := 0) (vs := vs4) (vs' := ys) (.inl ⟨News.isList N6 (.head _), News.isList N6 (.tail _ (.head _))⟩) (bys_smN hb4 hys) (by ktr_units) ?_
            have N5 := News.sub N6 (fun q hq => List.Mem.tail _ hq)
            clear N6 hb4
            walk_at "mine steps"
            unfold Halt
            (try dsimp only)
            have hxs : ∀ x ∈ [(flds fs).flatten ++ [0], (flds fs).flatten ++ [0, 1], (flds fs).flatten ++ [1, 0, 120]], x.length ≤ 300 ∧ rd x.length x = none := by
              have hz : ∀ f ∈ fs, f.length < 256 := fun f hf => by have := hfz f hf; omega
              intro x hx
              simp only [List.mem_cons, List.not_mem_nil, or_false] at hx
              rcases hx with rfl | rfl | rfl
              · exact ⟨by rw [List.length_append]; exact Nat.le_trans (Nat.add_le_add_right hfl _) (by decide), rd_tail rd_bad1 hz⟩
              · exact ⟨by rw [List.length_append]; exact Nat.le_trans (Nat.add_le_add_right hfl _) (by decide), rd_tail rd_bad2 hz⟩
              · exact ⟨by rw [List.length_append]; exact Nat.le_trans (Nat.add_le_add_right hfl _) (by decide), rd_tail rd_bad3 hz⟩
            refine n_cutE (fun s' => Halt (TFCut D L' P (LSt w (ktrTop dp un (some []) cn cs L a ccd cl outer) base (envX cn cs L a ccd cl :: outer) p loose mean mg mb g' L' l vs.toArray s) ((D, lst ys) :: (L' + 1, o4) :: (P, penO2 l k2 c t2 tc n) :: (171, tabObj ps) :: (L' + 1 + 1, o3) :: (L' + 1 + 1 + 1, oD) :: (L' + 1 + 1 + 1 + 1, oS) :: codes) s')) ?_ ?_
            · refine n_Assign ?na ?nb
              case nb => rfl
              walk_at "mine steps"
              unfold Halt
              refine cmp_ne_nil (News.isList ‹News g' L' _ (_ :: _)› (by k_mem)) (News.isList ‹News g' L' _ (_ :: _)› (.head _)) (by ktr_units) ?_
              by_cases h0 : ys.isEmpty = true
              · rw [h0]
                walk_at "mine steps"
                subst_vars
                show Halt _
                refine' halt' ⟨_, _, [(flds fs).flatten ++ [0], (flds fs).flatten ++ [0, 1], (flds fs).flatten ++ [1, 0, 120]], 0, ?o9, ?b, ?n9, ?x9, g', _, _, _, rfl, by assumption, ?N, B', X', T', hlg, tn, rfl⟩
                case N => walk_at "mine pick"
                case b => exact .cons ⟨_, rfl⟩ (.cons ⟨_, rfl⟩ (.cons ⟨_, rfl⟩ .nil))
                case o9 => refine ⟨?_, ?_, ?_, ?_⟩ <;> omega
                case n9 => exact Nat.le_of_ble_eq_true rfl
                case x9 => exact hxs
              · rw [Bool.not_eq_true] at h0
                rw [h0]
                walk_at "mine steps"
                subst_vars
                show Halt _
                refine' halt' ⟨_, _, [(flds fs).flatten ++ [0], (flds fs).flatten ++ [0, 1], (flds fs).flatten ++ [1, 0, 120], cut (flds fs).flatten none (some (-1))], 0, ?o9, ?b, ?n9, ?x9, g', _, _, _, rfl, by assumption, ?N, B', X', T', hlg, tn, rfl⟩
                case N => walk_at "mine pick"
                case b => exact .cons ⟨_, rfl⟩ (.cons ⟨_, rfl⟩ (.cons ⟨_, rfl⟩ (.cons ⟨_, rfl⟩ .nil)))
                case o9 => refine ⟨?_, ?_, ?_, ?_⟩ <;> omega
                case n9 => exact Nat.le_of_ble_eq_true rfl
                case x9 =>
                  intro x hx
                  rw [List.mem_cons, List.mem_cons, List.mem_cons, List.mem_singleton] at hx
                  rcases hx with hx | hx | hx | hx
                  · exact hxs x (by rw [hx]; exact .head _)
                  · exact hxs x (by rw [hx]; exact .tail _ (.head _))
                  · exact hxs x (by rw [hx]; exact .tail _ (.tail _ (.head _)))
                  · rw [hx, cut_last]
                    have ne : fs ≠ [] := fun z => by
                      rw [z] at hyl
                      rw [List.eq_nil_of_length_eq_zero hyl] at h0
                      cases h0
                    refine ⟨Nat.le_trans (by rw [List.length_dropLast]; exact Nat.sub_le _ _) (Nat.le_trans hfl (by decide)), rd_cut (fun f hf => ?_) ne⟩
                    have := hfz f hf
                    omega
            · clear B' X' T' hlg tn C'
              intro s' z9a
              refine cps fun G7 r7 => ?_
              obtain ⟨W, ws, xs, nW, ⟨hW1, hW2, hW3, hW4⟩, hbw, hnx, hxx, g4, h4, tk4, m4, rfl, F4, N4, B4, X4, T4, hl4, tn4, hm4⟩ := z9a
              refine r7 ?_
              clear r7 G7
              refine n_cut1 (fun s' => Halt (TFMid [P, 171, L' + 1, L' + 1 + 1, L' + 1 + 1 + 1, L' + 1 + 1 + 1 + 1] codes L' (LSt w (ktrTop dp un (some []) cn cs L a ccd cl outer) base (envX cn cs L a ccd cl :: outer) p loose mean mg mb g' L' l vs.toArray s (fun _ => True)) (fun ps5 oN codes5 => (D, lst ys) :: (L' + 1, o4) :: (P, penO2 l k2 c t2 tc n) :: (171, tabObj ps5) :: (L' + 1 + 1, oN) :: (L' + 1 + 1 + 1, oD) :: (L' + 1 + 1 + 1 + 1, oS) :: codes5) s')) ?_ ?_
              · refine n_noRaise (n_For (wpN_any (nameX_L F4 hm4 ?_ rfl rfl)) (by intro _; rfl))
                have hl := News.isList N4 (.head _)
                have hlt : @LT.lt Nat _ W h4.objs.size := Heap.lt_size (N4 _ (.head _)).1
                refine wpAny_pyIter_list (s := ⟨h4, _, _, _, _⟩) hl ?_
                have hlen := hbw.length
                dsimp only
                refine cps fun G9 r9 => ?_
                obtain ⟨I, hI⟩ : ∃ I : Addr, I = h4.objs.size := ⟨_, rfl⟩
                refine r9 ?_
                clear r9 G9
                have hI₀ := next_is_new F4
                have hIL := Nat.ne_of_lt F4.ns.lt
                have hIn : ∀ q ∈ (W, listOf ws.toArray nW) :: (D, lst ys) :: (L' + 1, o4) :: (P, penO2 l k2 c t2 tc n) :: (171, tabObj ps) :: (L' + 1 + 1, o3) :: (L' + 1 + 1 + 1, oD) :: (L' + 1 + 1 + 1 + 1, oS) :: codes, @LT.lt Nat _ q.1 h4.objs.size := fun q hq => Heap.lt_size (N4 q hq).1
                rw [← hI] at hI₀ hIL hlt hIn ⊢
                have hIn' := allLt_of hIn
                simp only [AllLt] at hIn'
                refine n_for (fun i s' => Halt (TFLoop [P, 171, L' + 1, L' + 1 + 1, L' + 1 + 1 + 1, L' + 1 + 1 + 1 + 1, I] codes L' W (LSt w (ktrTop dp un (some []) cn cs L a ccd cl outer) base (envX cn cs L a ccd cl :: outer) p loose mean mg mb g' L' l vs.toArray s (fun _ => True)) (fun ps5 oN codes5 oI => (I, oI) :: (W, listOf ws.toArray nW) :: (D, lst ys) :: (L' + 1, o4) :: (P, penO2 l k2 c t2 tc n) :: (171, tabObj ps5) :: (L' + 1 + 1, oN) :: (L' + 1 + 1 + 1, oD) :: (L' + 1 + 1 + 1 + 1, oS) :: codes5) i s'))
                  (Walks.list rfl I W (Nat.ne_of_lt hlt) ws.toArray) ?_ (fun i v s' Q' _ st h => letGo_listiter st.1 h) ?_ ?_ ?_
                · intro i s' z9a
                  refine cps fun G7 r7 => ?_
                  obtain ⟨ps5, codes5, oN, v0, oI, K5, ap5, cd5, eN5, c5, d5, g5, h5, tk5, m5, rfl, F5, N5, _⟩ := z9a
                  refine r7 ?_
                  clear r7 G7
                  exact ⟨⟨oI, (N5 _ (.head _)).1, c5, d5⟩, News.isList N5 (.tail _ (.head _))⟩
                · intro i s' v h₁ tk₁ hi2 z9a hP st hk5
                  refine cps fun G7 r7 => ?_
                  obtain ⟨ps5, codes5, oN, v0, oI, K5, ap5, cd5, eN5, c5, d5, g5, h5, tk5, m5, rfl, F5, N5, B5, X5, T5, hl5, tn5, -⟩ := z9a
                  refine r7 ?_
                  clear r7 G7
                  refine cps fun G9 r9 => ?_
                  obtain ⟨x, tx, e1, e2⟩ := bys_at i hbw (by simpa using hi2)
                  have e2' : v = .bytes x.toArray tx := by
                    have : ws[i]? = some v := by simpa using hP
                    rw [e2] at this; exact (Option.some.inj this).symm
                  subst e2'
                  obtain ⟨hx3, hxr⟩ := hxx x (List.mem_of_getElem? e1)
                  obtain ⟨oI', eI', cI', dI'⟩ := st.1
                  refine r9 ?_
                  clear r9 G9
                  have nI := N5 _ (.head _)
                  have F6 := fr_but F5 hk5 (Ne.symm nI.2.1) nI.2.2
                  have apI := ap5.ne (d := I) (by k_mem)
                  have N6 : News g5 L' h₁ ((I, oI') :: (W, listOf ws.toArray nW) :: (D, lst ys) :: (L' + 1, o4) :: (P, penO2 l k2 c t2 tc n) :: (171, tabObj ps5) :: (L' + 1 + 1, oN) :: (L' + 1 + 1 + 1, oD) :: (L' + 1 + 1 + 1 + 1, oS) :: codes5) := News.cons (fun q hq => by rw [List.mem_singleton.mp hq]; exact ⟨eI', nI.2⟩) (news_but (fun q hq => N5 q (.tail _ hq)) hk5 (by first | k_all | fail))
                  · clear N5 F5 hk5 st
                    have C5 := code174 X5
                    refine wpN_any (wpAny_assign_Name ?_)
                    walk_at "mine steps"
                    unfold Halt
                    (try dsimp only)
                    have N8 := ‹News _ L' _ (_ :: _)›
                    have lam := ‹LamAt _ _ _ _ _ _ _›
                    have K8 := ‹TabC _ _ _›
                    with_unfolding_all refine' told_law (s := ⟨_, _, _, _, _⟩) (l := l) (its := vs.toArray) N8 ?F B5 X5 T5 XB TB rfl tn5 hl5 ?d ?u ?fn ?W ?stab ?ret
                    case F => k_asm
                    case fn => assumption
                    case W =>
                      refine' work_none ?x7 lam ?c0
                      case c0 => walk_at "mine cell"
                      case x7 => omega
                    case d => ktr_room
                    case u => ktr_units
                    case stab =>
                      intro h1 h2 v z9a k
                      refine cps fun G7 r7 => ?_
                      obtain ⟨D, us, gs, n, q1, q2, q3, q4⟩ := z9a
                      refine r7 ?_
                      clear r7 G7
                      exact ⟨D, us, gs, n, q1, k.all _ _ q2, q3, q4⟩
                    case ret =>
                      intro r6 h6 tk6 g6 F6 B6 X6 T6 N6 hl6 tn6 ot6 tl6
                      clear N8 lam ot6
                      rw [hxr] at tl6
                      refine cps fun G9 r9 => ?_
                      obtain ⟨T2, rfl, ht⟩ := tl6
                      refine r9 ?_
                      clear r9 G9
                      refine cps fun G8 r8 => ?_
                      rcases ht with ⟨v2, t2, eT2, D2', us, gs, n', rfl, _, _, e5⟩ | ⟨_, t6, t6', eT2, hb2⟩
                      · refine r8 ?_
                        clear r8 G8
                        exact nomatch e5
                      · refine r8 ?_
                        clear r8 G8
                        refine cps fun G9 r9 => ?_
                        obtain ⟨rfl, _⟩ := hb2
                        refine r9 ?_
                        clear r9 G9
                        have N7 := News.cons eT2 N6
                        clear N6
                        walk_at "mine steps"
                        unfold Halt
                        have N10 := ‹News g6 L' _ (_ :: _)›
                        refine told_ne (n := 0) (N10 _ (.tail _ (.head _))).1 (N10 _ (.head _)).1 sm_int (by ktr_units) ?_
                        have N11 := News.sub N10 (fun q hq => List.Mem.tail _ (.tail _ hq))
                        clear N10
                        walk_at "mine steps"
                        refine' halt' ⟨_, _, _, _, oI', K8, ?ap9, ?cd9, ?dn9, cI', dI', g6, _, _, _, rfl, ?f9, ?N9, B6, X6, T6, hl6, tn6, trivial⟩
                        case f9 => assumption
                        case N9 => walk_at "mine pick"
                        case ap9 => assumption
                        case cd9 => assumption
                        case dn9 => assumption
                · intro s' h₁ tk₁ z9a hk5
                  refine cps fun G7 r7 => ?_
                  obtain ⟨ps5, codes5, oN, v0, oI, K5, ap5, cd5, eN5, c5, d5, g5, h5, tk5, m5, rfl, F5, N5, B5, X5, T5, hl5, tn5, -⟩ := z9a
                  refine r7 ?_
                  clear r7 G7
                  have nI := N5 _ (.head _)
                  exact halt' ⟨ps5, codes5, oN, v0, K5, ap5.sub (fun a ha => List.mem_append_left [I] ha), cd5, eN5, g5, h₁, tk₁, m5, rfl, fr_but F5 hk5 (Ne.symm nI.2.1) nI.2.2, news_but (fun q hq => N5 q (.tail _ (.tail _ hq))) hk5 (by first | k_all | fail), B5, X5, T5, hl5, tn5, trivial⟩
                · have hcI : ∀ q ∈ codes, q.1 ≠ I := fun q hq => Nat.ne_of_lt (hIn q (.tail _ (.tail _ (.tail _ (.tail _ (.tail _ (.tail _ (.tail _ (.tail _ hq)))))))))
                  subst hI
                  exact halt' ⟨ps, codes, o3, none, { cls := .type "list_iterator", data := .fields #[.ref W, .int 0 0] }, K, apc.add hcI, hcds, d3, rfl, rfl, g4, _, _, m4, rfl, F4.push _,
                    News.cons (fun q hq => by rw [List.mem_singleton.mp hq]; exact ⟨Heap.get?_push_size _ rfl, fun z => hIL z.symm, hI₀⟩) (fun q hq => ⟨Heap.get?_push_of_some _ (N4 q hq).1, (N4 q hq).2⟩), B4, X4, T4, hl4, tn4, trivial⟩
              · clear F4 N4 B4 X4 T4 hl4 tn4 hm4 hxx hbw hnx
                intro s' z9a
                refine cps fun G7 r7 => ?_
                obtain ⟨ps5, codes5, oN, v0, K5, ap5, cd5, eN5, g5, h5, tk5, m5, rfl, F5, N5, B5, X5, T5, hl5, tn5, -⟩ := z9a
                refine r7 ?_
                clear r7 G7
                have C5 := code174 X5
                walk_at "mine steps"
                unfold Halt
                (try dsimp only)
                (walk_at "mine shade"; rename_i f9 ps9 codes9 h9 tk9 F8 K8 ap9 cds9 lt9 lam fn9 N8; walk_at "mine light")
                have lt8 := allLt_of lt9
                simp only [AllLt] at lt8
                with_unfolding_all refine' told_spec (s := ⟨_, _, _, _, _⟩) (mt := [(P, penO2 l k2 c t2 tc n)]) (mt' := fun m => ∃ t', m = [(P, penO2 l (k2 + 1) c t' tc n)]) ?W ?hmt ?hq ?stab ?fn B5 F8 ?N X5 T5 XB TB rfl ?d ?u ?ret
                case fn => assumption
                case N => exact fun q hq => N8 q (by rw [List.mem_singleton.mp hq]; k_mem)
                case hmt => rintro n' ⟨t', rfl⟩; rfl
                case hq =>
                  intro z
                  have z' : @Eq Nat f9 P := List.mem_singleton.mp z
                  omega
                case W =>
                  refine' work_many hi hn ?w1 ?w2 c0 c1 ?w3 hrd hyl ?w4 ?w5 hlP ?w6 ?w7 lam ?c0 ?c1 ?c2
                  all_goals (try exact (⟨0, 0, 0, 0⟩ : Pos))
                  case c0 => walk_at "mine cell"
                  case c1 => walk_at "mine cell"
                  case c2 => walk_at "mine cell"
                  case w1 => omega
                  case w2 => omega
                  case w3 => omega
                  case w4 => exact IsList.kept F8.keep hl5
                  case w5 => exact News.isList N8 (by k_mem)
                  case w6 => k_ne
                  case w7 => omega
                case d => ktr_room
                case u => ktr_units
                case stab => exact fun _ _ _ z _ => z.elim
                case ret =>
                  intro r6 h6 tk6 g6 F6 B6 X6 T6 nw6 pn6 ot6 tn6 tl6
                  have tl7 := tells_new F8 tn6 tl6
                  refine cps fun G9 r9 => ?_
                  obtain ⟨T2, rfl, ht⟩ := tl7
                  refine r9 ?_
                  clear r9 G9
                  refine cps fun G8 r8 => ?_
                  rcases ht with ⟨_, _, _, z⟩ | ⟨_, t6, t6', eT2, hb2⟩
                  · refine r8 ?_
                    clear r8 G8
                    exact z.elim
                  · refine r8 ?_
                    clear r8 G8
                    subst hb2
                    refine cps fun G9 r9 => ?_
                    obtain ⟨n', ⟨t7, rfl⟩, N6⟩ := pn6
                    refine r9 ?_
                    clear r9 G9
                    have N7 : News g6 L' h6 ((171, tabObj ps9) :: codes9) := nw6 _ (by walk_at "mine pick") (fun q hq z => by
                      rw [List.map_singleton, List.mem_singleton] at z
                      rcases List.mem_cons.mp hq with rfl | hq
                      · exact hPT z.symm
                      · exact ap9.ne (.head _) q hq z)
                    have N9 := News.cons eT2 (News.cons N6 N7)
                    clear N8 N6 N7 nw6 ot6
                    walk_at "mine steps"
                    unfold Halt
                    have N10 := ‹News g6 L' _ (_ :: _)›
                    refine told_eq (n := 0) (N10 _ (.tail _ (.head _))).1 (N10 _ (.head _)).1 sm_int (by ktr_units) ?_
                    dsimp only
                    exact fin _ _ g6 _ (k2 + 1) t7 _ _ (by assumption) (tn5.trans tn6) (News.sub N10 (fun q hq => .tail _ (.tail _ hq))) (by omega) (by omega) K8 cds9
end
theorem words79 : True := by
  k_with_none
  (k_with "mine shade" => (have wN := trivial; have wF := trivial; have wl := trivial; have wk := trivial; have wq := trivial; have wr := trivial; have wX := trivial; have we := trivial; have wt := trivial; have wh := trivial; have wf := trivial; have wo := trivial; have wb := trivial; have wp := trivial; have wx := trivial; have wy := trivial; have wz := trivial; have wv := trivial; have wM := trivial; have wO := trivial; have wY := trivial))
  (k_with "mine light" => (clear wN wF wl wk wq wr wX we wt wh wf wo wb wp wx wy wz wv wM wO wY))
  (k_with "mine room" => (first | assumption | exact room1 (by assumption) (by decide) | exact room2 (by assumption) (by decide) | exact room3 (by assumption) (by decide) | exact room0 (by assumption)))
  (k_with "mine ktr_room" => ((try simp +zetaDelta only [depth_under_make, depth_under_kw, depth_in1, depth_deeper, depth_caller]); (try dsimp +zetaDelta only [ktrTop]); k_extra "mine room"))
  (k_with "mine ktr_units" => ((try simp +zetaDelta only [units_in1, units_deeper, Around.mark_units, units_caller]); (try dsimp +zetaDelta only [ktrTop]); k_extra "mine room"))
  (k_with "mine lt" => (first | assumption | exact Nat.lt_succ_self _ | exact sl2 | exact sl3 | exact sl4 | exact Nat.lt_succ_of_lt (by assumption) | exact lt2 (by assumption) | exact lt3 (by assumption) | exact lt4 (by assumption) | exact Nat.lt_add_right _ (by assumption) | exact Nat.lt_add_of_pos_right (by decide) | exact Nat.add_lt_add_left (by decide) _ | exact allLt_get (by assumption) (by k_dflt k_mem)))
  (k_with "mine ne" => with_reducible (first | assumption | exact Ne.symm (by assumption) | exact Nat.ne_of_lt (by k_extra "mine lt") | exact Nat.ne_of_gt (by k_extra "mine lt")))
  (k_with "mine small" => (first | (show @LT.lt Nat _ _ _; k_extra "mine lt") | (show @Ne Nat _ _; k_extra "mine ne") | (show @LE.le Int _ 0 _; first | exact i0_1 (by assumption) | exact i0_2 (by assumption) | exact i0_3 (by assumption) | exact i0_l (by assumption) (by decide)) | (show @LT.lt Int _ _ _; first | exact lk1 (by assumption) (by decide) | exact lk2 (by assumption) (by decide) | exact lk3 (by assumption) (by decide)) | (show @LE.le Int _ _ _; first | exact Int.le_refl _ | exact ilt_le (by assumption) (by decide) | exact ile_0 (by assumption) (by decide)) | (show False; refine absurd (by assumption : @Eq Nat _ _) ?_; k_extra "mine ne")))
  (k_with "mine omega" => (first | assumption | decide | exact Nat.le_trans (by assumption) (by decide) | exact Nat.lt_of_le_of_lt (by assumption) (by decide) | exact Int.lt_of_lt_of_le (by assumption) (by decide) | with_reducible (k_extra "mine small") | omega (config := {})))
  (k_with "mine k_ne" => (first | k_extra "mine ne" | (refine neN ?_; (try dsimp only); first | k_extra "mine ne" | omega (config := {}))))
  (k_with "mine enter" => (refine enter_raw (h := ?_); k_whole; intro _ _ _ _ _ _ _ _ _ _ _; (try dsimp only); (try k_fold); (refine any_letA ?_; intro envW aroundW)))
  (k_with "mine enterN" => (refine enterN_raw (h := ?_); k_whole; intro _ _ _ _ _ _ _ _ _ _ _; (try dsimp only); (refine n_letA ?_; intro envW aroundW)))
  (k_with "mine nstep" => (
  (with_reducible show wpN _ _ _ _ _ _);
  first
  | with_reducible refine n_execs_nil ?_
  | (with_reducible refine n_execs_let ?_; intro _ _)
  | with_reducible refine n_Return ?_
  | with_reducible refine n_If ?_
  | with_reducible refine n_Assign ?_ (by k_dflt rfl)
  | with_reducible refine n_BinOp ?_
  | with_reducible refine n_Compare ?_ (by with_unfolding_all rfl)
  
  | with_reducible refine n_isTrue_not ?_
  | with_reducible refine n_isTrue_or_nil ?_
  | with_reducible refine n_isTrue_or ?_
  | with_reducible refine n_And2 ?_
  | with_reducible refine n_Call_Name ?_
  | with_reducible refine n_Subscript ?_
  | with_reducible refine n_args_nil ?_
  | with_reducible refine n_args_cons ?_ (by k_dflt rfl)
  | with_reducible refine n_spliced_nil ?_
  | with_reducible refine n_callWith_type ?_ (by k_dflt rfl) (by k_dflt rfl)
  | (with_reducible refine n_callWith_K (by k_asm) (by k_is) ?_ (by k_dflt rfl) (by k_dflt rfl); k_whole)
  | k_extra "mine ncall"
  | with_reducible refine n_isTrue ?_ (by k_dflt rfl)
  | (with_reducible refine wpN_any ?_; (try k_fold))))
  (k_with "mine steps" => repeat' (first
  | k_extra "mine nstep"
  | (k_unfold; (try dsimp only))
  | walk1
  | (dsimp only; (first | k_extra "mine nstep" | walk1))
  | (leave1; (try dsimp only))
  | fail "no step"))
  (k_with "binaryOp Add bytes bytes" => ((with_reducible show wpAny _ _ (binaryOp Operator.Add (Value.bytes (List.toArray _) _) (Value.bytes (List.toArray _) _)) _ _ _); (refine by_add (by ((try simp only [List.length_cons, List.length_nil]); omega)) ?_); intro _ _ _ _ wl; (try simp only [List.length_cons, List.length_nil] at wl)))
  (k_with "call builtin:len" => ((with_reducible show wpAny _ _ (call (Value.builtin "len") [Value.bytes (List.toArray _) _]) _ _ _); (refine by_len (by ((try simp only [List.length_cons, List.length_nil]); omega)) ?_); intro _ _))
  (k_with "compareOp Eq bytes bytes" => ((with_reducible show wpAny _ _ (compareOp CmpOp.Eq (Value.bytes (List.toArray _) _) (Value.bytes (List.toArray _) _)) _ _ _); (refine by_eq ?_)))
  (k_with "compareOp NotEq bytes bytes" => ((with_reducible show wpAny _ _ (compareOp CmpOp.NotEq (Value.bytes (List.toArray _) _) (Value.bytes (List.toArray _) _)) _ _ _); (refine by_ne ?_)))
  (k_with "subscriptTail" => ((with_reducible show wpAny _ _ (subscriptTail _ _ (Value.bytes (List.toArray _) _) (Value.int _ _)) _ _ _); (refine by_item (by omega) (by omega) (by omega) ?_ (by with_unfolding_all rfl) (by intro _; with_unfolding_all rfl)); intro _ _))
  (k_with "subscriptTail" => ((with_reducible show wpAny _ _ (subscriptTail _ (Expr.Slice _ _ none _) (Value.bytes (List.toArray _) _) (Value.ref _)) _ _ _); (with_reducible rename Fr _ _ _ _ => wF); (with_reducible rename News _ _ _ _ => wN); (refine by_slice (s := ⟨_, _, _, _, _⟩) wF wN (by constructor) (by constructor) (by omega) ?_ (by with_unfolding_all rfl) (by intro _; with_unfolding_all rfl)); intro _ _ _ _ _ _ _ _))
  (k_with "exec For Name Subscript cons nil" => (k_here; (rename Fr _ _ _ _ => wF); (with_unfolding_all refine For_invVF wF (by exact rfl) (by exact rfl) ?_; k_whole)))
  (k_with "getMethod type:Exception" => (k_here; refine method_type (by k_asm) (by k_asm) (by exact meta_exception) (by decide +kernel) (by k_dflt k_is) (by k_handed) ?_))
  (k_with "call builtin:Exception.__init__" => (k_here; (refine q_xinitD (by k_asm) (by k_asm) (by k_asm) (by k_updF) ?_; k_whole); intro _ _ _ wN; (try dsimp only at wN); (try k_sweep)))
  (k_with "setAttr ref" => (k_here; first
  | ((refine q_put0D (by k_asm) (by k_asm) (by k_asm) (by k_updF) (by first | exact q_taker_code _ | exact q_taker_ft _ | exact q_taker_text _) ?_; k_whole); intro _ _ _ _ wl _ wN; (try dsimp only at wN); (try k_lt wl); (try k_sweep))
  | ((refine q_putD (by k_asm) (by k_asm) (by k_asm) (by k_mem) (by k_updF) (by first | exact q_taker_code _ | exact q_taker_ft _ | exact q_taker_text _) (by with_unfolding_all rfl) (by intro _ _; exact Nat.le_of_ble_eq_true (by with_unfolding_all rfl)) ?_; k_whole); intro _ _ _ _ wN; (try dsimp only at wN); (try k_sweep))))
  (k_with "binaryOp Add str str" => ((with_reducible show wpAny _ _ (binaryOp Operator.Add (Value.str _ _) (Value.str _ _)) _ _ _); (refine PyProof.Rows.add_str ?_ (by assumption)); intro _ _))
  (k_with "call ref" => (
  (with_reducible show wpAny _ _ (call (Value.ref 31) _ _) _ _ _);
  (refine q_new (by assumption) (by omega) (by omega) (by k_asm) (by k_asm) (by k_asm) (by k_asm) (by first | exact rfl | assumption) (by ktr_room) (by ktr_units) ?_); k_whole;
  intro _ _ _ _ _))
  (k_with "call ref" => (
  (with_reducible show wpAny _ _ (call (Value.ref 75) _ _) _ _ _);
  (first | refine CtrA.use (tls50 (by decide +kernel)) (ret := ?_) | refine CtrA.use (tls120 (by decide +kernel)) (ret := ?_)); k_whole;
  intro _ wh _ wk wq; have wr := wq; refine cps fun G6 r6 => ?_; obtain ⟨_, _, _, _, wt, _, _, _, _⟩ := wr; subst wt; refine r6 ?_; clear r6 G6; have wX : Frag.In _ wh := Frag.In.keeps (Frag.In.keeps (by k_asm) (Fr.keep (by k_asm))) wk.all; (try dsimp only)))
  (k_with "call ref" => (
  (with_reducible show wpAny _ _ (call (Value.ref 68) _ _) _ _ _);
  (refine CtrA.use (get_spec (by omega) (by omega) (by omega) (by omega)) (ret := ?_)); k_whole;
  intro _ _ _ wk wq; obtain ⟨_, we⟩ := wq; subst we; have wF := fr_kept0 (by k_asm) wk; have wN := news_kept0 (by k_asm) wk; clear wk; (try dsimp only); k_sweep))
  (k_with "exec Raise some none" => (k_here; refine q_Raise rfl ?_))
  (k_with "call builtin:list.append" => (k_here; (with_reducible show wpAny _ _ (call (Value.builtin _) [Value.ref _, _]) _ _ _); k_dflt (refine append_K (by k_asm) (by k_asm) (by k_upd) ?_ (by (rw [List.size_toArray, sizeLine_eq]; omega)); k_whole); intro _ _ _; (try k_sweep)))
  (k_with "call builtin:len" => (k_here; (with_reducible show wpAny _ _ (call (Value.builtin "len") [Value.ref _]) _ _ _); (refine len_newsL (by k_asm) (by k_mem) (by omega) ?_; k_whole); intro _ _))
  (k_with "exec While Compare" => (k_here; refine halt ?_))
  (k_with "call builtin:list.append" => (k_here; (with_reducible show wpAny _ _ (call (Value.builtin _) [Value.ref _, _]) _ _ _); (refine append_K (by k_asm) (by k_asm) (Upd.tail (by exact Nat.ne_of_gt (‹_ ∧ AllLt _ _›).1) (Upd.head (by assumption))) ?_ (by (rw [List.size_toArray, sizeLine_eq]; omega)); k_whole); intro _ _ _; (try k_sweep)))
  (k_with "call ref" => (
  (with_reducible show wpAny _ _ (call (Value.ref 103) _ _) _ _ _);
  (first
    | refine CtrE.use (fields_many (by omega)) (ret := ?_) (err := ?_)
    | refine CtrE.use (fields_none (by omega)) (ret := ?_) (err := ?_)); k_whole;
  (focus (
    (intro _ _ _ wk wp); (refine cps fun G6 r6 => ?_); (obtain ⟨_, _, _, _, we, wf, wo, wb, wr, wl⟩ := wp); (subst we);
    (first
      | (have wq := bys3 wb wl; obtain ⟨_, _, _, _, _, _, we, wv⟩ := wq; subst we; subst wv; have wx := rd_le wr _ (.head _); have wy := rd_le wr _ (.tail _ (.head _)); have wz := rd_le wr _ (.tail _ (.tail _ (.head _))))
      | (have wq := bys2 wb wl; obtain ⟨_, _, _, _, we, wv⟩ := wq; subst we; subst wv; have wx := rd_le wr _ (.head _); have wy := rd_le wr _ (.tail _ (.head _)))
      | (have wq := bys1 wb wl; obtain ⟨_, _, we, wv⟩ := wq; subst we; subst wv; have wx := rd_le wr _ (.head _))
      | skip);
    (refine r6 ?_); (clear r6 G6);
    (have wF := fr_kept0 (by k_asm) wk); (have wN := news_addN (by k_asm) (news_kept0 (by k_asm) wk) wf wo); (clear wk); (try dsimp only); k_sweep))))
  (k_with "setItem ref int" => (k_here; (refine baset_K (by k_asm) (by k_asm) (by k_updF) (by omega) (by first | decide | (simp only [Array.size_setIfInBounds, Array.size_replicate]; decide) | omega) (by first | decide | (simp only [Array.size_setIfInBounds, Array.size_replicate]; decide) | omega) (by first | exact Int.fmod_nonneg_of_pos _ (by decide) | omega) (by first | exact Int.fmod_lt_of_pos _ (by decide) | omega) ?_; k_whole); intro _ _ wN; (try dsimp only at wN); (try k_sweep)))
  (k_with "call type:bytes" => (k_here; (refine babytes_K (by k_asm) (by k_mem) (by first | decide | (simp only [Array.size_setIfInBounds, Array.size_replicate]; decide) | omega) ?_; k_whole); intro _ _))
  (k_with "mine ncall" => ((refine n_bytearrayD rfl ?_ ?_ ?_); (focus first | decide | omega); (focus first | decide | omega); (intro _ _ wx wk wb; have wF := fr_kept0 (by k_asm) wk; have wN := news_add (by k_asm) (news_kept0 (by k_asm) wk) wx wb; clear wx wk wb; k_sweep)))
  (k_with "mine ncall" => ((with_reducible show wpN _ _ (call (Value.ref 61) _ _) _ _ _); (first | refine CtrN.use (put1_spec (by first | decide | omega) (by first | decide | omega)) (ret := ?_) | refine CtrN.use (put2_spec (by first | decide | omega) (by first | decide | omega)) (ret := ?_) | refine CtrN.use (put3_spec (by first | decide | omega) (by first | decide | omega)) (ret := ?_)); k_whole; intro _ _ _ wk wp; obtain ⟨_, we⟩ := wp; subst we; have wF := fr_kept0 (by k_asm) wk; have wN := news_kept0 (by k_asm) wk; clear wk; (try dsimp only); k_sweep))
  (k_with "mine enterNC" => (refine enterNC_raw (h := ?_); k_whole; intro _ _ _ _ _ _ wN wY _ _ _ _ _ wl; (try k_lt wl); refine cps fun G6 r6 => ?_; k_cells wY; refine r6 ?_; clear r6 G6; (try simp only [List.cons_append, List.nil_append] at wN); (try dsimp only); (refine n_letA ?_; intro envW aroundW)))
  (k_with "mine nstep" => ((with_reducible show wpN _ _ _ _ _ _); first
  | with_reducible refine n_Tuple ?_
  | (refine n_callWith_F0 (by assumption) ?_)))
  (k_with "newTuple" => ((refine newTupleR (Nat.le_of_ble_eq_true rfl) ?_); intro _ _ wx wk wb; have wF := fr_kept0 (by k_asm) wk; have wN := news_addN (by k_asm) (news_kept0 (by k_asm) wk) wx wb; (try dsimp only)))
  (k_with "mine ncall" => ((with_reducible show wpN _ _ (call (Value.ref _) ([] ++ [])) _ _ _); refine halt ?_))
  (k_with "getMethod bytes" => (with_reducible refine bj_method ?_))
  (k_with "mine nstep" => ((with_reducible show wpN _ _ _ _ _ _); first
  | (refine n_callWith_builtin ?_ (by rfl) (by rfl))))
  (k_with "eval Name" => ((with_reducible show wpAny _ _ (eval (Expr.Name _ _) (compEnvC _ _ _ _)) _ _ _); (refine nameC_loc (by k_asm) (by k_mem) (by assumption) (by rfl) ?_ (by rfl) (by rfl); k_whole)))
  (k_with "mine oct" => (k_whole; (intro _ _ _ wk wp); (refine cps fun G6 r6 => ?_); (obtain ⟨_, _, we, _, _⟩ := wp); (subst we); (refine r6 ?_); (clear r6 G6); (have wF := fr_kept0 (by k_asm) wk); (have wN := news_kept0 (by k_asm) wk); (clear wk); (try dsimp only); k_sweep))
  (k_with "mine ncall" => ((with_reducible show wpN _ _ (call (Value.ref 96) _ _) _ _ _); (refine CtrN.use (field_spec (by omega)) (ret := ?_)); k_extra "mine oct"))
  (k_with "mine ncall" => ((with_reducible show wpN _ _ (call (Value.ref 82) _ _) _ _ _); (refine CtrN.use (message_spec (by omega) (by omega) (by omega)) (ret := ?_)); k_extra "mine oct"))
  (k_with "mine ncall" => ((with_reducible show wpN _ _ (call (Value.builtin "bytes.join") _ _) _ _ _); refine halt ?_))
  (k_with "mine nstep" => ((with_reducible show wpN _ _ _ _ _ _); first
  | ((with_reducible show wpN _ _ (eval (PySem.Expr.ListComp _ _ _ _) _) _ _ _); refine halt ?_)
  | (with_reducible refine n_methodCall ?_ (by k_dflt rfl); k_whole)))
  (k_with "mine nstep" => ((with_reducible show wpN _ _ (exec (Stmt.For _ _ _ _ _) _) _ _ _); refine halt ?_))
  (k_with "compareOp In bytes ref" => ((with_reducible show wpAny _ _ (compareOp CmpOp.In (Value.bytes (List.toArray _) _) (Value.ref _)) _ _ _); refine halt ?_))
  (k_with "eval Name" => ((with_reducible show wpAny _ _ (eval (Expr.Name _ _) (envX _ _ _ _ _ _)) _ _ _); (refine nameG_free (by k_asm) (by assumption) (by assumption) (by assumption) ?_ (by rfl) (by rfl); k_whole)))
  (k_with "mine ncall" => ((with_reducible show wpN _ _ (call (Value.ref 150) _ _) _ _ _); refine halt ?_))
  (k_with "mine ncall" => ((with_reducible show wpN _ _ (call (Value.ref 89) _ _) _ _ _); refine halt ?_))
  (k_with "mine ncall" => ((with_reducible show wpN _ _ (call (Value.ref 103) _ _) _ _ _); refine halt ?_))
  (k_with "mine ncall" => ((with_reducible show wpN _ _ (call (Value.ref 115) _ _) _ _ _); refine halt ?_))
  (k_with "mine ncall" => ((with_reducible show wpN _ _ (call (Value.ref 129) _ _) _ _ _); refine halt ?_))
  (k_with "mine ncall" => ((with_reducible show wpN _ _ (call (Value.ref 143) _ _) _ _ _); refine halt ?_))
  (k_with "mine ncall" => ((with_reducible show wpN _ _ (call (Value.ref 122) _ _) _ _ _); (refine CtrN.use (shello_spec (by omega)) (ret := ?_)); k_extra "mine oct"))
  (k_with "mine ncall" => ((with_reducible show wpN _ _ (call (Value.ref 108) _ _) _ _ _); (refine CtrN.use (chello_spec (by assumption) (by omega) (by omega) (by assumption) (by omega)) (ret := ?_)); k_extra "mine oct"))
  (k_with "call ref" => (
  (with_reducible show wpAny _ _ (call (Value.ref 157) _ _) _ _ _);
  k_dflt (refine next_K (h := ?_)); k_whole;
  intro _ _ _ _ _ _ wN _ _; (try dsimp only at wN); (try dsimp only); k_sweep))
  (k_with "call builtin:len" => (k_here; (with_reducible show wpAny _ _ (call (Value.builtin "len") [Value.ref _]) _ _ _); (refine lenG (by k_asm) (by assumption) (by omega) ?_; k_whole); intro _ _))
  (k_with "call ref" => ((with_reducible show wpAny _ _ (call (Value.ref 157) _ _) _ _ _); refine halt ?_))
  (k_with "mine ncall" => ((with_reducible show wpN _ _ (call _ ([] ++ _) _) _ _ _); simp only [List.nil_append]))
  (k_with "mine k_all" => (refine Apart.ne (by assumption) (by with_unfolding_all (repeat (first | exact List.Mem.head _ | refine List.Mem.tail _ ?_)))))
  (k_with "newTuple" => ((with_unfolding_all refine newTupleL (by k_asm) (by k_asm) (by exact (Nat.le_of_ble_eq_true rfl)) ?_); k_whole; intro _ _ _ wN wl; (try dsimp only at wN); (try k_lt wl); (try k_sweep)))
  (k_with "call ref" => (
  (with_reducible show wpAny _ _ (call (Value.ref 157) _ _) _ _ _);
  k_dflt (refine next_K (h := ?_)); k_whole;
  intro _ _ _ _ _ _ wN _ _; (try dsimp only at wN); (try dsimp only); k_sweep))
  (k_with "eval Lambda" => (
  k_dflt (refine mk_lam2 (h := ?_)); k_whole;
  intro _ _ _ _ _ _ wN wM _ _ _ _ _ _; (try dsimp only at wN);
  have wO := News.mg wN wM (by k_dflt (repeat (first | with_reducible exact Mg.nil | apply Mg.cons)));
  clear wN wM; (try k_sweep)))
  (k_with "mine nstep" => (
  (with_reducible show wpN _ _ (eval _ _) _ _ _);
  first
  | ((with_reducible show wpN _ _ (eval (PySem.Expr.Name _ _) _) _ _ _); with_reducible refine wpN_any ?_; (try k_fold))
  | ((with_reducible show wpN _ _ (eval (PySem.Expr.Constant _ _ _) _) _ _ _); with_reducible refine wpN_any ?_; (try k_fold))
  | ((with_reducible show wpN _ _ (eval (PySem.Expr.Lambda _ _ _ _) _) _ _ _); with_reducible refine wpN_any ?_; (try k_fold))
  | ((with_reducible show wpN _ _ (eval (PySem.Expr.List _ _) _) _ _ _); with_reducible refine wpN_any ?_; (try k_fold))))
  (k_with "mine nstep" => (
  (with_reducible show wpN _ _ _ _ _ _);
  first
  | with_reducible refine n_execs_nil ?_
  | (with_reducible refine n_execs_let ?_; intro _ _)
  | with_reducible refine n_Return ?_
  | with_reducible refine n_If ?_
  
  | with_reducible refine n_BinOp ?_
  | with_reducible refine n_Compare ?_ (by with_unfolding_all rfl)
  | with_reducible refine n_Tuple ?_
  | with_reducible refine n_isTrue_not ?_
  | with_reducible refine n_isTrue_or_nil ?_
  | with_reducible refine n_isTrue_or ?_
  | with_reducible refine n_And2 ?_
  | with_reducible refine n_Call_Name ?_
  | with_reducible refine n_Subscript ?_
  | with_reducible refine n_args_nil ?_
  | with_reducible refine n_args_cons ?_ (by k_dflt rfl)
  | with_reducible refine n_spliced_nil ?_
  | with_reducible refine n_callWith_type ?_ (by k_dflt rfl) (by k_dflt rfl)
  | (with_reducible refine n_callWith_K (by k_asm) (by k_is) ?_ (by k_dflt rfl) (by k_dflt rfl); k_whole)
  | ((with_reducible show wpN _ _ (call _ _ _) _ _ _); k_extra "mine ncall")))
  (k_with "mine nstep" => ((with_reducible show wpN _ _ (isTrue (PySem.Expr.Compare _ _ _ _) _ _) _ _ _); (with_reducible refine n_isTrue_Compare1 ?_ (by with_unfolding_all rfl))))
  (k_with "mine ncall" => ((with_reducible show wpN _ _ (call (Value.ref 164) _ _) _ _ _); refine halt ?_))
  (k_with "call type:bytes" => ((with_reducible show wpAny _ _ (call (Value.type "bytes") [Value.ref _]) _ _ _); (first | refine bytes_rep (h := ?_) | k_dflt (refine bytes_two (h := ?_)) | k_dflt (refine bytes_four (h := ?_))); k_whole; intro _ _ _ _ _ _ _ _; (try dsimp only); k_sweep))
  (k_with "eval Name" => ((with_reducible show wpAny _ _ (eval (Expr.Name _ _) (compEnvC _ _ _ _)) _ _ _); (k_dflt (refine nameC_cell (by k_asm) (by first | assumption | rfl) (by k_mem) (by assumption) ?_ (by rfl) (by first | assumption | rfl); k_whole))))
  (k_with "mine cell" => (refine CellAt.of (by k_asm) (by exact rfl) (by k_mem) (by assumption)))
  (k_with "mine pick" => ((repeat (refine' News.pick (news := _) (by assumption) (by k_mem) ?_)); (refine' News.sub (by assumption) ?_); intro _ wq; (repeat (first | exact wq | refine List.Mem.tail _ ?_))))
  (k_with "mine ncall" => ((with_reducible show wpN _ _ (call (Value.ref 136) _ _) _ _ _); (refine CtrN.use (ext_spec (by omega) (by omega)) (ret := ?_)); k_extra "mine oct"))
  (k_with "compareOp Eq ref ref" => ((with_reducible show wpAny _ _ (compareOp CmpOp.Eq (Value.ref _) (Value.ref _)) _ _ _); refine halt ?_))
  (k_with "compareOp NotEq bytes bytes" => (with_reducible refine by_ne_same ?_))
  (k_with "compareOp NotEq ref ref" => ((with_reducible show wpAny _ _ (compareOp CmpOp.NotEq (Value.ref _) (Value.ref _)) _ _ _); refine halt ?_))
  trivial
theorem off_LH : True := by
  w_top off
  trivial
noncomputable abbrev scI (mo : List (Str × Const)) : Scope := { kind := .function, names := [(Str.ofString ".0", .local), (Str.ofString "turn", .local), (Str.ofString "_law_next", .globalImplicit), (Str.ofString "names", .free), (Str.ofString "pen", .free)], isGenerator := false, isCoroutine := false, more := mo }
/-- the four names -/
noncomputable abbrev nmO (ta tb tc td : Tok) (n : Nat) : Obj := listOf #[.bytes #[104, 51] ta, .bytes #[104] tb, .bytes #[104, 51, 51] tc, .bytes #[] td] n
set_option maxHeartbeats 4000000 in
theorem comp_names {prog : Program} {w : World} {iter : PySem.Expr} {p0 p1 p2 p3 p4 p5 q1 : Pos} {mo : List (Str × Const)} {pos : Pos} {vs : List Value} {ns : List Int} {scO : Scope} {clO clI : List (Str × Addr)} {C1 : Addr}
    {dp un : Nat} {cn : Str} {cs : Scope} {a : Addr} {ccd : Value} {cl : List (Str × Addr)} {outer : List Env} {A₀ : Around} {base h₀ : Heap} {L P l c c2 Nm : Addr} {oc oc2 : Obj} {k cc : Int} {tk tc ta tb td te : Tok} {n0 nn : Nat} {m : Str → Option Value} {s : Shared}
    {p : Program} {loose : List Str} {mean : ExcName → Option Value} {mg mb : Str → Option Value} {Q : Value → Shared → Prop} {tl : List (Addr × Obj)}
    (hi : IntsAre vs ns) (hn : ns.length ≤ 63) (k0 : 0 ≤ k) (k1 : k < 9500) (cc0 : 0 ≤ cc) (cc1 : cc < 997)
    (B : Below A₀ base outer h₀) (X : (hd.heap_1 w.params).In h₀) (T : Top p loose mean mg mb h₀) (hk : cs.kind = .function) (hdp : dp + 10 < recursionLimit) (hu : un + 40 < cLine)
    (F : Fr h₀ L s.heap m) (N : News h₀ L s.heap ((c, oc) :: (P, penO2 l k cc tk tc n0) :: (c2, oc2) :: (Nm, nmO ta tb td te nn) :: tl)) (hl : h₀.IsList l vs.toArray) (hcP : @Ne Nat c P ∧ @Ne Nat c2 P ∧ @Ne Nat Nm P) (ap : Apart [P] tl) (dc : oc.data = .cell (some (.ref P))) (dc2 : oc2.data = .cell (some (.ref Nm)))
    (hclos : closureFor (scI mo) (compEnvC scO clO C1 (envX cn cs L a ccd cl)) = pure clI) (hc1 : clI.lookup (Str.ofString "pen") = some c) (hc2 : clI.lookup (Str.ofString "names") = some c2)
    (hkp : ∀ C, (compEnvC (scI mo) clI C (compEnvC scO clO C1 (envX cn cs L a ccd cl))).kindOf (Str.ofString "pen") = some .cell) (hkn : ∀ C, (compEnvC (scI mo) clI C (compEnvC scO clO C1 (envX cn cs L a ccd cl))).kindOf (Str.ofString "names") = some .cell)
    (hit : ∀ (Q' : Value → Shared → Prop), (∀ h' tk' r b u0 u1 u2 k' t' n, Fr h₀ L h' m → News h₀ L h' ((c, oc) :: (P, penO2 l k' cc t' tc n0) :: (c2, oc2) :: (Nm, nmO ta tb td te nn) :: tl) → IsRange h' r 0 b 1 u0 u1 u2 → b = (n : Nat) → n ≤ 5 → k ≤ k' → k' ≤ k + 1 → Q' (.ref r) { s with heap := h', toks := tk' }) → wpN (model prog w) (ktrTop dp un (some []) cn cs L a ccd cl outer) (eval iter (compEnvC scO clO C1 (envX cn cs L a ccd cl))) Q' Fl s) (hs : ∀ x, foldedSetIterable iter (compEnvC scO clO C1 (envX cn cs L a ccd cl)) x = pure x)
    (fin : ∀ D h' tk' ys fs k' t', Fr h₀ L h' m → News h₀ L h' ((D, lst ys) :: (c, oc) :: (P, penO2 l k' cc t' tc n0) :: (c2, oc2) :: (Nm, nmO ta tb td te nn) :: tl) → Off1 D ((c, oc) :: (P, penO2 l k' cc t' tc n0) :: (c2, oc2) :: (Nm, nmO ta tb td te nn) :: tl) → Bys ys fs → fs.length ≤ 5 → k ≤ k' → k' ≤ k + 6 → Q (.ref D) { s with heap := h', toks := tk' }) :
    wpN (model prog w) (ktrTop dp un (some []) cn cs L a ccd cl outer) (eval (.ListComp (.Subscript (.Name (Str.ofString "names") p0) (.Call (.Name (Str.ofString "_law_next") p1) [.Name (Str.ofString "pen") p2, .Constant (Const.int 4) 0 p3] [] p4) p5)
      [⟨.Name (Str.ofString "turn") q1, iter, [], 0⟩] (scI mo) pos) (compEnvC scO clO C1 (envX cn cs L a ccd cl))) Q Fl s := by
  refine n_ListCompT hclos rfl (by show ∀ x ∈ [(Str.ofString ".0", NameKind.local), (Str.ofString "turn", .local), (Str.ofString "_law_next", .globalImplicit), (Str.ofString "names", .free), (Str.ofString "pen", .free)], x.2 = .local → List.lookup x.1 [(Str.ofString ".0", NameKind.local), (Str.ofString "turn", .local), (Str.ofString "_law_next", .globalImplicit), (Str.ofString "names", .free), (Str.ofString "pen", .free)] = some .local; decide) (hit _ fun h₁ tk₁ r b u0 u1 u2 k₁ t₁ n F₁ N₁ hr hb hn5 b0 b1 => ?_) hs
  have hh : (ktrTop dp un (some []) cn cs L a ccd cl outer).handled = none := rfl
  refine cps fun G9 r9 => ?_
  obtain ⟨n1, n2, n3⟩ := hcP
  refine r9 ?_
  clear r9 G9
  refine src_range1 (s := ⟨h₁, _, _, _, _⟩) (J := fun i ys nw => ∃ k' t' fs, nw = (c, oc) :: (P, penO2 l k' cc t' tc n0) :: (c2, oc2) :: (Nm, nmO ta tb td te nn) :: tl ∧ k₁ ≤ k' ∧ k' ≤ k₁ + i ∧ Bys ys fs ∧ fs.length = i) hh F₁ N₁ hr hb (by omega) (by show ∀ x ∈ [(Str.ofString ".0", NameKind.local), (Str.ofString "turn", .local), (Str.ofString "_law_next", .globalImplicit), (Str.ofString "names", .free), (Str.ofString "pen", .free)], x.2 ≠ .cell; decide) rfl (by with_unfolding_all rfl) ⟨k₁, t₁, [], rfl, by omega, by omega, .nil, rfl⟩ ?_ ?_
  · intro i ys v news₁ I oI C oC D mC h₂ tk₂ hi2 hy z9a z9b hoC F₂ N₂ off nIC nID nCD
    refine cps fun G7 r7 => ?_
    obtain ⟨tv, rfl⟩ := z9a
    obtain ⟨k', t', fs, rfl, b2, b3, hys, hfl⟩ := z9b
    refine r7 ?_
    clear r7 G7
    refine n_tests0 ?_
    rw [if_pos rfl]
    have off3 := off.mem
    have eP : @Ne Nat P I ∧ @Ne Nat P C ∧ @Ne Nat P D := off3 _ (.tail _ (.head _))
    have hkC := hkp C
    have hkN := hkn C
    clear N₁ F₁ hit fin hr N F
    walk_at "mine steps"
    (walk_at "mine shade"; rename_i v9 t8 t9 h9 k9 F9 N9 v09 v19; walk_at "mine light")
    have N9 := ‹News h₀ L _ (_ :: _)›
    refine cps fun G9 r9 => ?_
    obtain ⟨f, tf, e⟩ : ∃ f tf, [Value.bytes #[104, 51] ta, .bytes #[104] tb, .bytes #[104, 51, 51] td, .bytes #[] te][v9.toNat]? = some (.bytes (f : List UInt8).toArray tf) := by
      have : v9 = 0 ∨ v9 = 1 ∨ v9 = 2 ∨ v9 = 3 := by omega
      rcases this with rfl | rfl | rfl | rfl <;> exact ⟨_, _, rfl⟩
    refine r9 ?_
    clear r9 G9
    refine item_listL (s := ⟨_, _, _, _, _⟩) (l := [Value.bytes #[104, 51] ta, .bytes #[104] tb, .bytes #[104, 51, 51] td, .bytes #[] te]) (News.isList N9 (by k_mem)) (by omega) (by omega) e ?_
    exact CEnd.intro ‹Fr h₀ L _ m› N9 hoC (by exact off) ⟨k' + 1, _, fs ++ [f], rfl, by omega, by omega, hys.push, by rw [List.length_append, hfl]; rfl⟩
  · intro D C oC h₂ tk₂ ys news' c3 F' N' nCD off hyl z9a
    refine cps fun G7 r7 => ?_
    obtain ⟨k', t', fs, rfl, b2, b3, hys, hfl⟩ := z9a
    refine r7 ?_
    clear r7 G7
    refine outE (s := ⟨_, _, _, _, _⟩) c3 F' N' nCD off (fun h₃ F₃ N₃ o1 => ?_)
    exact fin D h₃ _ ys fs k' t' F₃ N₃ o1 hys (by omega) (by omega) (by omega)
theorem n_AssignT {M : Model} {A : Around} {E : Value → Shared → Prop} {s : Shared} {env : Env} {elts k tpos value pos} {Q : Flow → Shared → Prop}
    (h : wpN M A (eval value env) (fun v s₁ => wpAny M A (assign (.Tuple elts k tpos) env v) (fun _ => Q .next) E s₁) E s)
    (hs : swapsWithSole [.Tuple elts k tpos] value pos.line env = pure false := by rfl)
    (hw : swappedStores [.Tuple elts k tpos] value env = pure none := by rfl) :
    wpN M A (exec (.Assign [.Tuple elts k tpos] value pos) env) Q E s := by
  rw [exec_Assign]
  refine wpN_bind (wpN_standAt ?_)
  rw [hs]
  refine wpN_bind (wpN_pure ?_)
  rw [if_neg (by decide)]
  refine wpN_bind (wpN_mono h (fun v s₁ h₁ => ?_) fun _ _ x => x)
  rw [hw]
  refine wpN_bind (wpN_pure ?_)
  show wpN M A (do assignAll v [assign (.Tuple elts k tpos) env]; pure .next) Q E s₁
  exact wpN_bind (wpN_any (wpAny_mono h₁ (fun _ _ x => wpN_pure x) fun _ _ x => x))
noncomputable abbrev scO (mo : List (Str × Const)) : Scope := { kind := .function, names := [(Str.ofString ".0", .local), (Str.ofString "side", .local), (Str.ofString "range", .globalImplicit), (Str.ofString "_law_next", .globalImplicit), (Str.ofString "names", .free), (Str.ofString "pen", .free)], isGenerator := false, isCoroutine := false, more := mo }
/-- lists of octets, made one after the other -/
noncomputable def OL (ys : List Value) (ds : List (Addr × Obj)) : Prop := All2 (fun v d => v = .ref d.1 ∧ ∃ vs fs, d.2 = lst vs ∧ Bys vs fs ∧ fs.length ≤ 5) ys ds
theorem OL.snoc {ys : List Value} {ds : List (Addr × Obj)} {D : Addr} {vs : List Value} {fs : List (List UInt8)} (h : OL ys ds) (hb : Bys vs fs) (hl : fs.length ≤ 5) : OL (ys ++ [.ref D]) (ds ++ [(D, lst vs)]) := All2.snoc h ⟨rfl, vs, fs, rfl, hb, hl⟩
theorem OL.two {ys : List Value} {ds : List (Addr × Obj)} (h : OL ys ds) (hl : ys.length = 2) : ∃ D1 D2 vs1 fs vs2 gs, ys = [.ref D1, .ref D2] ∧ ds = [(D1, lst vs1), (D2, lst vs2)] ∧ Bys vs1 fs ∧ Bys vs2 gs ∧ fs.length ≤ 5 ∧ gs.length ≤ 5 := by
  cases h with
  | nil => cases hl
  | @cons v1 d1 _ _ r1 h =>
    cases h with
    | nil => cases hl
    | @cons v2 d2 _ _ r2 h =>
      cases h with
      | cons _ _ => simp at hl
      | nil =>
        refine cps fun G9 r9 => ?_
        obtain ⟨e1, vs1, fs, e3, hb1, hl1⟩ := r1
        obtain ⟨e2, vs2, gs, e4, hb2, hl2⟩ := r2
        refine r9 ?_
        clear r9 G9
        refine ⟨d1.1, d2.1, vs1, fs, vs2, gs, by rw [e1, e2], ?_, hb1, hb2, hl1, hl2⟩
        rw [← e3, ← e4]
theorem off1_mem {D : Addr} : ∀ {l : List (Addr × Obj)}, Off1 D l → ∀ p ∈ l, p.1 ≠ D
  | [], _, _, h => nomatch h
  | _ :: _, x, p, h => by
    rcases List.mem_cons.mp h with rfl | h
    · exact x.1
    · exact off1_mem x.2 p h
theorem off1_of {D : Addr} : ∀ {l : List (Addr × Obj)}, (∀ p ∈ l, p.1 ≠ D) → Off1 D l
  | [], _ => trivial
  | _ :: _, h => ⟨h _ (.head _), off1_of fun p hp => h p (.tail _ hp)⟩
set_option maxHeartbeats 4000000 in
theorem comp_ours {prog : Program} {w : World} {iter : PySem.Expr} {p0 p1 p2 p3 p4 p5 q1 r0 r1 r2 r3 r4 r5 pI q2 : Pos} {mo mo2 : List (Str × Const)} {pos : Pos} {vs : List Value} {ns : List Int} {clO clI : List (Str × Addr)}
    {dp un : Nat} {cn : Str} {cs : Scope} {a : Addr} {ccd : Value} {cl : List (Str × Addr)} {outer : List Env} {A₀ : Around} {base h₀ : Heap} {L P l c c2 Nm : Addr} {oc oc2 : Obj} {k cc : Int} {tk tc ta tb td te : Tok} {n0 nn : Nat} {m : Str → Option Value} {s : Shared}
    {p : Program} {loose : List Str} {mean : ExcName → Option Value} {mg mb : Str → Option Value} {Q : Value → Shared → Prop} {tl : List (Addr × Obj)}
    (hi : IntsAre vs ns) (hn : ns.length ≤ 63) (k0 : 0 ≤ k) (k1 : k < 9300) (cc0 : 0 ≤ cc) (cc1 : cc < 997)
    (B : Below A₀ base outer h₀) (X : (hd.heap_1 w.params).In h₀) (T : Top p loose mean mg mb h₀) (hk : cs.kind = .function) (hdp : dp + 10 < recursionLimit) (hu : un + 40 < cLine)
    (F : Fr h₀ L s.heap m) (N : News h₀ L s.heap ((c, oc) :: (P, penO2 l k cc tk tc n0) :: (c2, oc2) :: (Nm, nmO ta tb td te nn) :: tl)) (hl : h₀.IsList l vs.toArray) (hcP : @Ne Nat c P ∧ @Ne Nat c2 P ∧ @Ne Nat Nm P) (ap : Apart [P] tl) (dc : oc.data = .cell (some (.ref P))) (dc2 : oc2.data = .cell (some (.ref Nm)))
    (hclosO : closureFor (scO mo2) (envX cn cs L a ccd cl) = pure clO) (hO1 : clO.lookup (Str.ofString "pen") = some c) (hOp : ∀ C, (compEnvC (scO mo2) clO C (envX cn cs L a ccd cl)).kindOf (Str.ofString "pen") = some .cell)
    (hclos : ∀ C1, closureFor (scI mo) (compEnvC (scO mo2) clO C1 (envX cn cs L a ccd cl)) = pure clI) (hc1 : clI.lookup (Str.ofString "pen") = some c) (hc2 : clI.lookup (Str.ofString "names") = some c2)
    (hkp : ∀ C1 C, (compEnvC (scI mo) clI C (compEnvC (scO mo2) clO C1 (envX cn cs L a ccd cl))).kindOf (Str.ofString "pen") = some .cell) (hkn : ∀ C1 C, (compEnvC (scI mo) clI C (compEnvC (scO mo2) clO C1 (envX cn cs L a ccd cl))).kindOf (Str.ofString "names") = some .cell)
    (hit : ∀ (Q' : Value → Shared → Prop), (∀ h' tk' r u0 u1 u2, Fr h₀ L h' m → News h₀ L h' ((c, oc) :: (P, penO2 l k cc tk tc n0) :: (c2, oc2) :: (Nm, nmO ta tb td te nn) :: tl) → IsRange h' r 0 2 1 u0 u1 u2 → Q' (.ref r) { s with heap := h', toks := tk' }) → wpN (model prog w) (ktrTop dp un (some []) cn cs L a ccd cl outer) (eval iter (envX cn cs L a ccd cl)) Q' Fl s) (hs : ∀ x, foldedSetIterable iter (envX cn cs L a ccd cl) x = pure x)
    (fin : ∀ D D1 D2 h' tk' vs1 vs2 fs gs k' t', Fr h₀ L h' m → News h₀ L h' ((D, lst [.ref D1, .ref D2]) :: (D1, lst vs1) :: (D2, lst vs2) :: (c, oc) :: (P, penO2 l k' cc t' tc n0) :: (c2, oc2) :: (Nm, nmO ta tb td te nn) :: tl) →
      (∀ X ∈ [D, D1, D2], Off1 X ((c, oc) :: (P, penO2 l k' cc t' tc n0) :: (c2, oc2) :: (Nm, nmO ta tb td te nn) :: tl)) → Bys vs1 fs → Bys vs2 gs → fs.length ≤ 5 → gs.length ≤ 5 → k ≤ k' → k' ≤ k + 14 → Q (.ref D) { s with heap := h', toks := tk' }) :
    wpN (model prog w) (ktrTop dp un (some []) cn cs L a ccd cl outer) (eval (.ListComp (.ListComp (.Subscript (.Name (Str.ofString "names") p0) (.Call (.Name (Str.ofString "_law_next") p1) [.Name (Str.ofString "pen") p2, .Constant (Const.int 4) 0 p3] [] p4) p5)
      [⟨.Name (Str.ofString "turn") q1, .Call (.Name (Str.ofString "range") r0) [.Call (.Name (Str.ofString "_law_next") r1) [.Name (Str.ofString "pen") r2, .Constant (Const.int 4) 0 r3] [] r4] [] r5, [], 0⟩] (scI mo) pI)
      [⟨.Name (Str.ofString "side") q2, iter, [], 0⟩] (scO mo2) pos) (envX cn cs L a ccd cl)) Q Fl s := by
  refine n_ListCompT hclosO rfl (by show ∀ x ∈ [(Str.ofString ".0", NameKind.local), (Str.ofString "side", .local), (Str.ofString "range", .globalImplicit), (Str.ofString "_law_next", .globalImplicit), (Str.ofString "names", .free), (Str.ofString "pen", .free)], x.2 = .local → List.lookup x.1 [(Str.ofString ".0", NameKind.local), (Str.ofString "side", .local), (Str.ofString "range", .globalImplicit), (Str.ofString "_law_next", .globalImplicit), (Str.ofString "names", .free), (Str.ofString "pen", .free)] = some .local; decide) (hit _ fun h₁ tk₁ r u0 u1 u2 F₁ N₁ hr => ?_) hs
  have hh : (ktrTop dp un (some []) cn cs L a ccd cl outer).handled = none := rfl
  refine cps fun G9 r9 => ?_
  obtain ⟨n1, n2, n3⟩ := hcP
  refine r9 ?_
  clear r9 G9
  refine src_range1 (s := ⟨h₁, _, _, _, _⟩) (n := 2) (J := fun i ys nw => ∃ k' t' ds, nw = (c, oc) :: (P, penO2 l k' cc t' tc n0) :: (c2, oc2) :: (Nm, nmO ta tb td te nn) :: (ds ++ tl) ∧ k ≤ k' ∧ k' ≤ k + 7 * (i : Int) ∧ OL ys ds ∧ ys.length = i ∧ ∀ d ∈ ds, Off1 d.1 ((c, oc) :: (P, penO2 l k' cc t' tc n0) :: (c2, oc2) :: (Nm, nmO ta tb td te nn) :: tl)) hh F₁ N₁ hr rfl (by omega)
    (by show ∀ x ∈ [(Str.ofString ".0", NameKind.local), (Str.ofString "side", .local), (Str.ofString "range", .globalImplicit), (Str.ofString "_law_next", .globalImplicit), (Str.ofString "names", .free), (Str.ofString "pen", .free)], x.2 ≠ .cell; decide) rfl (by with_unfolding_all rfl) ⟨k, tk, [], rfl, by omega, by omega, .nil, rfl, fun _ q => nomatch q⟩ ?_ ?_
  · intro i ys v news₁ I oI C oC D mC h₂ tk₂ hi2 hy z9a z9b hoC F₂ N₂ off nIC nID nCD
    refine cps fun G7 r7 => ?_
    obtain ⟨tv, rfl⟩ := z9a
    obtain ⟨k', t', ds, rfl, b2, b3, hys, hyl, hds⟩ := z9b
    refine r7 ?_
    clear r7 G7
    refine n_tests0 ?_
    rw [if_pos rfl]
    have off3 := off.mem
    have eP : @Ne Nat P I ∧ @Ne Nat P C ∧ @Ne Nat P D := off3 _ (.tail _ (.head _))
    have apd : Apart [P] ((I, oI) :: (C, oC) :: (D, lst ys) :: (ds ++ tl)) := fun q hq z => by
      have z' := List.mem_singleton.mp z
      rcases List.mem_cons.mp hq with rfl | hq
      · exact eP.1 z'.symm
      · rcases List.mem_cons.mp hq with rfl | hq
        · exact eP.2.1 z'.symm
        · rcases List.mem_cons.mp hq with rfl | hq
          · exact eP.2.2 z'.symm
          · rcases List.mem_append.mp hq with hq | hq
            · exact (hds q hq).2.1 z'.symm
            · exact ap q hq z
    have N₃ : News h₀ L h₂ ((c, oc) :: (P, penO2 l k' cc t' tc n0) :: (c2, oc2) :: (Nm, nmO ta tb td te nn) :: (I, oI) :: (C, oC) :: (D, lst ys) :: (ds ++ tl)) :=
      News.pick N₂ (by k_mem) (News.pick N₂ (by k_mem) (News.pick N₂ (by k_mem) (News.pick N₂ (by k_mem) (News.pick N₂ (by k_mem) (News.pick N₂ (by k_mem) (News.pick N₂ (by k_mem) (News.sub N₂ fun q hq => by (repeat (first | exact hq | refine List.Mem.tail _ ?_)))))))))
    have hOpC := hOp C
    refine comp_names (s := ⟨h₂, _, _, _, _⟩) hi hn (by omega) (by omega) cc0 cc1 B X T hk hdp hu F₂ N₃ hl ⟨n1, n2, n3⟩ apd dc dc2 (hclos C) hc1 hc2 (hkp C) (hkn C) ?_ (fun _ => rfl) ?_
    · intro Q' hQ
      clear N₁ F₁ hit fin hr N F N₂
      walk_at "mine steps"
      dsimp only
      refine hQ _ _ _ _ _ _ _ _ _ (Int.toNat _) (by assumption) (by assumption) (by assumption) (Int.toNat_of_nonneg (by assumption)).symm ?_ ?_ ?_
      all_goals omega
    · intro D3 h3 tk3 ys3 fs3 k3 t3 F3 N4 o1 hys3 hl3 c0 c1
      have o2 := off1_mem o1
      have Nt : News h₀ L h3 (ds ++ tl) := News.sub N4 fun q hq => by (repeat (first | exact hq | refine List.Mem.tail _ ?_))
      have Nu : News h₀ L h3 ((ds ++ [(D3, lst ys3)]) ++ tl) := fun q hq => by
        rcases List.mem_append.mp hq with hq | hq
        · rcases List.mem_append.mp hq with hq | hq
          · exact Nt q (List.mem_append_left _ hq)
          · rw [List.mem_singleton.mp hq]; exact N4 _ (.head _)
        · exact Nt q (List.mem_append_right _ hq)
      refine CEnd.intro F3 (News.pick N4 (by k_mem) (News.pick N4 (by k_mem) (News.pick N4 (by k_mem) (News.pick N4 (by k_mem) (News.pick N4 (by k_mem) (News.pick N4 (by k_mem) (News.pick N4 (by k_mem) Nu))))))) hoC (Off3.of fun q hq => ?_)
        ⟨k3, t3, ds ++ [(D3, lst ys3)], rfl, by omega, by push_cast; omega, hys.snoc hys3 hl3, by rw [List.length_append, hyl]; rfl, fun d hd => ?_⟩
      · have old : ∀ b o, (b, o) ∈ (c, oc) :: (P, penO2 l k' cc t' tc n0) :: (c2, oc2) :: (Nm, nmO ta tb td te nn) :: (ds ++ tl) → b ≠ I ∧ b ≠ C ∧ b ≠ D := fun b o hb => off3 _ hb
        rcases List.mem_cons.mp hq with rfl | hq
        · exact old _ _ (.head _)
        · rcases List.mem_cons.mp hq with rfl | hq
          · exact old _ _ (.tail _ (.head _))
          · rcases List.mem_cons.mp hq with rfl | hq
            · exact old _ _ (.tail _ (.tail _ (.head _)))
            · rcases List.mem_cons.mp hq with rfl | hq
              · exact old _ _ (.tail _ (.tail _ (.tail _ (.head _))))
              · rcases List.mem_append.mp hq with hq | hq
                · rcases List.mem_append.mp hq with hq | hq
                  · exact old _ _ (.tail _ (.tail _ (.tail _ (.tail _ (List.mem_append_left _ hq)))))
                  · rw [List.mem_singleton.mp hq]
                    exact ⟨Ne.symm (o2 (I, oI) (by k_mem)), Ne.symm (o2 (C, oC) (by k_mem)), Ne.symm (o2 (D, lst ys) (by k_mem))⟩
                · exact old _ _ (.tail _ (.tail _ (.tail _ (.tail _ (List.mem_append_right _ hq)))))
      · rcases List.mem_append.mp hd with hd | hd
        · exact (by exact hds d hd)
        · rw [List.mem_singleton.mp hd]
          refine ⟨o2 _ (.head _), o2 _ (.tail _ (.head _)), o2 _ (.tail _ (.tail _ (.head _))), o2 _ (.tail _ (.tail _ (.tail _ (.head _)))), off1_of fun q hq => o2 q ?_⟩
          have hq' : q ∈ ds ++ tl := List.mem_append_right _ hq
          (repeat (first | exact hq' | refine List.Mem.tail _ ?_))
  · intro D C oC h₂ tk₂ ys news' c3 F' N' nCD off hyl z9a
    refine cps fun G7 r7 => ?_
    obtain ⟨k', t', ds, rfl, b2, b3, hys, hyl2, hds⟩ := z9a
    refine r7 ?_
    clear r7 G7
    refine cps fun G9 r9 => ?_
    obtain ⟨D1, D2, vs1, fs, vs2, gs, rfl, rfl, hb1, hb2, hl1, hl2⟩ := hys.two hyl2
    refine r9 ?_
    clear r9 G9
    refine outE (s := ⟨_, _, _, _, _⟩) c3 F' N' nCD off (fun h₃ F₃ N₃ o1 => ?_)
    refine fin D D1 D2 h₃ _ vs1 vs2 fs gs k' t' F₃ (News.pick N₃ (by k_mem) (News.pick N₃ (by k_mem) (News.pick N₃ (by k_mem) (News.pick N₃ (by k_mem) (News.pick N₃ (by k_mem) (News.pick N₃ (by k_mem) (News.pick N₃ (by k_mem) (News.sub N₃ fun q hq => ?_)))))))) (fun X hX => ?_) hb1 hb2 hl1 hl2 (by omega) (by omega)
    · exact .tail _ (.tail _ (.tail _ (.tail _ (.tail _ (.tail _ (.tail _ hq))))))
    · rcases List.mem_cons.mp hX with rfl | hX
      · have o2 := off1_mem o1
        exact ⟨o2 _ (.head _), o2 _ (.tail _ (.head _)), o2 _ (.tail _ (.tail _ (.head _))), o2 _ (.tail _ (.tail _ (.tail _ (.head _)))), off1_of fun q hq => o2 q (.tail _ (.tail _ (.tail _ (.tail _ (.tail _ (.tail _ hq))))))⟩
      · rcases List.mem_cons.mp hX with rfl | hX
        · exact hds _ (.head _)
        · rw [List.mem_singleton.mp hX]; exact hds _ (.tail _ (.head _))
theorem off_LI : True := by
  w_top off
  trivial
noncomputable abbrev scS (mo : List (Str × Const)) : Scope := { kind := .function, names := [(Str.ofString ".0", .local), (Str.ofString "one", .local), (Str.ofString "theirs", .free)], isGenerator := false, isCoroutine := false, more := mo }
set_option maxHeartbeats 4000000 in
theorem comp_shared {prog : Program} {w : World} {iter : PySem.Expr} {p0 p1 p2 p3 q1 : Pos} {mo : List (Str × Const)} {pos spos py : Pos} {vs us : List Value} {fs gs : List (List UInt8)} {clS : List (Str × Addr)}
    {dp un : Nat} {cn : Str} {cs : Scope} {a : Addr} {ccd : Value} {cl : List (Str × Addr)} {outer : List Env} {h₀ : Heap} {L l t ct : Addr} {oct : Obj} {m : Str → Option Value} {s : Shared}
    {Q : Flow → Shared → Prop} {tl : List (Addr × Obj)} (hb : Bys vs fs) (hc : Bys us gs) (hn : fs.length ≤ 1000) (hk : cs.kind = .function)
    (F : Fr h₀ L s.heap m) (N : News h₀ L s.heap ((ct, oct) :: tl)) (dct : oct.data = .cell (some (.ref t))) (S1 : SrcAt h₀ l vs.toArray ((ct, oct) :: tl)) (S2 : SrcAt h₀ t us.toArray ((ct, oct) :: tl))
    (hsw : swapsWith (.ListComp (.Name (Str.ofString "one") p0) [⟨.Name (Str.ofString "one") q1, iter, [.Compare (.Name (Str.ofString "one") p1) [.In] [.Name (Str.ofString "theirs") p2] p3], 0⟩] (scS mo) pos) (some (.Name (Str.ofString "shared") py)) spos.line (envX cn cs L a ccd cl) = pure true)
    (hclos : closureFor (scS mo) (envX cn cs L a ccd cl) = pure clS) (hc1 : clS.lookup (Str.ofString "theirs") = some ct) (hkp : ∀ C, (compEnvC (scS mo) clS C (envX cn cs L a ccd cl)).kindOf (Str.ofString "theirs") = some .cell)
    (hy : (envX cn cs L a ccd cl).kindOf (Str.ofString "shared") = some .local) (hp : ((envX cn cs L a ccd cl).scope.kind == .class || ((envX cn cs L a ccd cl).scope.kind == .module && (envX cn cs L a ccd cl).locals != (envX cn cs L a ccd cl).globals)) = false)
    (hit : ∀ (Q' : Value → Shared → Prop), Q' (.ref l) s → wpN (model prog w) (ktrTop dp un (some []) cn cs L a ccd cl outer) (eval iter (envX cn cs L a ccd cl)) Q' Fl s) (hs : ∀ x, foldedSetIterable iter (envX cn cs L a ccd cl) x = pure x)
    (fin : ∀ D h' tk' ys, Fr h₀ L h' (fun z => if z = Str.ofString "shared" then some (.ref D) else m z) → News h₀ L h' ((D, lst ys) :: (ct, oct) :: tl) → Off1 D ((ct, oct) :: tl) → Bys ys (fs.filter gs.contains) → Q .next { s with heap := h', toks := tk' }) :
    wpN (model prog w) (ktrTop dp un (some []) cn cs L a ccd cl outer) (exec (.Assign [.Name (Str.ofString "shared") py] (.ListComp (.Name (Str.ofString "one") p0) [⟨.Name (Str.ofString "one") q1, iter, [.Compare (.Name (Str.ofString "one") p1) [.In] [.Name (Str.ofString "theirs") p2] p3], 0⟩] (scS mo) pos) spos) (envX cn cs L a ccd cl)) Q Fl s := by
  have hlen := hb.length
  refine n_AssignComp hsw hclos rfl (by show ∀ x ∈ [(Str.ofString ".0", NameKind.local), (Str.ofString "one", .local), (Str.ofString "theirs", .free)], x.2 = .local → List.lookup x.1 [(Str.ofString ".0", NameKind.local), (Str.ofString "one", .local), (Str.ofString "theirs", .free)] = some .local; decide) (hit _ ?_) hs
  have hh : (ktrTop dp un (some []) cn cs L a ccd cl outer).handled = none := rfl
  refine src_list1 (its := vs) (J := fun i ys nw => nw = (ct, oct) :: tl ∧ Bys ys ((fs.take i).filter gs.contains)) hh F N (by omega) (fun i ys nw j => by rw [j.1]; exact S1) (by show ∀ x ∈ [(Str.ofString ".0", NameKind.local), (Str.ofString "one", .local), (Str.ofString "theirs", .free)], x.2 ≠ .cell; decide) rfl (by with_unfolding_all rfl) ⟨rfl, .nil⟩ ?_ ?_
  · intro i ys v news₁ I oI C oC D mC h₂ tk₂ hi hy2 hP z9a hoC F₂ N₂ off nIC nID nCD
    refine cps fun G7 r7 => ?_
    obtain ⟨rfl, hys⟩ := z9a
    refine r7 ?_
    clear r7 G7
    refine cps fun G9 r9 => ?_
    obtain ⟨f, tf, e1, e2⟩ := bys_at i hb (by omega)
    refine r9 ?_
    clear r9 G9
    rw [hP] at e2
    cases e2
    have hkC := hkp C
    clear N F hit fin
    refine n_tests1 (n_isTrue_Compare1 ?_ (by with_unfolding_all rfl))
    walk_at "mine steps"
    unfold Halt
    have htl : h₂.IsList t us.toArray := S2.list F₂.keep (fun q hq => N₂ q (.tail _ (.tail _ (.tail _ hq))))
    refine in_bys (s := ⟨h₂, _, _, _, _⟩) htl hc ?_
    refine wpAny_truthy_bool ?_
    cases hcx : gs.contains f with
    | true =>
      rw [if_pos rfl]
      walk_at "mine steps"
      refine CEnd.intro F₂ N₂ hoC off ⟨rfl, ?_⟩
      rw [List.take_add_one, e1]
      show Bys _ (((fs.take i) ++ [f]).filter gs.contains)
      rw [List.filter_append, List.filter_cons_of_pos (by exact hcx)]
      exact hys.push
    | false =>
      rw [if_neg (by decide)]
      refine CSkip.intro F₂ N₂ hoC off ⟨rfl, ?_⟩
      rw [List.take_add_one, e1]
      show Bys _ (((fs.take i) ++ [f]).filter gs.contains)
      rw [List.filter_append, List.filter_cons_of_neg (by rw [hcx]; decide), List.filter_nil, List.append_nil]
      exact hys
  · intro D C oC h₂ tk₂ ys news' c2 F' N' nCD off hyl z9a
    refine cps fun G7 r7 => ?_
    obtain ⟨rfl, hys⟩ := z9a
    refine r7 ?_
    clear r7 G7
    rw [hlen, List.take_length] at hys
    refine outA (s := ⟨_, _, _, _, _⟩) c2 F' N' nCD off rfl hy hp (fun h₃ tk₃ F₃ N₃ o1 => ?_)
    exact fin D h₃ _ ys F₃ N₃ o1 hys
theorem find_filter {fs : List (List UInt8)} {p : List UInt8 → Bool} {x : List UInt8} (h : fs.find? p = some x) : ∃ r, fs.filter p = x :: r := by
  rw [← List.head?_filter] at h
  cases hf : fs.filter p with
  | nil => rw [hf] at h; cases h
  | cons y r =>
    rw [hf] at h
    cases h
    exact ⟨r, rfl⟩
theorem find_filter0 {fs : List (List UInt8)} {p : List UInt8 → Bool} (h : fs.find? p = none) : fs.filter p = [] := by
  rw [← List.head?_filter] at h
  cases hf : fs.filter p with
  | nil => rfl
  | cons y r => rw [hf] at h; cases h
theorem bys_cons {ys : List Value} {x : List UInt8} {r : List (List UInt8)} (h : Bys ys (x :: r)) : ∃ t ys', ys = .bytes x.toArray t :: ys' := by
  cases h with
  | cons h _ => obtain ⟨t, rfl⟩ := h; exact ⟨t, _, rfl⟩
theorem bys_nil {ys : List Value} (h : Bys ys []) : ys = [] := by
  cases h; rfl
section
theorem off_TC : True := by
  w_top off
  trivial
theorem words80 : True := by
  (k_with "mine nstep" => ((with_reducible show wpN _ _ (exec (Stmt.Assign [PySem.Expr.Tuple _ _ _] (PySem.Expr.ListComp _ _ _ _) _) _) _ _ _); refine halt ?_))
  trivial
theorem words81 : True := by
  (k_with "mine nstep" => ((with_reducible show wpN _ _ (exec (Stmt.Assign [PySem.Expr.Name _ _] (PySem.Expr.ListComp _ _ _ _) _) _) _ _ _); refine halt ?_))
  trivial
set_option maxHeartbeats 4000000 in
theorem chosen_law {prog : Program} {w : World} : LawC prog w 184 181 (Str.ofString "_law_chosen_right.<locals>.<lambda>") 100 400 := by
  unfold LawC
  intro vs ns P l k c tk tc n ps codes dp un cn cs a ccd cl outer A₀ base h₀ L m s p loose mean mg mb Q E hi hn k0 k1 c0 c1 B F X N T XB TB hk hd hu hl hlP K hco hret
  refine wpN_call ?_
  walk_at "mine enterNC"
  (walk_at "mine shade"; rename_i g' L' h' tk' F' B' X' T' S' e' l1 o1 o2 o3 o4 d1 d2 d3 d4 N'; walk_at "mine light")
  replace F' : Fr g' L' h' (fun _ => none) := F'
  replace d1 : o1.data = .cell none := (by with_unfolding_all exact d1)
  replace d2 : o2.data = .cell none := (by with_unfolding_all exact d2)
  replace d3 : o3.data = .cell none := (by with_unfolding_all exact d3)
  replace d4 : o4.data = .cell (some (.ref P)) := (by with_unfolding_all exact d4)
  refine cps fun G9 r9 => ?_
  obtain ⟨hPT, apc, hlg⟩ := law_pre N hl hlP hco S'
  have C' := code184 X'
  obtain ⟨lP, lT, lC⟩ := l1
  refine r9 ?_
  clear r9 G9
  replace apc := apc.cells lC
  have hcds : Cds codes L' codes := fun q hq => .inl hq
  have tn : KtsTurn ((envX cn cs L a ccd cl :: outer).filterMap (·.frame)) g' g' := .refl
  have fin := law_end B F N XB TB S' e' hret (cn := cn) (cs := cs) (a := a) (ccd := ccd) (cl := cl)
  clear F N B X T hret e'
  walk_at "mine steps"
  unfold Halt
  (try dsimp only)
  refine n_AssignT (n_noRaise ?_)
  (walk_at "mine shade"; rename_i Nm _ lN _ oN Fw Nw dN _ _; walk_at "mine light")
  have Np := News.pick (p := (L' + 1, o4)) Nw (by k_mem) (News.pick (p := (P, _)) Nw (by k_mem) (News.pick (p := (L' + 1 + 1, oN)) Nw (by k_mem) (News.pick (p := (Nm, _)) Nw (by k_mem) (News.pick (p := (181, _)) Nw (by k_mem) (News.pick (p := (L' + 1 + 1 + 1, o2)) Nw (by k_mem) (News.pick (p := (L' + 1 + 1 + 1 + 1, o1)) Nw (by k_mem) (rest := codes) (fun q hq => Nw q (by (repeat (first | exact hq | refine List.Mem.tail _ ?_))))))))))
  clear Nw
  with_unfolding_all refine' comp_ours (s := ⟨_, _, _, _, _⟩) hi hn k0 ?a1 c0 c1 B' X' T' rfl ?a7 ?a8 Fw Np hlg ?a9 ?a10 d4 dN rfl rfl (fun _ => rfl) (fun _ => rfl) rfl rfl (fun _ _ => rfl) (fun _ _ => rfl) ?hit (fun _ => rfl) ?fin
  case a1 => omega
  case a7 => ktr_room
  case a8 => ktr_units
  case a9 => exact ⟨by k_ne, by k_ne, by k_ne⟩
  case a10 => exact apart1 (by first | k_all | fail)
  case hit =>
    intro Q' hQ
    walk_at "mine steps"
    dsimp only
    exact hQ _ _ _ _ _ _ (by assumption) (by assumption) (by assumption)
  case fin =>
    clear Np Fw
    intro D D1 D2 hx tkx vs1 vs2 fs gs k2 t2 Fx Nx ox hb1 hb2 hl1 hl2 b2 b3
    have ox0 := ox D (.head _)
    have ox1 := ox D1 (.tail _ (.head _))
    have ox2 := ox D2 (.tail _ (.tail _ (.head _)))
    clear ox
    simp only [Off1] at ox0 ox1 ox2
    (try have ox0_p1 := ox0.1)
    (try have ox0_p2 := ox0.2.1)
    (try have ox0_p3 := ox0.2.2.1)
    (try have ox0_p4 := ox0.2.2.2.1)
    (try have ox0_p5 := ox0.2.2.2.2.1)
    (try have ox0_p6 := ox0.2.2.2.2.2.1)
    (try have ox0_p7 := ox0.2.2.2.2.2.2.1)
    (try have ox0_p8 := ox0.2.2.2.2.2.2.2.1)
    (try have ox0_p9 := ox0.2.2.2.2.2.2.2.2.1)
    (try have ox0_p10 := ox0.2.2.2.2.2.2.2.2.2.1)
    (try have ox1_p1 := ox1.1)
    (try have ox1_p2 := ox1.2.1)
    (try have ox1_p3 := ox1.2.2.1)
    (try have ox1_p4 := ox1.2.2.2.1)
    (try have ox1_p5 := ox1.2.2.2.2.1)
    (try have ox1_p6 := ox1.2.2.2.2.2.1)
    (try have ox1_p7 := ox1.2.2.2.2.2.2.1)
    (try have ox1_p8 := ox1.2.2.2.2.2.2.2.1)
    (try have ox1_p9 := ox1.2.2.2.2.2.2.2.2.1)
    (try have ox1_p10 := ox1.2.2.2.2.2.2.2.2.2.1)
    (try have ox2_p1 := ox2.1)
    (try have ox2_p2 := ox2.2.1)
    (try have ox2_p3 := ox2.2.2.1)
    (try have ox2_p4 := ox2.2.2.2.1)
    (try have ox2_p5 := ox2.2.2.2.2.1)
    (try have ox2_p6 := ox2.2.2.2.2.2.1)
    (try have ox2_p7 := ox2.2.2.2.2.2.2.1)
    (try have ox2_p8 := ox2.2.2.2.2.2.2.2.1)
    (try have ox2_p9 := ox2.2.2.2.2.2.2.2.2.1)
    (try have ox2_p10 := ox2.2.2.2.2.2.2.2.2.2.1)
    walk_at "mine steps"
    (walk_at "mine shade"; rename_i _ _ oO dO _ oT Fw Nw dT _ _; walk_at "mine light")
    unfold Halt
    (try dsimp only)
    have Np := News.pick (p := (L' + 1 + 1 + 1 + 1, oT)) Nw (by k_mem) (News.pick (p := (D1, _)) Nw (by k_mem) (News.pick (p := (D2, _)) Nw (by k_mem) (News.pick (p := (L' + 1, o4)) Nw (by k_mem) (News.pick (p := (P, _)) Nw (by k_mem) (News.pick (p := (181, _)) Nw (by k_mem) (News.pick (p := (L' + 1 + 1, oN)) Nw (by k_mem) (News.pick (p := (Nm, _)) Nw (by k_mem) (News.pick (p := (L' + 1 + 1 + 1, oO)) Nw (by k_mem) (rest := codes) (fun q hq => Nw q (by (repeat (first | exact hq | refine List.Mem.tail _ ?_))))))))))))
    clear Nw
    refine n_noRaise ?_
    with_unfolding_all refine' comp_shared (s := ⟨_, _, _, _, _⟩) (l := D1) (t := D2) hb1 hb2 ?n9 rfl Fw Np dT ?S1 ?S2 rfl rfl rfl (fun _ => rfl) rfl rfl ?hit (fun _ => rfl) ?fin
    case n9 => omega
    case S1 => exact .inr ⟨_, .tail _ (.head _), rfl, _, rfl⟩
    case S2 => exact .inr ⟨_, .tail _ (.tail _ (.head _)), rfl, _, rfl⟩
    case hit =>
      intro Q' h
      walk_at "mine steps"
      exact h
    case fin =>
      clear Np Fw
      intro S h3 tk3 ys Fs Ns oxS hys
      simp only [Off1] at oxS
      (try have oxS_p1 := oxS.1)
      (try have oxS_p2 := oxS.2.1)
      (try have oxS_p3 := oxS.2.2.1)
      (try have oxS_p4 := oxS.2.2.2.1)
      (try have oxS_p5 := oxS.2.2.2.2.1)
      (try have oxS_p6 := oxS.2.2.2.2.2.1)
      (try have oxS_p7 := oxS.2.2.2.2.2.2.1)
      (try have oxS_p8 := oxS.2.2.2.2.2.2.2.1)
      (try have oxS_p9 := oxS.2.2.2.2.2.2.2.2.1)
      (try have oxS_p10 := oxS.2.2.2.2.2.2.2.2.2.1)
      dsimp only
      walk_at "mine steps"
      (walk_at "mine shade"; rename_i f9 ps9 codes9 h9 tk9 F8 K8 ap9 cds9 lt9 lam fn9 N8; walk_at "mine light")
      unfold Halt
      (try dsimp only)
      with_unfolding_all refine' told_law (s := ⟨_, _, _, _, _⟩) (l := l) (its := vs.toArray) N8 F8 B' X' T' XB TB rfl tn hlg ?d ?u fn9 ?W ?stab ?ret
      case W =>
        refine' work_chosen hb1 hb2 ?ho ?ht lam ?c0 ?c1
        case c0 => walk_at "mine cell"
        case c1 => walk_at "mine cell"
        case ho => exact News.isList N8 (by k_mem)
        case ht => exact News.isList N8 (by k_mem)
      case d => ktr_room
      case u => ktr_units
      case stab =>
        intro h1 h2 v z9a k
        refine cps fun G7 r7 => ?_
        obtain ⟨x, t', q1, q2⟩ := z9a
        refine r7 ?_
        clear r7 G7
        exact ⟨x, t', q1, q2⟩
      case ret =>
        intro r6 h6 tk6 g6 F6 B6 X6 T6 N6 hl6 tn6 ot6 tl6
        clear N8 lam ot6 F8
        refine cps fun G9 r9 => ?_
        obtain ⟨T2, rfl, ht⟩ := tl6
        refine r9 ?_
        clear r9 G9
        refine cps fun G8 r8 => ?_
        rcases ht with ⟨v2, t5, eT2, x, t6, rfl, e5⟩ | ⟨_, t5, t6, eT2, hb2'⟩
        · refine r8 ?_
          clear r8 G8
          refine cps fun G9 r9 => ?_
          obtain ⟨rr, er⟩ := find_filter e5
          rw [er] at hys
          obtain ⟨tx, ys', rfl⟩ := bys_cons hys
          refine r9 ?_
          clear r9 G9
          have N7 := News.cons eT2 N6
          clear N6
          walk_at "mine steps"
          unfold Halt
          refine cmp_ne_nil (News.isList ‹News g6 L' _ (_ :: _)› (by k_mem)) (News.isList ‹News g6 L' _ (_ :: _)› (.head _)) (by ktr_units) ?_
          rw [List.isEmpty_cons, Bool.not_false]
          walk_at "mine steps"
          unfold Halt
          have N10 := ‹News g6 L' _ (_ :: _)›
          refine told_eq (n := 0) (N10 _ (.tail _ (.tail _ (.head _)))).1 (N10 _ (.head _)).1 sm_by (by ktr_units) ?_
          dsimp only
          exact fin _ _ g6 _ k2 t2 _ _ (by assumption) tn6 (by walk_at "mine pick") (by omega) (by omega) K8 cds9
        · refine r8 ?_
          clear r8 G8
          refine cps fun G9 r9 => ?_
          obtain ⟨rfl, e5⟩ := hb2'
          rw [find_filter0 e5] at hys
          have e6 := bys_nil hys
          subst e6
          refine r9 ?_
          clear r9 G9
          have N7 := News.cons eT2 N6
          clear N6
          walk_at "mine steps"
          unfold Halt
          refine cmp_ne_nil (News.isList ‹News g6 L' _ (_ :: _)› (by k_mem)) (News.isList ‹News g6 L' _ (_ :: _)› (.head _)) (by ktr_units) ?_
          rw [List.isEmpty_nil, Bool.not_true]
          walk_at "mine steps"
          unfold Halt
          have N10 := ‹News g6 L' _ (_ :: _)›
          refine told_eq (n := 0) (N10 _ (.tail _ (.tail _ (.head _)))).1 (N10 _ (.head _)).1 sm_int (by ktr_units) ?_
          dsimp only
          exact fin _ _ g6 _ k2 t2 _ _ (by assumption) tn6 (by walk_at "mine pick") (by omega) (by omega) K8 cds9
end
theorem words82 : True := by
  k_with_none
  (k_with "mine shade" => (have wN := trivial; have wF := trivial; have wl := trivial; have wk := trivial; have wq := trivial; have wr := trivial; have wX := trivial; have we := trivial; have wt := trivial; have wh := trivial; have wf := trivial; have wo := trivial; have wb := trivial; have wp := trivial; have wx := trivial; have wy := trivial; have wz := trivial; have wv := trivial; have wM := trivial; have wO := trivial; have wY := trivial))
  (k_with "mine light" => (clear wN wF wl wk wq wr wX we wt wh wf wo wb wp wx wy wz wv wM wO wY))
  (k_with "mine room" => (first | assumption | exact room1 (by assumption) (by decide) | exact room2 (by assumption) (by decide) | exact room3 (by assumption) (by decide) | exact room0 (by assumption)))
  (k_with "mine ktr_room" => ((try simp +zetaDelta only [depth_under_make, depth_under_kw, depth_in1, depth_deeper, depth_caller]); (try dsimp +zetaDelta only [ktrTop]); k_extra "mine room"))
  (k_with "mine ktr_units" => ((try simp +zetaDelta only [units_in1, units_deeper, Around.mark_units, units_caller]); (try dsimp +zetaDelta only [ktrTop]); k_extra "mine room"))
  (k_with "mine lt" => (first | assumption | exact Nat.lt_succ_self _ | exact sl2 | exact sl3 | exact sl4 | exact Nat.lt_succ_of_lt (by assumption) | exact lt2 (by assumption) | exact lt3 (by assumption) | exact lt4 (by assumption) | exact Nat.lt_add_right _ (by assumption) | exact Nat.lt_add_of_pos_right (by decide) | exact Nat.add_lt_add_left (by decide) _ | exact allLt_get (by assumption) (by k_dflt k_mem)))
  (k_with "mine ne" => with_reducible (first | assumption | exact Ne.symm (by assumption) | exact Nat.ne_of_lt (by k_extra "mine lt") | exact Nat.ne_of_gt (by k_extra "mine lt")))
  (k_with "mine small" => (first | (show @LT.lt Nat _ _ _; k_extra "mine lt") | (show @Ne Nat _ _; k_extra "mine ne") | (show @LE.le Int _ 0 _; first | exact i0_1 (by assumption) | exact i0_2 (by assumption) | exact i0_3 (by assumption) | exact i0_l (by assumption) (by decide)) | (show @LT.lt Int _ _ _; first | exact lk1 (by assumption) (by decide) | exact lk2 (by assumption) (by decide) | exact lk3 (by assumption) (by decide)) | (show @LE.le Int _ _ _; first | exact Int.le_refl _ | exact ilt_le (by assumption) (by decide) | exact ile_0 (by assumption) (by decide)) | (show False; refine absurd (by assumption : @Eq Nat _ _) ?_; k_extra "mine ne")))
  (k_with "mine omega" => (first | assumption | decide | exact Nat.le_trans (by assumption) (by decide) | exact Nat.lt_of_le_of_lt (by assumption) (by decide) | exact Int.lt_of_lt_of_le (by assumption) (by decide) | with_reducible (k_extra "mine small") | omega (config := {})))
  (k_with "mine k_ne" => (first | k_extra "mine ne" | (refine neN ?_; (try dsimp only); first | k_extra "mine ne" | omega (config := {}))))
  (k_with "mine enter" => (refine enter_raw (h := ?_); k_whole; intro _ _ _ _ _ _ _ _ _ _ _; (try dsimp only); (try k_fold); (refine any_letA ?_; intro envW aroundW)))
  (k_with "mine enterN" => (refine enterN_raw (h := ?_); k_whole; intro _ _ _ _ _ _ _ _ _ _ _; (try dsimp only); (refine n_letA ?_; intro envW aroundW)))
  (k_with "mine nstep" => (
  (with_reducible show wpN _ _ _ _ _ _);
  first
  | with_reducible refine n_execs_nil ?_
  | (with_reducible refine n_execs_let ?_; intro _ _)
  | with_reducible refine n_Return ?_
  | with_reducible refine n_If ?_
  | with_reducible refine n_Assign ?_ (by k_dflt rfl)
  | with_reducible refine n_BinOp ?_
  | with_reducible refine n_Compare ?_ (by with_unfolding_all rfl)
  
  | with_reducible refine n_isTrue_not ?_
  | with_reducible refine n_isTrue_or_nil ?_
  | with_reducible refine n_isTrue_or ?_
  | with_reducible refine n_And2 ?_
  | with_reducible refine n_Call_Name ?_
  | with_reducible refine n_Subscript ?_
  | with_reducible refine n_args_nil ?_
  | with_reducible refine n_args_cons ?_ (by k_dflt rfl)
  | with_reducible refine n_spliced_nil ?_
  | with_reducible refine n_callWith_type ?_ (by k_dflt rfl) (by k_dflt rfl)
  | (with_reducible refine n_callWith_K (by k_asm) (by k_is) ?_ (by k_dflt rfl) (by k_dflt rfl); k_whole)
  | k_extra "mine ncall"
  | with_reducible refine n_isTrue ?_ (by k_dflt rfl)
  | (with_reducible refine wpN_any ?_; (try k_fold))))
  (k_with "mine steps" => repeat' (first
  | k_extra "mine nstep"
  | (k_unfold; (try dsimp only))
  | walk1
  | (dsimp only; (first | k_extra "mine nstep" | walk1))
  | (leave1; (try dsimp only))
  | fail "no step"))
  (k_with "binaryOp Add bytes bytes" => ((with_reducible show wpAny _ _ (binaryOp Operator.Add (Value.bytes (List.toArray _) _) (Value.bytes (List.toArray _) _)) _ _ _); (refine by_add (by ((try simp only [List.length_cons, List.length_nil]); omega)) ?_); intro _ _ _ _ wl; (try simp only [List.length_cons, List.length_nil] at wl)))
  (k_with "call builtin:len" => ((with_reducible show wpAny _ _ (call (Value.builtin "len") [Value.bytes (List.toArray _) _]) _ _ _); (refine by_len (by ((try simp only [List.length_cons, List.length_nil]); omega)) ?_); intro _ _))
  (k_with "compareOp Eq bytes bytes" => ((with_reducible show wpAny _ _ (compareOp CmpOp.Eq (Value.bytes (List.toArray _) _) (Value.bytes (List.toArray _) _)) _ _ _); (refine by_eq ?_)))
  (k_with "compareOp NotEq bytes bytes" => ((with_reducible show wpAny _ _ (compareOp CmpOp.NotEq (Value.bytes (List.toArray _) _) (Value.bytes (List.toArray _) _)) _ _ _); (refine by_ne ?_)))
  (k_with "subscriptTail" => ((with_reducible show wpAny _ _ (subscriptTail _ _ (Value.bytes (List.toArray _) _) (Value.int _ _)) _ _ _); (refine by_item (by omega) (by omega) (by omega) ?_ (by with_unfolding_all rfl) (by intro _; with_unfolding_all rfl)); intro _ _))
  (k_with "subscriptTail" => ((with_reducible show wpAny _ _ (subscriptTail _ (Expr.Slice _ _ none _) (Value.bytes (List.toArray _) _) (Value.ref _)) _ _ _); (with_reducible rename Fr _ _ _ _ => wF); (with_reducible rename News _ _ _ _ => wN); (refine by_slice (s := ⟨_, _, _, _, _⟩) wF wN (by constructor) (by constructor) (by omega) ?_ (by with_unfolding_all rfl) (by intro _; with_unfolding_all rfl)); intro _ _ _ _ _ _ _ _))
  (k_with "exec For Name Subscript cons nil" => (k_here; (rename Fr _ _ _ _ => wF); (with_unfolding_all refine For_invVF wF (by exact rfl) (by exact rfl) ?_; k_whole)))
  (k_with "getMethod type:Exception" => (k_here; refine method_type (by k_asm) (by k_asm) (by exact meta_exception) (by decide +kernel) (by k_dflt k_is) (by k_handed) ?_))
  (k_with "call builtin:Exception.__init__" => (k_here; (refine q_xinitD (by k_asm) (by k_asm) (by k_asm) (by k_updF) ?_; k_whole); intro _ _ _ wN; (try dsimp only at wN); (try k_sweep)))
  (k_with "setAttr ref" => (k_here; first
  | ((refine q_put0D (by k_asm) (by k_asm) (by k_asm) (by k_updF) (by first | exact q_taker_code _ | exact q_taker_ft _ | exact q_taker_text _) ?_; k_whole); intro _ _ _ _ wl _ wN; (try dsimp only at wN); (try k_lt wl); (try k_sweep))
  | ((refine q_putD (by k_asm) (by k_asm) (by k_asm) (by k_mem) (by k_updF) (by first | exact q_taker_code _ | exact q_taker_ft _ | exact q_taker_text _) (by with_unfolding_all rfl) (by intro _ _; exact Nat.le_of_ble_eq_true (by with_unfolding_all rfl)) ?_; k_whole); intro _ _ _ _ wN; (try dsimp only at wN); (try k_sweep))))
  (k_with "binaryOp Add str str" => ((with_reducible show wpAny _ _ (binaryOp Operator.Add (Value.str _ _) (Value.str _ _)) _ _ _); (refine PyProof.Rows.add_str ?_ (by assumption)); intro _ _))
  (k_with "call ref" => (
  (with_reducible show wpAny _ _ (call (Value.ref 31) _ _) _ _ _);
  (refine q_new (by assumption) (by omega) (by omega) (by k_asm) (by k_asm) (by k_asm) (by k_asm) (by first | exact rfl | assumption) (by ktr_room) (by ktr_units) ?_); k_whole;
  intro _ _ _ _ _))
  (k_with "call ref" => (
  (with_reducible show wpAny _ _ (call (Value.ref 75) _ _) _ _ _);
  (first | refine CtrA.use (tls50 (by decide +kernel)) (ret := ?_) | refine CtrA.use (tls120 (by decide +kernel)) (ret := ?_)); k_whole;
  intro _ wh _ wk wq; have wr := wq; refine cps fun G6 r6 => ?_; obtain ⟨_, _, _, _, wt, _, _, _, _⟩ := wr; subst wt; refine r6 ?_; clear r6 G6; have wX : Frag.In _ wh := Frag.In.keeps (Frag.In.keeps (by k_asm) (Fr.keep (by k_asm))) wk.all; (try dsimp only)))
  (k_with "call ref" => (
  (with_reducible show wpAny _ _ (call (Value.ref 68) _ _) _ _ _);
  (refine CtrA.use (get_spec (by omega) (by omega) (by omega) (by omega)) (ret := ?_)); k_whole;
  intro _ _ _ wk wq; obtain ⟨_, we⟩ := wq; subst we; have wF := fr_kept0 (by k_asm) wk; have wN := news_kept0 (by k_asm) wk; clear wk; (try dsimp only); k_sweep))
  (k_with "exec Raise some none" => (k_here; refine q_Raise rfl ?_))
  (k_with "call builtin:list.append" => (k_here; (with_reducible show wpAny _ _ (call (Value.builtin _) [Value.ref _, _]) _ _ _); k_dflt (refine append_K (by k_asm) (by k_asm) (by k_upd) ?_ (by (rw [List.size_toArray, sizeLine_eq]; omega)); k_whole); intro _ _ _; (try k_sweep)))
  (k_with "call builtin:len" => (k_here; (with_reducible show wpAny _ _ (call (Value.builtin "len") [Value.ref _]) _ _ _); (refine len_newsL (by k_asm) (by k_mem) (by omega) ?_; k_whole); intro _ _))
  (k_with "exec While Compare" => (k_here; refine halt ?_))
  (k_with "call builtin:list.append" => (k_here; (with_reducible show wpAny _ _ (call (Value.builtin _) [Value.ref _, _]) _ _ _); (refine append_K (by k_asm) (by k_asm) (Upd.tail (by exact Nat.ne_of_gt (‹_ ∧ AllLt _ _›).1) (Upd.head (by assumption))) ?_ (by (rw [List.size_toArray, sizeLine_eq]; omega)); k_whole); intro _ _ _; (try k_sweep)))
  (k_with "call ref" => (
  (with_reducible show wpAny _ _ (call (Value.ref 103) _ _) _ _ _);
  (first
    | refine CtrE.use (fields_many (by omega)) (ret := ?_) (err := ?_)
    | refine CtrE.use (fields_none (by omega)) (ret := ?_) (err := ?_)); k_whole;
  (focus (
    (intro _ _ _ wk wp); (refine cps fun G6 r6 => ?_); (obtain ⟨_, _, _, _, we, wf, wo, wb, wr, wl⟩ := wp); (subst we);
    (first
      | (have wq := bys3 wb wl; obtain ⟨_, _, _, _, _, _, we, wv⟩ := wq; subst we; subst wv; have wx := rd_le wr _ (.head _); have wy := rd_le wr _ (.tail _ (.head _)); have wz := rd_le wr _ (.tail _ (.tail _ (.head _))))
      | (have wq := bys2 wb wl; obtain ⟨_, _, _, _, we, wv⟩ := wq; subst we; subst wv; have wx := rd_le wr _ (.head _); have wy := rd_le wr _ (.tail _ (.head _)))
      | (have wq := bys1 wb wl; obtain ⟨_, _, we, wv⟩ := wq; subst we; subst wv; have wx := rd_le wr _ (.head _))
      | skip);
    (refine r6 ?_); (clear r6 G6);
    (have wF := fr_kept0 (by k_asm) wk); (have wN := news_addN (by k_asm) (news_kept0 (by k_asm) wk) wf wo); (clear wk); (try dsimp only); k_sweep))))
  (k_with "setItem ref int" => (k_here; (refine baset_K (by k_asm) (by k_asm) (by k_updF) (by omega) (by first | decide | (simp only [Array.size_setIfInBounds, Array.size_replicate]; decide) | omega) (by first | decide | (simp only [Array.size_setIfInBounds, Array.size_replicate]; decide) | omega) (by first | exact Int.fmod_nonneg_of_pos _ (by decide) | omega) (by first | exact Int.fmod_lt_of_pos _ (by decide) | omega) ?_; k_whole); intro _ _ wN; (try dsimp only at wN); (try k_sweep)))
  (k_with "call type:bytes" => (k_here; (refine babytes_K (by k_asm) (by k_mem) (by first | decide | (simp only [Array.size_setIfInBounds, Array.size_replicate]; decide) | omega) ?_; k_whole); intro _ _))
  (k_with "mine ncall" => ((refine n_bytearrayD rfl ?_ ?_ ?_); (focus first | decide | omega); (focus first | decide | omega); (intro _ _ wx wk wb; have wF := fr_kept0 (by k_asm) wk; have wN := news_add (by k_asm) (news_kept0 (by k_asm) wk) wx wb; clear wx wk wb; k_sweep)))
  (k_with "mine ncall" => ((with_reducible show wpN _ _ (call (Value.ref 61) _ _) _ _ _); (first | refine CtrN.use (put1_spec (by first | decide | omega) (by first | decide | omega)) (ret := ?_) | refine CtrN.use (put2_spec (by first | decide | omega) (by first | decide | omega)) (ret := ?_) | refine CtrN.use (put3_spec (by first | decide | omega) (by first | decide | omega)) (ret := ?_)); k_whole; intro _ _ _ wk wp; obtain ⟨_, we⟩ := wp; subst we; have wF := fr_kept0 (by k_asm) wk; have wN := news_kept0 (by k_asm) wk; clear wk; (try dsimp only); k_sweep))
  (k_with "mine enterNC" => (refine enterNC_raw (h := ?_); k_whole; intro _ _ _ _ _ _ wN wY _ _ _ _ _ wl; (try k_lt wl); refine cps fun G6 r6 => ?_; k_cells wY; refine r6 ?_; clear r6 G6; (try simp only [List.cons_append, List.nil_append] at wN); (try dsimp only); (refine n_letA ?_; intro envW aroundW)))
  (k_with "mine nstep" => ((with_reducible show wpN _ _ _ _ _ _); first
  | with_reducible refine n_Tuple ?_
  | (refine n_callWith_F0 (by assumption) ?_)))
  (k_with "newTuple" => ((refine newTupleR (Nat.le_of_ble_eq_true rfl) ?_); intro _ _ wx wk wb; have wF := fr_kept0 (by k_asm) wk; have wN := news_addN (by k_asm) (news_kept0 (by k_asm) wk) wx wb; (try dsimp only)))
  (k_with "mine ncall" => ((with_reducible show wpN _ _ (call (Value.ref _) ([] ++ [])) _ _ _); refine halt ?_))
  (k_with "getMethod bytes" => (with_reducible refine bj_method ?_))
  (k_with "mine nstep" => ((with_reducible show wpN _ _ _ _ _ _); first
  | (refine n_callWith_builtin ?_ (by rfl) (by rfl))))
  (k_with "eval Name" => ((with_reducible show wpAny _ _ (eval (Expr.Name _ _) (compEnvC _ _ _ _)) _ _ _); (refine nameC_loc (by k_asm) (by k_mem) (by assumption) (by rfl) ?_ (by rfl) (by rfl); k_whole)))
  (k_with "mine oct" => (k_whole; (intro _ _ _ wk wp); (refine cps fun G6 r6 => ?_); (obtain ⟨_, _, we, _, _⟩ := wp); (subst we); (refine r6 ?_); (clear r6 G6); (have wF := fr_kept0 (by k_asm) wk); (have wN := news_kept0 (by k_asm) wk); (clear wk); (try dsimp only); k_sweep))
  (k_with "mine ncall" => ((with_reducible show wpN _ _ (call (Value.ref 96) _ _) _ _ _); (refine CtrN.use (field_spec (by omega)) (ret := ?_)); k_extra "mine oct"))
  (k_with "mine ncall" => ((with_reducible show wpN _ _ (call (Value.ref 82) _ _) _ _ _); (refine CtrN.use (message_spec (by omega) (by omega) (by omega)) (ret := ?_)); k_extra "mine oct"))
  (k_with "mine ncall" => ((with_reducible show wpN _ _ (call (Value.builtin "bytes.join") _ _) _ _ _); refine halt ?_))
  (k_with "mine nstep" => ((with_reducible show wpN _ _ _ _ _ _); first
  | ((with_reducible show wpN _ _ (eval (PySem.Expr.ListComp _ _ _ _) _) _ _ _); refine halt ?_)
  | (with_reducible refine n_methodCall ?_ (by k_dflt rfl); k_whole)))
  (k_with "mine nstep" => ((with_reducible show wpN _ _ (exec (Stmt.For _ _ _ _ _) _) _ _ _); refine halt ?_))
  (k_with "compareOp In bytes ref" => ((with_reducible show wpAny _ _ (compareOp CmpOp.In (Value.bytes (List.toArray _) _) (Value.ref _)) _ _ _); refine halt ?_))
  (k_with "eval Name" => ((with_reducible show wpAny _ _ (eval (Expr.Name _ _) (envX _ _ _ _ _ _)) _ _ _); (refine nameG_free (by k_asm) (by assumption) (by assumption) (by assumption) ?_ (by rfl) (by rfl); k_whole)))
  (k_with "mine ncall" => ((with_reducible show wpN _ _ (call (Value.ref 150) _ _) _ _ _); refine halt ?_))
  (k_with "mine ncall" => ((with_reducible show wpN _ _ (call (Value.ref 89) _ _) _ _ _); refine halt ?_))
  (k_with "mine ncall" => ((with_reducible show wpN _ _ (call (Value.ref 103) _ _) _ _ _); refine halt ?_))
  (k_with "mine ncall" => ((with_reducible show wpN _ _ (call (Value.ref 115) _ _) _ _ _); refine halt ?_))
  (k_with "mine ncall" => ((with_reducible show wpN _ _ (call (Value.ref 129) _ _) _ _ _); refine halt ?_))
  (k_with "mine ncall" => ((with_reducible show wpN _ _ (call (Value.ref 143) _ _) _ _ _); refine halt ?_))
  (k_with "mine ncall" => ((with_reducible show wpN _ _ (call (Value.ref 122) _ _) _ _ _); (refine CtrN.use (shello_spec (by omega)) (ret := ?_)); k_extra "mine oct"))
  (k_with "mine ncall" => ((with_reducible show wpN _ _ (call (Value.ref 108) _ _) _ _ _); (refine CtrN.use (chello_spec (by assumption) (by omega) (by omega) (by assumption) (by omega)) (ret := ?_)); k_extra "mine oct"))
  (k_with "call ref" => (
  (with_reducible show wpAny _ _ (call (Value.ref 157) _ _) _ _ _);
  k_dflt (refine next_K (h := ?_)); k_whole;
  intro _ _ _ _ _ _ wN _ _; (try dsimp only at wN); (try dsimp only); k_sweep))
  (k_with "call builtin:len" => (k_here; (with_reducible show wpAny _ _ (call (Value.builtin "len") [Value.ref _]) _ _ _); (refine lenG (by k_asm) (by assumption) (by omega) ?_; k_whole); intro _ _))
  (k_with "call ref" => ((with_reducible show wpAny _ _ (call (Value.ref 157) _ _) _ _ _); refine halt ?_))
  (k_with "mine ncall" => ((with_reducible show wpN _ _ (call _ ([] ++ _) _) _ _ _); simp only [List.nil_append]))
  (k_with "mine k_all" => (refine Apart.ne (by assumption) (by with_unfolding_all (repeat (first | exact List.Mem.head _ | refine List.Mem.tail _ ?_)))))
  (k_with "newTuple" => ((with_unfolding_all refine newTupleL (by k_asm) (by k_asm) (by exact (Nat.le_of_ble_eq_true rfl)) ?_); k_whole; intro _ _ _ wN wl; (try dsimp only at wN); (try k_lt wl); (try k_sweep)))
  (k_with "call ref" => (
  (with_reducible show wpAny _ _ (call (Value.ref 157) _ _) _ _ _);
  k_dflt (refine next_K (h := ?_)); k_whole;
  intro _ _ _ _ _ _ wN _ _; (try dsimp only at wN); (try dsimp only); k_sweep))
  (k_with "eval Lambda" => (
  k_dflt (refine mk_lam2 (h := ?_)); k_whole;
  intro _ _ _ _ _ _ wN wM _ _ _ _ _ _; (try dsimp only at wN);
  have wO := News.mg wN wM (by k_dflt (repeat (first | with_reducible exact Mg.nil | apply Mg.cons)));
  clear wN wM; (try k_sweep)))
  (k_with "mine nstep" => (
  (with_reducible show wpN _ _ (eval _ _) _ _ _);
  first
  | ((with_reducible show wpN _ _ (eval (PySem.Expr.Name _ _) _) _ _ _); with_reducible refine wpN_any ?_; (try k_fold))
  | ((with_reducible show wpN _ _ (eval (PySem.Expr.Constant _ _ _) _) _ _ _); with_reducible refine wpN_any ?_; (try k_fold))
  | ((with_reducible show wpN _ _ (eval (PySem.Expr.Lambda _ _ _ _) _) _ _ _); with_reducible refine wpN_any ?_; (try k_fold))
  | ((with_reducible show wpN _ _ (eval (PySem.Expr.List _ _) _) _ _ _); with_reducible refine wpN_any ?_; (try k_fold))))
  (k_with "mine nstep" => (
  (with_reducible show wpN _ _ _ _ _ _);
  first
  | with_reducible refine n_execs_nil ?_
  | (with_reducible refine n_execs_let ?_; intro _ _)
  | with_reducible refine n_Return ?_
  | with_reducible refine n_If ?_
  
  | with_reducible refine n_BinOp ?_
  | with_reducible refine n_Compare ?_ (by with_unfolding_all rfl)
  | with_reducible refine n_Tuple ?_
  | with_reducible refine n_isTrue_not ?_
  | with_reducible refine n_isTrue_or_nil ?_
  | with_reducible refine n_isTrue_or ?_
  | with_reducible refine n_And2 ?_
  | with_reducible refine n_Call_Name ?_
  | with_reducible refine n_Subscript ?_
  | with_reducible refine n_args_nil ?_
  | with_reducible refine n_args_cons ?_ (by k_dflt rfl)
  | with_reducible refine n_spliced_nil ?_
  | with_reducible refine n_callWith_type ?_ (by k_dflt rfl) (by k_dflt rfl)
  | (with_reducible refine n_callWith_K (by k_asm) (by k_is) ?_ (by k_dflt rfl) (by k_dflt rfl); k_whole)
  | ((with_reducible show wpN _ _ (call _ _ _) _ _ _); k_extra "mine ncall")))
  (k_with "mine nstep" => ((with_reducible show wpN _ _ (isTrue (PySem.Expr.Compare _ _ _ _) _ _) _ _ _); (with_reducible refine n_isTrue_Compare1 ?_ (by with_unfolding_all rfl))))
  (k_with "mine ncall" => ((with_reducible show wpN _ _ (call (Value.ref 164) _ _) _ _ _); refine halt ?_))
  (k_with "call type:bytes" => ((with_reducible show wpAny _ _ (call (Value.type "bytes") [Value.ref _]) _ _ _); (first | refine bytes_rep (h := ?_) | k_dflt (refine bytes_two (h := ?_)) | k_dflt (refine bytes_four (h := ?_))); k_whole; intro _ _ _ _ _ _ _ _; (try dsimp only); k_sweep))
  (k_with "eval Name" => ((with_reducible show wpAny _ _ (eval (Expr.Name _ _) (compEnvC _ _ _ _)) _ _ _); (k_dflt (refine nameC_cell (by k_asm) (by first | assumption | rfl) (by k_mem) (by assumption) ?_ (by rfl) (by first | assumption | rfl); k_whole))))
  (k_with "mine cell" => (refine CellAt.of (by k_asm) (by exact rfl) (by k_mem) (by assumption)))
  (k_with "mine pick" => ((repeat (refine' News.pick (news := _) (by assumption) (by k_mem) ?_)); (refine' News.sub (by assumption) ?_); intro _ wq; (repeat (first | exact wq | refine List.Mem.tail _ ?_))))
  (k_with "mine ncall" => ((with_reducible show wpN _ _ (call (Value.ref 136) _ _) _ _ _); (refine CtrN.use (ext_spec (by omega) (by omega)) (ret := ?_)); k_extra "mine oct"))
  (k_with "compareOp Eq ref ref" => ((with_reducible show wpAny _ _ (compareOp CmpOp.Eq (Value.ref _) (Value.ref _)) _ _ _); refine halt ?_))
  (k_with "compareOp NotEq bytes bytes" => (with_reducible refine by_ne_same ?_))
  (k_with "compareOp NotEq ref ref" => ((with_reducible show wpAny _ _ (compareOp CmpOp.NotEq (Value.ref _) (Value.ref _)) _ _ _); refine halt ?_))
  trivial
theorem off_PL2 : True := by
  w_top off
  trivial
theorem whole_three (b : UInt8) : whole [0, 0, b] = (b.toNat : Int) := by
  unfold whole
  simp [KBw.bInts]
theorem msg_eq (k : Int) (b : List UInt8) : msg k b = k.toNat.toUInt8 :: 0 :: 0 :: (b.length : Int).toNat.toUInt8 :: b := rfl
theorem head_of {k : Int} {b r : List UInt8} {j : Nat} (h : 4 ≤ ((msg k b ++ r).take j).length) (hb : b.length < 256) : whole ((((msg k b ++ r).take j).drop 1).take 3) = b.length := by
  have hj : 4 ≤ j := by rw [List.length_take] at h; omega
  obtain ⟨i, rfl⟩ : ∃ i, j = i + 4 := ⟨j - 4, by omega⟩
  rw [msg_eq]
  show whole [0, 0, (b.length : Int).toNat.toUInt8] = _
  rw [whole_three, oct_len hb]
theorem sp_go0 {n : Nat} {most : Int} : sp n most [] = some ([], []) := sp_short (by decide)
theorem sp_go1 {n : Nat} {most k : Int} {b r : List UInt8} {j : Nat} (h : 4 ≤ ((msg k b ++ r).take j).length) (hb : b.length < 256) (hm : most < b.length) : sp n most ((msg k b ++ r).take j) = none :=
  sp_over h (by rw [head_of h hb]; exact hm)
theorem sp_go2 {n : Nat} {most k : Int} {b r : List UInt8} {j : Nat} (hn : ((msg k b ++ r).take j).length ≤ n) (hb : b.length < 256) (h0 : ¬ (4 ≤ ((msg k b ++ r).take j).length ∧ most < b.length)) (h : ((msg k b ++ r).take j).length < 4 + b.length) :
    sp n most ((msg k b ++ r).take j) = some ([], (msg k b ++ r).take j) := by
  by_cases h4 : 4 ≤ ((msg k b ++ r).take j).length
  · obtain ⟨n', rfl⟩ : ∃ n', n = n' + 1 := ⟨n - 1, by omega⟩
    have w := head_of h4 hb
    exact sp_part h4 (by rw [w]; intro z; exact h0 ⟨h4, z⟩) (by rw [w]; omega)
  · exact sp_short (by omega)
theorem sp_go3 {n : Nat} {most k : Int} {b r : List UInt8} {j : Nat} (hn : ((msg k b ++ r).take j).length ≤ n) (k0 : 0 ≤ k) (k1 : k < 256) (hb : b.length < 256) (hm : ¬ most < b.length) (h : 4 + b.length ≤ ((msg k b ++ r).take j).length) :
    ∃ n', sp n most ((msg k b ++ r).take j) = (sp n' most (((msg k b ++ r).take j).drop (4 + b.length))).map (fun q => ((k, b, msg k b) :: q.1, q.2)) ∧ (((msg k b ++ r).take j).drop (4 + b.length)).length ≤ n' ∧ ((msg k b ++ r).take j).drop (4 + b.length) = r.take (j - (4 + b.length)) := by
  obtain ⟨n', rfl⟩ : ∃ n', n = n' + 1 := ⟨n - 1, by omega⟩
  have h4 : 4 ≤ ((msg k b ++ r).take j).length := by omega
  have w := head_of h4 hb
  have hj : 4 + b.length ≤ j := by rw [List.length_take] at h; omega
  have e0 : ((msg k b ++ r).take j).take (4 + b.length) = msg k b := by
    rw [List.take_take, Nat.min_eq_left hj, List.take_append_of_le_length (by rw [msg_len]; omega), List.take_of_length_le (by rw [msg_len]; omega)]
  have e1 : (((msg k b ++ r).take j).drop 4).take b.length = b := by
    have e := congrArg (List.drop 4) e0
    rw [List.drop_take, Nat.add_sub_cancel_left] at e
    exact e
  have e2 : (((msg k b ++ r).take j).getD 0 0).toNat = k.toNat := by
    have : ((msg k b ++ r).take j).getD 0 0 = k.toNat.toUInt8 := by
      obtain ⟨i, rfl⟩ : ∃ i, j = i + 1 := ⟨j - 1, by omega⟩
      rw [msg_eq]
      rfl
    rw [this]
    simp
    omega
  refine ⟨n', ?_, by rw [List.length_drop]; omega, ?_⟩
  · rw [sp_more h4 (by rw [w]; exact hm) (by rw [w]; omega), w, Int.toNat_natCast, e0, e1, e2, Int.toNat_of_nonneg k0]
  · rw [List.drop_take, List.drop_append_of_le_length (by rw [msg_len]; omega), List.drop_of_length_le (by rw [msg_len]; omega), List.nil_append]
theorem off_LJ : True := by
  w_top off
  trivial
noncomputable abbrev rowO (k : Int) (b : List UInt8) (t t' : Tok) : Obj := { cls := .type "tuple", data := .seq #[.int k t, .bytes b.toArray t'] }
/-- rows as values and as tuples of the ledger -/
inductive RL : List Value → List (Addr × Obj) → List (Int × List UInt8) → Prop
  | nil : RL [] [] []
  | cons {v : Value} {d : Addr × Obj} {r : Int × List UInt8} {ys : List Value} {ds : List (Addr × Obj)} {rs : List (Int × List UInt8)} : (v = .ref d.1 ∧ (∃ t t', d.2 = rowO r.1 r.2 t t') ∧ 0 ≤ r.1 ∧ r.1 < 256 ∧ r.2.length ≤ 10) → RL ys ds rs → RL (v :: ys) (d :: ds) (r :: rs)
theorem RL.snoc {ys : List Value} {ds : List (Addr × Obj)} {rs : List (Int × List UInt8)} {D : Addr} {k : Int} {b : List UInt8} {t t' : Tok} (h : RL ys ds rs) (h0 : 0 ≤ k) (h1 : k < 256) (h2 : b.length ≤ 10) : RL (ys ++ [.ref D]) (ds ++ [(D, rowO k b t t')]) (rs ++ [(k, b)]) := by
  induction h with
  | nil => exact .cons ⟨rfl, ⟨_, _, rfl⟩, h0, h1, h2⟩ .nil
  | cons r _ ih => exact .cons r ih
theorem RL.length {ys : List Value} {ds : List (Addr × Obj)} {rs : List (Int × List UInt8)} (h : RL ys ds rs) : ys.length = rs.length := by
  induction h with
  | nil => rfl
  | cons _ _ ih => exact congrArg (· + 1) ih
theorem RL.all {ys : List Value} {ds : List (Addr × Obj)} {rs : List (Int × List UInt8)} (h : RL ys ds rs) : ∀ (j : Nat), j < ys.length → ∃ D k b t t', ys[j]? = some (.ref D) ∧ rs[j]? = some (k, b) ∧ (D, rowO k b t t') ∈ ds ∧ 0 ≤ k ∧ k < 256 ∧ b.length ≤ 10 := by
  induction h with
  | nil => exact fun _ h => nomatch h
  | @cons v d r ys ds rs q _ ih =>
    intro j hj
    cases j with
    | zero =>
      refine cps fun G9 r9 => ?_
      obtain ⟨e, ⟨t, t', eo⟩, h0, h1, h2⟩ := q
      refine r9 ?_
      clear r9 G9
      exact ⟨d.1, r.1, r.2, t, t', congrArg some e, rfl, by rw [← eo]; exact .head _, h0, h1, h2⟩
    | succ j =>
      refine cps fun G9 r9 => ?_
      obtain ⟨D, k, b, t, t', e1, e2, e3, r⟩ := ih j (Nat.lt_of_succ_lt_succ hj)
      refine r9 ?_
      clear r9 G9
      exact ⟨D, k, b, t, t', e1, e2, .tail _ e3, r⟩
theorem RL.at {ys : List Value} {ds : List (Addr × Obj)} {rs : List (Int × List UInt8)} (i : Nat) (h : RL ys ds rs) (hi : i < ys.length) : ∃ D k b t t', ys[i]? = some (.ref D) ∧ rs[i]? = some (k, b) ∧ (D, rowO k b t t') ∈ ds ∧ 0 ≤ k ∧ k < 256 ∧ b.length ≤ 10 := h.all i hi
noncomputable abbrev scR (mo : List (Str × Const)) : Scope := { kind := .function, names := [(Str.ofString ".0", .local), (Str.ofString "at", .local), (Str.ofString "_law_next", .globalImplicit), (Str.ofString "bytes", .globalImplicit), (Str.ofString "most", .free), (Str.ofString "pen", .free)], isGenerator := false, isCoroutine := false, more := mo }
theorem rows_end {h₀ h9 : Heap} {L T I C D c P c2 l : Addr} {m mC : Str → Option Value} {s : Shared} {oI oC oc oc2 : Obj} {ys : List Value} {ds tl gar : List (Addr × Obj)} {rs : List (Int × List UInt8)} {k₁ k' k3 cc kind : Int} {t' t3 tc : Tok} {n0 i tk9 : Nat} {b : List UInt8} {t4 t5 : Tok}
    (F : Fr h₀ L h9 m) (N : News h₀ L h9 ((T, rowO kind b t4 t5) :: (gar ++ ((I, oI) :: (C, oC) :: (D, lst ys) :: (c, oc) :: (P, penO2 l k3 cc t3 tc n0) :: (c2, oc2) :: (ds ++ tl))))) (hoC : NsObj oC mC)
    (off : Off3 I C D ((c, oc) :: (P, penO2 l k' cc t' tc n0) :: (c2, oc2) :: (ds ++ tl))) (lt : AllLt T ((I, oI) :: (C, oC) :: (D, lst ys) :: (c, oc) :: (P, penO2 l k3 cc t3 tc n0) :: (c2, oc2) :: (ds ++ tl)))
    (hys : RL ys ds rs) (hyl : rs.length = i) (hds : ∀ d ∈ ds, Off1 d.1 ((c, oc) :: (P, penO2 l k' cc t' tc n0) :: (c2, oc2) :: tl) ∧ @LT.lt Nat _ c d.1) (b1 : k₁ ≤ k3) (b2 : k3 ≤ k₁ + 2 * ((i + 1 : Nat) : Int)) (v0 : 0 ≤ kind) (v1 : kind < 256) (hb : b.length ≤ 10) :
    CEnd h₀ L m s I oI C D ys (fun ys nw => ∃ k' t' ds rs, nw = (c, oc) :: (P, penO2 l k' cc t' tc n0) :: (c2, oc2) :: (ds ++ tl) ∧ k₁ ≤ k' ∧ k' ≤ k₁ + 2 * ((i + 1 : Nat) : Int) ∧ RL ys ds rs ∧ rs.length = i + 1 ∧ ∀ d ∈ ds, Off1 d.1 ((c, oc) :: (P, penO2 l k' cc t' tc n0) :: (c2, oc2) :: tl) ∧ @LT.lt Nat _ c d.1) (.ref T) { s with heap := h9, toks := tk9 } := by
  have off3 := off.mem
  have lt2 := allLt_lt lt
  have sub : ∀ q ∈ (I, oI) :: (C, oC) :: (D, lst ys) :: (c, oc) :: (P, penO2 l k3 cc t3 tc n0) :: (c2, oc2) :: (ds ++ tl), q ∈ (T, rowO kind b t4 t5) :: (gar ++ ((I, oI) :: (C, oC) :: (D, lst ys) :: (c, oc) :: (P, penO2 l k3 cc t3 tc n0) :: (c2, oc2) :: (ds ++ tl))) := fun q hq => .tail _ (List.mem_append_right _ hq)
  have Nt : News h₀ L h9 ((I, oI) :: (C, oC) :: (D, lst ys) :: (c, oc) :: (P, penO2 l k3 cc t3 tc n0) :: (c2, oc2) :: (ds ++ tl)) := News.sub N sub
  have Nu : News h₀ L h9 ((ds ++ [(T, rowO kind b t4 t5)]) ++ tl) := fun q hq => by
    rcases List.mem_append.mp hq with hq | hq
    · rcases List.mem_append.mp hq with hq | hq
      · exact Nt q (.tail _ (.tail _ (.tail _ (.tail _ (.tail _ (.tail _ (List.mem_append_left _ hq)))))))
      · rw [List.mem_singleton.mp hq]; exact N _ (.head _)
    · exact Nt q (.tail _ (.tail _ (.tail _ (.tail _ (.tail _ (.tail _ (List.mem_append_right _ hq)))))))
  refine CEnd.intro F (News.pick Nt (by k_mem) (News.pick Nt (by k_mem) (News.pick Nt (by k_mem) (News.pick Nt (by k_mem) (News.pick Nt (by k_mem) (News.pick Nt (by k_mem) Nu)))))) hoC (Off3.of fun q hq => ?_) ⟨k3, t3, ds ++ [(T, rowO kind b t4 t5)], rs ++ [(kind, b)], rfl, b1, b2, hys.snoc v0 v1 hb, by rw [List.length_append, hyl]; rfl, fun d hd => ?_⟩
  · have old : ∀ b o, (b, o) ∈ (c, oc) :: (P, penO2 l k' cc t' tc n0) :: (c2, oc2) :: (ds ++ tl) → b ≠ I ∧ b ≠ C ∧ b ≠ D := fun b o hb => off3 _ hb
    rcases List.mem_cons.mp hq with rfl | hq
    · exact old _ _ (.head _)
    · rcases List.mem_cons.mp hq with rfl | hq
      · exact old _ _ (.tail _ (.head _))
      · rcases List.mem_cons.mp hq with rfl | hq
        · exact old _ _ (.tail _ (.tail _ (.head _)))
        · rcases List.mem_append.mp hq with hq | hq
          · rcases List.mem_append.mp hq with hq | hq
            · exact old _ _ (.tail _ (.tail _ (.tail _ (List.mem_append_left _ hq))))
            · rw [List.mem_singleton.mp hq]
              exact ⟨Nat.ne_of_gt (lt2 (I, oI) (by k_mem)), Nat.ne_of_gt (lt2 (C, oC) (by k_mem)), Nat.ne_of_gt (lt2 (D, lst ys) (by k_mem))⟩
          · exact old _ _ (.tail _ (.tail _ (.tail _ (List.mem_append_right _ hq))))
  · rcases List.mem_append.mp hd with hd | hd
    · exact (by exact hds d hd)
    · rw [List.mem_singleton.mp hd]
      refine ⟨?_, lt2 (c, oc) (by k_mem)⟩
      refine off1_of fun q hq => Nat.ne_of_lt (lt2 q ?_)
      rcases List.mem_cons.mp hq with rfl | hq
      · k_mem
      · rcases List.mem_cons.mp hq with rfl | hq
        · k_mem
        · rcases List.mem_cons.mp hq with rfl | hq
          · k_mem
          · exact .tail _ (.tail _ (.tail _ (.tail _ (.tail _ (.tail _ (List.mem_append_right _ hq))))))
set_option maxHeartbeats 4000000 in
theorem comp_rows {prog : Program} {w : World} {iter : PySem.Expr} {p0 p1 p2 p3 p4 p5 p6 p7 p8 p9 q0 q1 q2 q3 q4 q5 q6 q7 q8 q9 r0 r1 r2 r3 r4 r5 r6 r7 r8 r9 u1 u2 u3 u4 py spos : Pos} {mo : List (Str × Const)} {pos : Pos} {vs : List Value} {ns : List Int} {clR : List (Str × Addr)}
    {dp un : Nat} {cn : Str} {cs : Scope} {a : Addr} {ccd : Value} {cl : List (Str × Addr)} {outer : List Env} {A₀ : Around} {base h₀ : Heap} {L P l c c2 : Addr} {oc oc2 : Obj} {k cc most : Int} {tk tc tm : Tok} {n0 kt : Nat} {m : Str → Option Value} {s : Shared}
    {p : Program} {loose : List Str} {mean : ExcName → Option Value} {mg mb : Str → Option Value} {Q : Flow → Shared → Prop} {tl : List (Addr × Obj)}
    (hi : IntsAre vs ns) (hn : ns.length ≤ 63) (k0 : 0 ≤ k) (k1 : k < 9300) (cc0 : 0 ≤ cc) (cc1 : cc < 997) (hm0 : 0 ≤ most) (hm1 : most < 5)
    (B : Below A₀ base outer h₀) (X : (hd.heap_1 w.params).In h₀) (T : Top p loose mean mg mb h₀) (hk : cs.kind = .function) (hdp : dp + 10 < recursionLimit) (hu : un + 40 < cLine)
    (F : Fr h₀ L s.heap m) (N : News h₀ L s.heap ((c, oc) :: (P, penO2 l k cc tk tc n0) :: (c2, oc2) :: tl)) (hl : h₀.IsList l vs.toArray) (hcP : @Ne Nat c P ∧ @Ne Nat c2 P) (ap : Apart [P] tl) (dc : oc.data = .cell (some (.ref P))) (dc2 : oc2.data = .cell (some (.int most tm)))
    (hsw : swapsWith (.ListComp (.Tuple [.Call (.Name (Str.ofString "_law_next") p0) [.Name (Str.ofString "pen") p1, .Constant (Const.int 256) 0 p2] [] p3, .Call (.Name (Str.ofString "bytes") p4) [.BinOp (.List [.BinOp (.Constant (Const.int 65) 0 p5) .Add (.Name (Str.ofString "at") p6) p7] p8) .Mult (.IfExp (.Compare (.Name (Str.ofString "most") p9) [.Gt] [.Constant (Const.int 0) 0 q0] q1) (.BinOp (.BinOp (.Name (Str.ofString "most") q2) .Add (.Call (.Name (Str.ofString "_law_next") q3) [.Name (Str.ofString "pen") q4, .Constant (Const.int 3) 0 q5] [] q6) q7) .Sub (.Constant (Const.int 1) 0 q8) q9) (.Call (.Name (Str.ofString "_law_next") r0) [.Name (Str.ofString "pen") r1, .Constant (Const.int 2) 0 r2] [] r3) r4) r5] [] r6] kt r7) [⟨.Name (Str.ofString "at") r8, iter, [], 0⟩] (scR mo) pos) (some (.Name (Str.ofString "rows") py)) spos.line (envX cn cs L a ccd cl) = pure true)
    (hclos : closureFor (scR mo) (envX cn cs L a ccd cl) = pure clR) (hc1 : clR.lookup (Str.ofString "pen") = some c) (hc2 : clR.lookup (Str.ofString "most") = some c2)
    (hkp : ∀ C, (compEnvC (scR mo) clR C (envX cn cs L a ccd cl)).kindOf (Str.ofString "pen") = some .cell) (hkm : ∀ C, (compEnvC (scR mo) clR C (envX cn cs L a ccd cl)).kindOf (Str.ofString "most") = some .cell)
    (hy : (envX cn cs L a ccd cl).kindOf (Str.ofString "rows") = some .local) (hp : ((envX cn cs L a ccd cl).scope.kind == .class || ((envX cn cs L a ccd cl).scope.kind == .module && (envX cn cs L a ccd cl).locals != (envX cn cs L a ccd cl).globals)) = false)
    (hit : ∀ (Q' : Value → Shared → Prop), (∀ h' tk' r b u0 u1 u2 k' t' n, Fr h₀ L h' m → News h₀ L h' ((c, oc) :: (P, penO2 l k' cc t' tc n0) :: (c2, oc2) :: tl) → IsRange h' r 0 b 1 u0 u1 u2 → b = (n : Nat) → n ≤ 3 → k ≤ k' → k' ≤ k + 1 → Q' (.ref r) { s with heap := h', toks := tk' }) → wpN (model prog w) (ktrTop dp un (some []) cn cs L a ccd cl outer) (eval iter (envX cn cs L a ccd cl)) Q' Fl s) (hs : ∀ x, foldedSetIterable iter (envX cn cs L a ccd cl) x = pure x)
    (fin : ∀ D h' tk' ys ds rs k' t', Fr h₀ L h' (fun z => if z = Str.ofString "rows" then some (.ref D) else m z) → News h₀ L h' ((D, lst ys) :: (c, oc) :: (P, penO2 l k' cc t' tc n0) :: (c2, oc2) :: (ds ++ tl)) →
      Off1 D ((c, oc) :: (P, penO2 l k' cc t' tc n0) :: (c2, oc2) :: (ds ++ tl)) → (∀ d ∈ ds, Off1 d.1 ((c, oc) :: (P, penO2 l k' cc t' tc n0) :: (c2, oc2) :: tl) ∧ @LT.lt Nat _ c d.1) → RL ys ds rs → rs.length ≤ 3 → k ≤ k' → k' ≤ k + 10 → Q .next { s with heap := h', toks := tk' }) :
    wpN (model prog w) (ktrTop dp un (some []) cn cs L a ccd cl outer) (exec (.Assign [.Name (Str.ofString "rows") py] (.ListComp (.Tuple [.Call (.Name (Str.ofString "_law_next") p0) [.Name (Str.ofString "pen") p1, .Constant (Const.int 256) 0 p2] [] p3, .Call (.Name (Str.ofString "bytes") p4) [.BinOp (.List [.BinOp (.Constant (Const.int 65) 0 p5) .Add (.Name (Str.ofString "at") p6) p7] p8) .Mult (.IfExp (.Compare (.Name (Str.ofString "most") p9) [.Gt] [.Constant (Const.int 0) 0 q0] q1) (.BinOp (.BinOp (.Name (Str.ofString "most") q2) .Add (.Call (.Name (Str.ofString "_law_next") q3) [.Name (Str.ofString "pen") q4, .Constant (Const.int 3) 0 q5] [] q6) q7) .Sub (.Constant (Const.int 1) 0 q8) q9) (.Call (.Name (Str.ofString "_law_next") r0) [.Name (Str.ofString "pen") r1, .Constant (Const.int 2) 0 r2] [] r3) r4) r5] [] r6] kt r7)
      [⟨.Name (Str.ofString "at") r8, iter, [], 0⟩] (scR mo) pos) spos) (envX cn cs L a ccd cl)) Q Fl s := by
  refine n_AssignComp hsw hclos rfl (by show ∀ x ∈ [(Str.ofString ".0", NameKind.local), (Str.ofString "at", .local), (Str.ofString "_law_next", .globalImplicit), (Str.ofString "bytes", .globalImplicit), (Str.ofString "most", .free), (Str.ofString "pen", .free)], x.2 = .local → List.lookup x.1 [(Str.ofString ".0", NameKind.local), (Str.ofString "at", .local), (Str.ofString "_law_next", .globalImplicit), (Str.ofString "bytes", .globalImplicit), (Str.ofString "most", .free), (Str.ofString "pen", .free)] = some .local; decide) (hit _ fun h₁ tk₁ r b u0 u1 u2 k₁ t₁ n F₁ N₁ hr hb hn5 b0 b1 => ?_) hs
  have hh : (ktrTop dp un (some []) cn cs L a ccd cl outer).handled = none := rfl
  refine cps fun G9 r9 => ?_
  obtain ⟨n1, n2⟩ := hcP
  refine r9 ?_
  clear r9 G9
  refine src_range1 (s := ⟨h₁, _, _, _, _⟩) (J := fun i ys nw => ∃ k' t' ds rs, nw = (c, oc) :: (P, penO2 l k' cc t' tc n0) :: (c2, oc2) :: (ds ++ tl) ∧ k₁ ≤ k' ∧ k' ≤ k₁ + 2 * (i : Int) ∧ RL ys ds rs ∧ rs.length = i ∧ ∀ d ∈ ds, Off1 d.1 ((c, oc) :: (P, penO2 l k' cc t' tc n0) :: (c2, oc2) :: tl) ∧ @LT.lt Nat _ c d.1) hh F₁ N₁ hr hb (by omega)
    (by show ∀ x ∈ [(Str.ofString ".0", NameKind.local), (Str.ofString "at", .local), (Str.ofString "_law_next", .globalImplicit), (Str.ofString "bytes", .globalImplicit), (Str.ofString "most", .free), (Str.ofString "pen", .free)], x.2 ≠ .cell; decide) rfl (by with_unfolding_all rfl) ⟨k₁, t₁, [], [], rfl, by omega, by omega, .nil, rfl, fun _ q => nomatch q⟩ ?_ ?_
  · intro i ys v news₁ I oI C oC D mC h₂ tk₂ hi2 hyy z9a z9b hoC F₂ N₂ off nIC nID nCD
    refine cps fun G7 r7 => ?_
    obtain ⟨tv, rfl⟩ := z9a
    obtain ⟨k', t', ds, rs, rfl, b2, b3, hys, hyl, hds⟩ := z9b
    refine r7 ?_
    clear r7 G7
    refine n_tests0 ?_
    rw [if_pos rfl]
    have off3 := off.mem
    have eP : @Ne Nat P I ∧ @Ne Nat P C ∧ @Ne Nat P D := off3 _ (.tail _ (.head _))
    have apd : Apart [P] (ds ++ tl) := fun q hq z => by
      have z' := List.mem_singleton.mp z
      rcases List.mem_append.mp hq with hq | hq
      · exact (hds q hq).1.2.1 z'.symm
      · exact ap q hq z
    have hkC := hkp C
    have hkM := hkm C
    clear N₁ F₁ hit fin hr N F hsw
    walk_at "mine steps"
    all_goals walk_at "mine shade"; rename_i T9 h9 F9 N9 l1; walk_at "mine light"
    all_goals exact rows_end (s := ⟨_, _, _, _, _⟩) (gar := [_, _]) F9 N9 hoC off l1.2.2 hys hyl hds (by omega) (by push_cast; omega) (by omega) (by omega) (by omega)
  · intro D C oC h₂ tk₂ ys news' c3 F' N' nCD off hyl z9a
    refine cps fun G7 r7 => ?_
    obtain ⟨k', t', ds, rs, rfl, b2, b3, hys, hyl2, hds⟩ := z9a
    refine r7 ?_
    clear r7 G7
    refine outA (s := ⟨_, _, _, _, _⟩) c3 F' N' nCD off rfl hy hp (fun h₃ tk₃ F₃ N₃ o1 => ?_)
    exact fin D h₃ _ ys ds rs k' t' F₃ N₃ o1 hds hys (by omega) (by omega) (by omega)
theorem off_LK : True := by
  w_top off
  trivial
theorem TabC.mono {qual : Str} {ps : Array Value} {codes codes' : List (Addr × Obj)} (K : TabC qual ps codes) (h : ∀ q ∈ codes, q ∈ codes') : TabC qual ps codes' :=
  ⟨K.1, fun pos cv e => let ⟨c', oc, vs, t, a, b, r⟩ := K.2 pos cv e; ⟨c', oc, vs, t, a, h _ b, r⟩⟩
noncomputable def msgs (rs : List (Int × List UInt8)) : List (List UInt8) := rs.map fun r => msg r.1 r.2
noncomputable abbrev RowP (rs : List (Int × List UInt8)) (i : Nat) (x y : Value) : Prop := ∃ k b t1 t2, x = .int k t1 ∧ y = .bytes (b : List UInt8).toArray t2 ∧ rs[i]? = some (k, b) ∧ 0 ≤ k ∧ k < 256 ∧ b.length ≤ 10
theorem rl_pair {h₀ h : Heap} {L : Addr} {ys : List Value} {ds nw : List (Addr × Obj)} {rs : List (Int × List UInt8)} {i : Nat} {v : Value} (R : RL ys ds rs) (hv : ys[i]? = some v) (N : News h₀ L h nw) (sub : ∀ d ∈ ds, d ∈ nw) : ∃ t a b, v = .ref t ∧ IsTup h t #[a, b] ∧ RowP rs i a b := by
  refine cps fun G9 r9 => ?_
  obtain ⟨D, k, b, t, t', e1, e2, e3, e4, e5, e6⟩ := R.at i (List.getElem?_eq_some_iff.mp hv).1
  refine r9 ?_
  clear r9 G9
  rw [hv] at e1
  cases e1
  exact ⟨D, _, _, rfl, News.isTup N (sub _ e3), k, b, t, t', rfl, rfl, e2, e4, e5, e6⟩
theorem rl_refs {ys : List Value} {ds : List (Addr × Obj)} {rs : List (Int × List UInt8)} (h : RL ys ds rs) (v : Value) (hv : v ∈ ys) : ∃ t, v = .ref t := by
  refine cps fun G9 r9 => ?_
  obtain ⟨i, hi, rfl⟩ := List.getElem_of_mem hv
  obtain ⟨D, _, _, _, _, e, _⟩ := RL.at i h hi
  refine r9 ?_
  clear r9 G9
  rw [List.getElem?_eq_getElem hi] at e
  exact ⟨D, Option.some.inj e⟩
noncomputable abbrev scW (mo : List (Str × Const)) : Scope := { kind := .function, names := [(Str.ofString ".0", .local), (Str.ofString "kind", .local), (Str.ofString "body", .local), (Str.ofString "bytes", .globalImplicit), (Str.ofString "len", .globalImplicit)], isGenerator := false, isCoroutine := false, more := mo }
noncomputable abbrev scP (mo : List (Str × Const)) : Scope := { kind := .function, names := [(Str.ofString ".0", .local), (Str.ofString "kind", .local), (Str.ofString "body", .local), (Str.ofString "put_message", .globalImplicit)], isGenerator := false, isCoroutine := false, more := mo }
set_option maxHeartbeats 4000000 in
theorem comp_puts {prog : Program} {w : World} {iter : PySem.Expr} {p0 p1 p2 p3 p4 p5 p6 : Pos} {kt : Nat} {mo : List (Str × Const)} {pos : Pos} {ys : List Value} {ds : List (Addr × Obj)} {rs : List (Int × List UInt8)} {l : Addr}
    {dp un : Nat} {cn : Str} {cs : Scope} {a : Addr} {ccd : Value} {cl : List (Str × Addr)} {outer : List Env} {A₀ : Around} {base h₀ : Heap} {L : Addr} {m : Str → Option Value} {s : Shared}
    {p : Program} {loose : List Str} {mean : ExcName → Option Value} {mg mb : Str → Option Value} {Q : Value → Shared → Prop} {news : List (Addr × Obj)}
    (R : RL ys ds rs) (hn : rs.length ≤ 1000) (sub : ∀ d ∈ ds, d ∈ news)
    (B : Below A₀ base outer h₀) (F : Fr h₀ L s.heap m) (X : (hd.heap_1 w.params).In h₀) (T : Top p loose mean mg mb h₀) (hk : cs.kind = .function) (hdp : dp + 10 < recursionLimit) (hu : un + 40 < cLine) (N : News h₀ L s.heap news) (S : SrcAt h₀ l ys.toArray news)
    (hit : ∀ (Q' : Value → Shared → Prop), Q' (.ref l) s → wpN (model prog w) (ktrTop dp un (some []) cn cs L a ccd cl outer) (eval iter (envX cn cs L a ccd cl)) Q' Fl s) (hs : ∀ x, foldedSetIterable iter (envX cn cs L a ccd cl) x = pure x)
    (fin : ∀ D h tk zs, Fr h₀ L h m → News h₀ L h ((D, lst zs) :: news) → Off1 D news → Bys zs (msgs rs) → Q (.ref D) { s with heap := h, toks := tk }) :
    wpN (model prog w) (ktrTop dp un (some []) cn cs L a ccd cl outer) (eval (.ListComp (.Call (.Name (Str.ofString "put_message") p0) [.Name (Str.ofString "kind") p1, .Name (Str.ofString "body") p2] [] p3)
      [⟨.Tuple [.Name (Str.ofString "kind") p4, .Name (Str.ofString "body") p5] kt p6, iter, [], 0⟩] (scP mo) pos) (envX cn cs L a ccd cl)) Q Fl s := by
  have hlen := R.length
  refine n_ListCompT (cl := []) (by rfl) rfl (by show ∀ x ∈ [(Str.ofString ".0", NameKind.local), (Str.ofString "kind", .local), (Str.ofString "body", .local), (Str.ofString "put_message", .globalImplicit)], x.2 = .local → List.lookup x.1 [(Str.ofString ".0", NameKind.local), (Str.ofString "kind", .local), (Str.ofString "body", .local), (Str.ofString "put_message", .globalImplicit)] = some .local; decide) (hit _ ?_) hs
  have hh : (ktrTop dp un (some []) cn cs L a ccd cl outer).handled = none := rfl
  refine src_list2 (its := ys) (J := fun i zs nw => nw = news ∧ Bys zs (msgs (rs.take i))) hh F N (by omega) (fun i zs nw j => by rw [j.1]; exact S) (by show ∀ x ∈ [(Str.ofString ".0", NameKind.local), (Str.ofString "kind", .local), (Str.ofString "body", .local), (Str.ofString "put_message", .globalImplicit)], x.2 ≠ .cell; decide) rfl (by with_unfolding_all rfl) (by with_unfolding_all rfl) ⟨rfl, .nil⟩ (RowP rs) (rl_refs R) (fun i v h nw zs hv j _ N' => rl_pair R hv N' (by rw [j.1]; exact sub)) ?_ ?_
  · intro i zs x y news₁ I oI C oC D mC h₂ tk₂ hi hy z9a z9b hoC F₂ N₂ off nIC nID nCD
    refine cps fun G7 r7 => ?_
    obtain ⟨k, b, t1, t2, rfl, rfl, e1, e2, e3, e4⟩ := z9a
    obtain ⟨rfl, hys⟩ := z9b
    refine r7 ?_
    clear r7 G7
    refine n_tests0 ?_
    rw [if_pos rfl]
    clear N F hit fin
    walk_at "mine steps"
    have N9 := ‹News h₀ L _ (_ :: _)›
    have e9 := ‹_ = msg k b›
    refine CEnd.intro ‹Fr h₀ L _ m› N9 hoC (by exact off) ⟨rfl, ?_⟩
    rw [List.take_add_one, e1]
    show Bys _ (((rs.take i) ++ [(k, b)]).map fun r => msg r.1 r.2)
    rw [List.map_append]
    show Bys _ (_ ++ [msg k b])
    rw [← e9]
    exact hys.push
  · intro D C oC h₂ tk₂ zs news' c2 F' N' nCD off hyl z9a
    refine cps fun G7 r7 => ?_
    obtain ⟨rfl, hys⟩ := z9a
    refine r7 ?_
    clear r7 G7
    rw [hlen, List.take_length] at hys
    refine outE (s := ⟨_, _, _, _, _⟩) c2 F' N' nCD off (fun h₃ F₃ N₃ o1 => ?_)
    exact fin D h₃ _ zs F₃ N₃ o1 hys
set_option maxHeartbeats 4000000 in
theorem comp_whole {prog : Program} {w : World} {iter : PySem.Expr} {p0 p1 p2 p3 p4 p5 p6 p7 p8 p9 q1 q2 q3 q4 py spos : Pos} {kt : Nat} {mo : List (Str × Const)} {pos : Pos} {ys : List Value} {ds : List (Addr × Obj)} {rs : List (Int × List UInt8)} {l : Addr}
    {dp un : Nat} {cn : Str} {cs : Scope} {a : Addr} {ccd : Value} {cl : List (Str × Addr)} {outer : List Env} {A₀ : Around} {base h₀ : Heap} {L : Addr} {m : Str → Option Value} {s : Shared}
    {p : Program} {loose : List Str} {mean : ExcName → Option Value} {mg mb : Str → Option Value} {Q : Flow → Shared → Prop} {news : List (Addr × Obj)}
    (R : RL ys ds rs) (hn : rs.length ≤ 1000) (sub : ∀ d ∈ ds, d ∈ news)
    (B : Below A₀ base outer h₀) (F : Fr h₀ L s.heap m) (X : (hd.heap_1 w.params).In h₀) (T : Top p loose mean mg mb h₀) (hk : cs.kind = .function) (hdp : dp + 10 < recursionLimit) (hu : un + 40 < cLine) (N : News h₀ L s.heap news) (S : SrcAt h₀ l ys.toArray news)
    (hsw : swapsWith (.ListComp (.BinOp (.Call (.Name (Str.ofString "bytes") p0) [.List [.Name (Str.ofString "kind") p1, .Constant (Const.int 0) 0 p2, .Constant (Const.int 0) 0 p3, .Call (.Name (Str.ofString "len") p4) [.Name (Str.ofString "body") p5] [] p6] p7] [] p8) .Add (.Name (Str.ofString "body") p9) q1) [⟨.Tuple [.Name (Str.ofString "kind") q2, .Name (Str.ofString "body") q3] kt q4, iter, [], 0⟩] (scW mo) pos) (some (.Name (Str.ofString "whole") py)) spos.line (envX cn cs L a ccd cl) = pure true)
    (hy' : (envX cn cs L a ccd cl).kindOf (Str.ofString "whole") = some .local) (hp : ((envX cn cs L a ccd cl).scope.kind == .class || ((envX cn cs L a ccd cl).scope.kind == .module && (envX cn cs L a ccd cl).locals != (envX cn cs L a ccd cl).globals)) = false)
    (hit : ∀ (Q' : Value → Shared → Prop), Q' (.ref l) s → wpN (model prog w) (ktrTop dp un (some []) cn cs L a ccd cl outer) (eval iter (envX cn cs L a ccd cl)) Q' Fl s) (hs : ∀ x, foldedSetIterable iter (envX cn cs L a ccd cl) x = pure x)
    (fin : ∀ D h tk zs, Fr h₀ L h (fun z => if z = Str.ofString "whole" then some (.ref D) else m z) → News h₀ L h ((D, lst zs) :: news) → Off1 D news → Bys zs (msgs rs) → Q .next { s with heap := h, toks := tk }) :
    wpN (model prog w) (ktrTop dp un (some []) cn cs L a ccd cl outer) (exec (.Assign [.Name (Str.ofString "whole") py] (.ListComp (.BinOp (.Call (.Name (Str.ofString "bytes") p0) [.List [.Name (Str.ofString "kind") p1, .Constant (Const.int 0) 0 p2, .Constant (Const.int 0) 0 p3, .Call (.Name (Str.ofString "len") p4) [.Name (Str.ofString "body") p5] [] p6] p7] [] p8) .Add (.Name (Str.ofString "body") p9) q1)
      [⟨.Tuple [.Name (Str.ofString "kind") q2, .Name (Str.ofString "body") q3] kt q4, iter, [], 0⟩] (scW mo) pos) spos) (envX cn cs L a ccd cl)) Q Fl s := by
  have hlen := R.length
  refine n_AssignComp (cl := []) hsw (by rfl) rfl (by show ∀ x ∈ [(Str.ofString ".0", NameKind.local), (Str.ofString "kind", .local), (Str.ofString "body", .local), (Str.ofString "bytes", .globalImplicit), (Str.ofString "len", .globalImplicit)], x.2 = .local → List.lookup x.1 [(Str.ofString ".0", NameKind.local), (Str.ofString "kind", .local), (Str.ofString "body", .local), (Str.ofString "bytes", .globalImplicit), (Str.ofString "len", .globalImplicit)] = some .local; decide) (hit _ ?_) hs
  have hh : (ktrTop dp un (some []) cn cs L a ccd cl outer).handled = none := rfl
  refine src_list2 (its := ys) (J := fun i zs nw => nw = news ∧ Bys zs (msgs (rs.take i))) hh F N (by omega) (fun i zs nw j => by rw [j.1]; exact S) (by show ∀ x ∈ [(Str.ofString ".0", NameKind.local), (Str.ofString "kind", .local), (Str.ofString "body", .local), (Str.ofString "bytes", .globalImplicit), (Str.ofString "len", .globalImplicit)], x.2 ≠ .cell; decide) rfl (by with_unfolding_all rfl) (by with_unfolding_all rfl) ⟨rfl, .nil⟩ (RowP rs) (rl_refs R) (fun i v h nw zs hv j _ N' => rl_pair R hv N' (by rw [j.1]; exact sub)) ?_ ?_
  · intro i zs x y news₁ I oI C oC D mC h₂ tk₂ hi hy z9a z9b hoC F₂ N₂ off nIC nID nCD
    refine cps fun G7 r7 => ?_
    obtain ⟨k, b, t1, t2, rfl, rfl, e1, e2, e3, e4⟩ := z9a
    obtain ⟨rfl, hys⟩ := z9b
    refine r7 ?_
    clear r7 G7
    refine n_tests0 ?_
    rw [if_pos rfl]
    clear N F hit fin hsw
    walk_at "mine steps"
    have N9 := ‹News h₀ L _ (_ :: _)›
    have e9 := ‹_ = [k.toNat.toUInt8, _, _, _]›
    have e10 := ‹_ = _ ++ b›
    refine CEnd.intro ‹Fr h₀ L _ m› (fun q hq => N9 q (.tail _ hq)) hoC (by exact off) ⟨rfl, ?_⟩
    rw [List.take_add_one, e1]
    show Bys _ (((rs.take i) ++ [(k, b)]).map fun r => msg r.1 r.2)
    rw [List.map_append]
    have e11 : msg k b = [k.toNat.toUInt8, (0 : Int).toNat.toUInt8, (0 : Int).toNat.toUInt8, (b.length : Int).toNat.toUInt8] ++ b := rfl
    show Bys _ (_ ++ [msg k b])
    rw [e11, ← e9, ← e10]
    exact hys.push
  · intro D C oC h₂ tk₂ zs news' c2 F' N' nCD off hyl z9a
    refine cps fun G7 r7 => ?_
    obtain ⟨rfl, hys⟩ := z9a
    refine r7 ?_
    clear r7 G7
    rw [hlen, List.take_length] at hys
    refine outA (s := ⟨_, _, _, _, _⟩) c2 F' N' nCD off rfl hy' hp (fun h₃ tk₃ F₃ N₃ o1 => ?_)
    exact fin D h₃ _ zs F₃ N₃ o1 hys
theorem rl_mem {ys : List Value} {ds : List (Addr × Obj)} {rs : List (Int × List UInt8)} (h : RL ys ds rs) (r : Int × List UInt8) (hr : r ∈ rs) : 0 ≤ r.1 ∧ r.1 < 256 ∧ r.2.length ≤ 10 := by
  induction h with
  | nil => cases hr
  | cons q _ ih =>
    rcases List.mem_cons.mp hr with rfl | hr
    · exact q.2.2
    · exact ih hr
theorem msgs_len : ∀ {rs : List (Int × List UInt8)}, (∀ r ∈ rs, 0 ≤ r.1 ∧ r.1 < 256 ∧ r.2.length ≤ 10) → (msgs rs).flatten.length ≤ 14 * rs.length
  | [], _ => by simp [msgs]
  | r :: rs, h => by
    have e : (msgs (r :: rs)).flatten = msg r.1 r.2 ++ (msgs rs).flatten := rfl
    have h1 := msgs_len fun q hq => h q (.tail _ hq)
    have h2 := (h r (.head _)).2.2
    rw [e, List.length_append, msg_len, List.length_cons]
    omega
theorem off_LL : True := by
  w_top off
  trivial
/-- a loop over an iterator that hands out tuples -/
theorem n_forZ {prog : Program} {w : World} {A : Around} {s : Shared} {env : Env} {elts : List PySem.Expr} {kt : Nat} {pt : Pos} {body : List Stmt} {I : Addr} {fp wr : List Addr} {n : Nat} {Pt : Nat → Array Value → Prop} {St : Nat → Heap → Prop} {Mid : Nat → Addr → Heap → Prop} {Q : Flow → Shared → Prop} (J : Nat → Shared → Prop) (W : WalksT prog w A I fp wr n Pt St Mid) (hJ : ∀ i s, J i s → St i s.heap)
    (turn : ∀ i s T vals h₂ tk₂, i < n → J i s → Pt i vals → s.heap.objs.size ≤ T → h₂.IsTuple T vals → St (i + 1) h₂ → (∀ b o, b ∉ wr → s.heap.get? b = some o → h₂.get? b = some o) →
      wpN (model prog w) A (assign (.Tuple elts kt pt) env (.ref T)) (fun _ s₂ => wpN (model prog w) A (execs body env) (fun f s₃ => match f with | .next => J (i + 1) s₃ | .cont => J (i + 1) s₃ | .brk => Q .next s₃ | .ret v => Q (.ret v) s₃) Fl s₂) Fl { s with heap := h₂, toks := tk₂ })
    (fin : ∀ s h₁ tk₁, J n s → (∀ b o, b ∉ wr → s.heap.get? b = some o → h₁.get? b = some o) → Q .next { s with heap := h₁, toks := tk₁ }) (h : J 0 s) :
    codeN (model prog w) A (.forLoop (.Tuple elts kt pt) (.ref I) body [] env) (fun r s' => match r with | .ok f => Q f s' | .error _ => False) s := by
  have key : ∀ k i s, k = n - i → i ≤ n → J i s → codeN (model prog w) A (.forLoop (.Tuple elts kt pt) (.ref I) body [] env) (fun r s' => match r with | .ok f => Q f s' | .error _ => False) s := by
    intro k
    induction k with
    | zero =>
      intro i s hk hi hj
      obtain rfl : i = n := by omega
      exact n_forLoop (W.done s _ _ (hJ _ _ hj) fun h₁ tk₁ hk₁ => fin s h₁ tk₁ hj hk₁)
    | succ k ih =>
      intro i s hk hi hj
      refine n_forLoop (W.item i s _ _ (by omega) (hJ _ _ hj) fun T vals h₁ tk₁ hP hT hIT hmid hk₁ => ?_)
      refine W.go elts kt pt i T _ _ _ hmid fun h₂ st₂ hk₂ => ?_
      refine wpN_mono (turn i s T vals h₂ tk₁ (by omega) hj hP hT (hIT.at fun o e => hk₂ _ o (W.apart _ _ _ hmid) e) st₂ (fun b o nb e => hk₂ b o nb (hk₁ b o nb e))) (fun _ s₂ h₂ => wpN_mono h₂ (fun f s₃ h₃ => ?_) fun _ _ x => x) fun _ _ x => x
      cases f with
      | next => exact ih (i + 1) s₃ (by omega) (by omega) h₃
      | cont => exact ih (i + 1) s₃ (by omega) (by omega) h₃
      | brk => exact h₃
      | ret v => exact h₃
  exact key n 0 s (by omega) (Nat.zero_le _) h
theorem cut_pre (x : List UInt8) (k : Int) : ∃ j, cut x none (some k) = x.take j := ⟨clipAt x.length k, by
  unfold cut
  simp only [Option.elim, List.drop_zero, Nat.sub_zero]⟩
/-- what a turn of the messages' loop has told -/
noncomputable def trip (rs : List (Int × List UInt8)) : List Msg := rs.map fun r => (r.1, r.2, msg r.1 r.2)
/-- how far the loop has come -/
structure Far (most : Int) (rs : List (Int × List UInt8)) (y : List UInt8) (i : Nat) (at' : Int) : Prop where
  a0 : 0 ≤ at'
  a1 : at' ≤ y.length
  rest : ∃ j, y.drop at'.toNat = (msgs (rs.drop i)).flatten.take j
  sp_ : ∃ n, (y.drop at'.toNat).length ≤ n ∧ sp y.length most y = (sp n most (y.drop at'.toNat)).map fun q => (trip (rs.take i) ++ q.1, q.2)
theorem Far.start {most : Int} {rs : List (Int × List UInt8)} {j : Nat} : Far most rs ((msgs rs).flatten.take j) 0 0 where
  a0 := Int.le_refl _
  a1 := by omega
  rest := ⟨j, rfl⟩
  sp_ := ⟨_, Nat.le_refl _, by
    show sp _ most ((msgs rs).flatten.take j) = (sp _ most ((msgs rs).flatten.take j)).map _
    simp [trip]⟩
theorem msgs_drop {rs : List (Int × List UInt8)} {i : Nat} {k : Int} {b : List UInt8} (e : rs[i]? = some (k, b)) : (msgs (rs.drop i)).flatten = msg k b ++ (msgs (rs.drop (i + 1))).flatten := by
  have := List.drop_eq_getElem_cons (List.getElem?_eq_some_iff.mp e).1
  rw [this, (List.getElem?_eq_some_iff.mp e).2]
  rfl
theorem Far.over {most : Int} {rs : List (Int × List UInt8)} {y : List UInt8} {i : Nat} {at' k : Int} {b : List UInt8} (f : Far most rs y i at') (e : rs[i]? = some (k, b)) (hb : b.length < 256) (h4 : 4 ≤ (y.length : Int) - at') (hm : most < b.length) : sp y.length most y = none := by
  refine cps fun G9 r9 => ?_
  obtain ⟨j, hj⟩ := f.rest
  obtain ⟨n, _, hs⟩ := f.sp_
  refine r9 ?_
  clear r9 G9
  have a0 := f.a0
  have a1 := f.a1
  have hl : (y.drop at'.toNat).length = y.length - at'.toNat := List.length_drop
  rw [msgs_drop e] at hj
  rw [hs, hj, sp_go1 (by rw [← hj, hl]; omega) hb hm]
  rfl
theorem Far.part {most : Int} {rs : List (Int × List UInt8)} {y : List UInt8} {i : Nat} {at' k : Int} {b : List UInt8} (f : Far most rs y i at') (e : rs[i]? = some (k, b)) (hb : b.length < 256) (h0 : ¬ (4 ≤ (y.length : Int) - at' ∧ most < b.length)) (h : (y.length : Int) - at' < (msg k b).length) :
    sp y.length most y = some (trip (rs.take i), y.drop at'.toNat) := by
  refine cps fun G9 r9 => ?_
  obtain ⟨j, hj⟩ := f.rest
  obtain ⟨n, hn, hs⟩ := f.sp_
  refine r9 ?_
  clear r9 G9
  have a0 := f.a0
  have a1 := f.a1
  have hl : (y.drop at'.toNat).length = y.length - at'.toNat := List.length_drop
  rw [msg_len] at h
  rw [msgs_drop e] at hj
  rw [hj] at hn
  have hl2 : ((msg k b ++ (msgs (rs.drop (i + 1))).flatten).take j).length = y.length - at'.toNat := by rw [← hj, hl]
  rw [hs, hj, sp_go2 hn hb (fun z => h0 ⟨by omega, z.2⟩) (by omega)]
  simp
theorem Far.next {most : Int} {rs : List (Int × List UInt8)} {y : List UInt8} {i : Nat} {at' k : Int} {b : List UInt8} (f : Far most rs y i at') (e : rs[i]? = some (k, b)) (k0 : 0 ≤ k) (k1 : k < 256) (hb : b.length < 256) (h0 : ¬ (4 ≤ (y.length : Int) - at' ∧ most < b.length)) (h : ¬ (y.length : Int) - at' < (msg k b).length) :
    Far most rs y (i + 1) (at' + (msg k b).length) := by
  refine cps fun G9 r9 => ?_
  obtain ⟨j, hj⟩ := f.rest
  obtain ⟨n, hn, hs⟩ := f.sp_
  have a0 := f.a0
  have a1 := f.a1
  have hl : (y.drop at'.toNat).length = y.length - at'.toNat := List.length_drop
  rw [msg_len] at h
  rw [msgs_drop e] at hj
  rw [hj] at hn
  have hl2 : ((msg k b ++ (msgs (rs.drop (i + 1))).flatten).take j).length = y.length - at'.toNat := by rw [← hj, hl]
  obtain ⟨n', h1, h2, h3⟩ := sp_go3 (most := most) hn k0 k1 hb (fun z => h0 ⟨by omega, z⟩) (by omega)
  refine r9 ?_
  clear r9 G9
  have ed : y.drop (at' + (msg k b).length).toNat = (y.drop at'.toNat).drop (4 + b.length) := by
    rw [List.drop_drop, msg_len]
    congr 1
    omega
  refine ⟨by rw [msg_len]; omega, by rw [msg_len]; omega, ⟨_, by rw [ed, hj, h3]⟩, n', by rw [ed, hj]; exact h2, ?_⟩
  rw [hs, hj, h1, ed, hj, Option.map_map]
  have et : trip (rs.take (i + 1)) = trip (rs.take i) ++ [(k, b, msg k b)] := by
    rw [List.take_add_one, e]
    show ((rs.take i) ++ [(k, b)]).map _ = _
    rw [List.map_append]
    rfl
  rw [et]
  congr 1
  funext q
  simp
theorem Far.done {most : Int} {rs : List (Int × List UInt8)} {y : List UInt8} {i : Nat} {at' : Int} (f : Far most rs y i at') (hi : rs.length ≤ i) : sp y.length most y = some (trip (rs.take i), y.drop at'.toNat) := by
  refine cps fun G9 r9 => ?_
  obtain ⟨j, hj⟩ := f.rest
  obtain ⟨n, hn, hs⟩ := f.sp_
  refine r9 ?_
  clear r9 G9
  have e : y.drop at'.toNat = [] := by rw [hj, List.drop_of_length_le hi]; simp [msgs]
  rw [hs, e, sp_go0]
  simp
section
theorem off_TS : True := by
  w_top off
  trivial
theorem words83 : True := by
  (k_with "mine nstep" => ((with_reducible show wpN _ _ (exec (Stmt.Assign [PySem.Expr.Name _ _] (PySem.Expr.ListComp _ _ _ _) _) _) _ _ _); refine halt ?_))
  trivial
theorem words84 : True := by
  (k_with "call type:zip" => (refine halt ?_))
  trivial
theorem words85 : True := by
  (k_with "eval Lambda" => (refine halt ?_))
  trivial
theorem words86 : True := by
  (k_with "eval Name" => (refine nameX_L (by k_asm) (by assumption) ?_ (by rfl) (by rfl); k_whole))
  trivial
/-- messages, compared -/
theorem msgs_smN {h : Heap} {n : Nat} {vs vs' : List Value} {xs : List Msg} (a : Msgs (fun a o => h.get? a = some o) vs xs) (b : Msgs (fun a o => h.get? a = some o) vs' xs) : SmAll h (n + 1) vs vs' :=
  All2.join (fun v v' f x x' => by
    refine cps fun G9 r9 => ?_
    obtain ⟨a, t1, t2, t3, rfl, g⟩ := x
    obtain ⟨a', t1', t2', t3', rfl, g'⟩ := x'
    refine r9 ?_
    clear r9 G9
    exact sm_tup (vs := [_, _, _]) (vs' := [_, _, _]) ⟨_, g, rfl, _, rfl⟩ ⟨_, g', rfl, _, rfl⟩ (sm_cons sm_int (sm_cons sm_by (sm_cons sm_by sm_nil)))) a b
theorem msgs_len9 {P : Addr → Obj → Prop} {vs : List Value} {xs : List Msg} (h : Msgs P vs xs) : vs.length = xs.length := All2.length h
theorem trip_succ {rs : List (Int × List UInt8)} {i : Nat} {k : Int} {b : List UInt8} (e : rs[i]? = some (k, b)) : trip (rs.take (i + 1)) = trip (rs.take i) ++ [(k, b, msg k b)] := by
  rw [List.take_add_one, e]
  show ((rs.take i) ++ [(k, b)]).map _ = _
  rw [List.map_append]
  rfl
theorem News.keptLow {g h h' : Heap} {L : Addr} {Z : Nat} {low : List (Addr × Obj)} (N : News g L h low) (k : Keeps [Z + 4, Z + 3, Z, Z + 1] h h') (lt : ∀ a ∈ low.map (·.1), @LT.lt Nat _ a Z) : News g L h' low := fun q hq => ⟨k _ _ (N q hq).1 (fun z => by
  have l := lt q.1 (List.mem_map_of_mem hq)
  simp only [List.mem_cons, List.not_mem_nil, or_false] at z
  rcases z with z | z | z | z
  all_goals (have z' : @Eq Nat _ _ := z; omega)), (N q hq).2⟩
theorem zip_two {Z : Nat} : Z + 2 ∉ [Z + 4, Z + 3, Z, Z + 1] := fun z => by
  simp only [List.mem_cons, List.not_mem_nil, or_false] at z
  omega
inductive TSCut (codes : List (Addr × Obj)) (L' P : Addr) (y : List UInt8) (most : Int) (pen o3 oD oM : Obj) (St : ((Str → Option Value) → Prop) → List (Addr × Obj) → Shared → Prop) (s' : Shared) : Prop
  | mk (ps5 : Array Value) (cod5 : List (Addr × Obj)) (De : Nat) (vsD : List Value) (xs : List Msg) (at5 : Int) (ta : Tok) (n5 : Nat) (K : TabC (Str.ofString "_law_split_right.<locals>.<lambda>") ps5 cod5) (ap : Apart [P, 166, L' + 1, L' + 1 + 1, L' + 1 + 1 + 1] cod5) (cd : Cds codes L' cod5) (ms : Msgs (fun a o => (a, o) ∈ cod5) vsD xs) (dq : @Ne Nat De 166 ∧ @Ne Nat De P) (a0 : 0 ≤ at5) (a1 : at5 ≤ y.length) (hsp : sp y.length most y = some (xs, y.drop at5.toNat))
    (st : St (fun m => m (Str.ofString "due") = some (.ref De) ∧ m (Str.ofString "at") = some (.int at5 ta)) ((De, listOf vsD.toArray n5) :: (L' + 1, o3) :: (P, pen) :: (166, tabObj ps5) :: (L' + 1 + 1, oD) :: (L' + 1 + 1 + 1, oM) :: cod5) s') : TSCut codes L' P y most pen o3 oD oM St s'
inductive TSLoop (codes ds : List (Addr × Obj)) (rs : List (Int × List UInt8)) (L' P R W : Addr) (Z : Nat) (ys zs : List Value) (y : List UInt8) (most : Int) (pen o3 oD oM : Obj) (St : ((Str → Option Value) → Prop) → List (Addr × Obj) → Shared → Prop) (i : Nat) (s' : Shared) : Prop
  | mk (ps5 : Array Value) (cod5 : List (Addr × Obj)) (De : Nat) (vsD : List Value) (at5 : Int) (ta : Tok) (n5 : Nat) (za zb : Value) (oi1 oi2 : Obj) (K : TabC (Str.ofString "_law_split_right.<locals>.<lambda>") ps5 cod5) (sb : ∀ d ∈ ds, d ∈ cod5) (ap : Apart [P, 166, L' + 1, L' + 1 + 1, L' + 1 + 1 + 1, Z + 4, Z + 3, Z, Z + 1] cod5) (cd : Cds codes L' cod5) (ms : Msgs (fun a o => (a, o) ∈ cod5) vsD (trip (rs.take i))) (far : Far most rs y i at5)
    (dq : @Ne Nat De 166 ∧ @Ne Nat De P) (dz : @Ne Nat De (Z + 4) ∧ @Ne Nat De (Z + 3) ∧ @Ne Nat De Z ∧ @Ne Nat De (Z + 1)) (c1 : oi1.cls = .type "list_iterator") (d1 : oi1.data = .fields #[.ref R, .int (i : Nat) 0]) (c2 : oi2.cls = .type "list_iterator") (d2 : oi2.data = .fields #[.ref W, .int (i : Nat) 0])
    (st : St (fun m => m (Str.ofString "due") = some (.ref De) ∧ m (Str.ofString "at") = some (.int at5 ta))
      ((De, listOf vsD.toArray n5) :: (Z + 4, { cls := .type "zip", dict := none, data := .fields #[.none, .bool false, .bool false, .ref (Z + 2), .ref (Z + 3)], slots := #[] }) :: (Z + 2, { cls := .type "tuple", data := .seq #[.ref Z, .ref (Z + 1)] }) :: (Z + 3, { cls := .type "tuple", data := .seq #[za, zb] }) :: (Z, oi1) :: (Z + 1, oi2) ::
        (W, lst zs) :: (R, lst ys) :: (L' + 1, o3) :: (P, pen) :: (166, tabObj ps5) :: (L' + 1 + 1, oD) :: (L' + 1 + 1 + 1, oM) :: cod5) s') : TSLoop codes ds rs L' P R W Z ys zs y most pen o3 oD oM St i s'
set_option maxHeartbeats 4000000 in
theorem split_law {prog : Program} {w : World} : LawC prog w 169 166 (Str.ofString "_law_split_right.<locals>.<lambda>") 100 400 := by
  unfold LawC
  intro vs ns P l k c tk tc n ps codes dp un cn cs a ccd cl outer A₀ base h₀ L m s p loose mean mg mb Q E hi hn k0 k1 c0 c1 B F X N T XB TB hk hd hu hl hlP K hco hret
  refine wpN_call ?_
  walk_at "mine enterNC"
  (walk_at "mine shade"; rename_i g' L' h' tk' F' B' X' T' S' e' l1 o1 o2 o3 d1 d2 d3 N'; walk_at "mine light")
  replace F' : Fr g' L' h' (fun _ => none) := F'
  replace d1 : o1.data = .cell none := (by with_unfolding_all exact d1)
  replace d2 : o2.data = .cell none := (by with_unfolding_all exact d2)
  replace d3 : o3.data = .cell (some (.ref P)) := (by with_unfolding_all exact d3)
  refine cps fun G9 r9 => ?_
  obtain ⟨hPT, apc, hlg⟩ := law_pre N hl hlP hco S'
  have C' := code169 X'
  obtain ⟨lP, lT, lC⟩ := l1
  refine r9 ?_
  clear r9 G9
  replace apc : Apart [P, 166, L' + 1, L' + 1 + 1, L' + 1 + 1 + 1] codes := (apc.cells lC).sub (fun a ha => List.mem_append_left [L' + 1 + 1 + 1 + 1] ha)
  have hcds : Cds codes L' codes := fun q hq => .inl hq
  have tn : KtsTurn ((envX cn cs L a ccd cl :: outer).filterMap (·.frame)) g' g' := .refl
  have fin := law_end B F N XB TB S' e' hret (cn := cn) (cs := cs) (a := a) (ccd := ccd) (cl := cl)
  clear F N B X T hret e'
  walk_at "mine steps"
  unfold Halt
  (try dsimp only)
  refine n_noRaise ?_
  (walk_at "mine shade"; rename_i most tm _ _ _ m0 m1 _ oM Fw Nw dM _ _; walk_at "mine light")
  have Np := News.pick (p := (L' + 1, o3)) Nw (by k_mem) (News.pick (p := (P, _)) Nw (by k_mem) (News.pick (p := (L' + 1 + 1 + 1, oM)) Nw (by k_mem) (News.pick (p := (166, _)) Nw (by k_mem) (News.pick (p := (L' + 1 + 1, o2)) Nw (by k_mem) (rest := codes) (fun q hq => Nw q (by (repeat (first | exact hq | refine List.Mem.tail _ ?_))))))))
  clear Nw
  with_unfolding_all refine' comp_rows (s := ⟨_, _, _, _, _⟩) hi hn ?a0 ?a1 c0 c1 m0 m1 B' X' T' rfl ?a7 ?a8 Fw Np hlg ?a9 ?a10 d3 dM rfl rfl rfl rfl (fun _ => rfl) (fun _ => rfl) rfl rfl ?hit (fun _ => rfl) ?fin
  all_goals (try exact (⟨0, 0, 0, 0⟩ : Pos))
  case a0 => omega
  case a1 => omega
  case a7 => ktr_room
  case a8 => ktr_units
  case a9 => exact ⟨by k_ne, by k_ne⟩
  case a10 => exact apart1 (by first | k_all | fail)
  case hit =>
    intro Q' hQ
    walk_at "mine steps"
    dsimp only
    refine hQ _ _ _ _ _ _ _ _ _ (Int.toNat _) (by assumption) (by assumption) (by assumption) (Int.toNat_of_nonneg (by omega)).symm ?_ ?_ ?_
    all_goals omega
  case fin =>
    clear Np Fw
    intro R hx tkx ys ds rs k2 t2 Fx Nx ox hds R0 hrs b2 b3
    have apd : Apart [P, 166, L' + 1, L' + 1 + 1, L' + 1 + 1 + 1] (ds ++ codes) := fun q hq z => by
      rcases List.mem_append.mp hq with hq | hq
      · have o := (hds q hq).1
        simp only [List.mem_cons, List.not_mem_nil, or_false] at z
        rcases z with z | z | z | z | z
        · exact o.2.1 z.symm
        · exact o.2.2.2.1 z.symm
        · exact o.1 z.symm
        · exact o.2.2.2.2.1 z.symm
        · exact o.2.2.1 z.symm
      · exact apc q hq z
    have cdd : Cds codes L' (ds ++ codes) := fun q hq => by
      rcases List.mem_append.mp hq with hq | hq
      · exact .inr (Nat.lt_trans (Nat.lt_succ_self _) (hds q hq).2)
      · exact .inl hq
    have Kd := TabC.mono K (codes' := ds ++ codes) (fun q hq => List.mem_append_right _ hq)
    have Nq : News g' L' hx ((R, lst ys) :: (L' + 1, o3) :: (P, penO2 l k2 c t2 tc n) :: (166, tabObj ps) :: (L' + 1 + 1, o2) :: (L' + 1 + 1 + 1, oM) :: (ds ++ codes)) :=
      by
        have Nd : News g' L' hx (ds ++ codes) := fun q hq => by
          refine Nx q (.tail _ (.tail _ (.tail _ (.tail _ ?_))))
          rcases List.mem_append.mp hq with hq | hq
          · exact List.mem_append_left _ hq
          · exact List.mem_append_right _ (.tail _ (.tail _ hq))
        refine News.pick Nx (by k_mem) (News.pick Nx (by k_mem) (News.pick Nx (by k_mem) (News.pick Nx ?_ (News.pick Nx ?_ (News.pick Nx (by k_mem) Nd)))))
        · exact .tail _ (.tail _ (.tail _ (.tail _ (List.mem_append_right _ (.head _)))))
        · exact .tail _ (.tail _ (.tail _ (.tail _ (List.mem_append_right _ (.tail _ (.head _))))))
    have oR : @Ne Nat (L' + 1) R ∧ @Ne Nat P R ∧ @Ne Nat (L' + 1 + 1 + 1) R ∧ @Ne Nat 166 R ∧ @Ne Nat (L' + 1 + 1) R := by
      have o := off1_mem ox
      exact ⟨o _ (.head _), o _ (.tail _ (.head _)), o _ (.tail _ (.tail _ (.head _))), o (166, tabObj ps) (.tail _ (.tail _ (.tail _ (List.mem_append_right _ (.head _))))), o (L' + 1 + 1, o2) (.tail _ (.tail _ (.tail _ (List.mem_append_right _ (.tail _ (.head _))))))⟩
    clear Nx ox
    have sub : ∀ d ∈ ds, d ∈ ds ++ codes := fun d hd => List.mem_append_left _ hd
    have hds' : ∀ d ∈ ds, d ∈ ds ++ codes := sub
    clear hds hcds apc K
    refine cps fun G9 r9 => ?_
    obtain ⟨cod, hcod⟩ : ∃ cod, cod = ds ++ codes := ⟨_, rfl⟩
    refine r9 ?_
    clear r9 G9
    rw [← hcod] at Nq apd cdd Kd sub
    clear hds'
    have kk0 : k ≤ k2 := by omega
    have kk1 : k2 ≤ k + 12 := by omega
    dsimp only
    walk_at "mine steps"
    unfold Halt
    refine n_noRaise ?_
    have hrl := R0.length
    have hml := msgs_len (rl_mem R0)
    with_unfolding_all refine' comp_whole (s := ⟨_, _, _, _, _⟩) (l := R) R0 ?n9 ?sub9 B' ‹Fr g' L' _ _› X' T' rfl ?d ?u Nq ?S rfl rfl rfl ?hit (fun _ => rfl) ?fin
    case n9 => omega
    case sub9 => exact fun d hd => .tail _ (.tail _ (.tail _ (.tail _ (.tail _ (.tail _ (sub d hd))))))
    case d => ktr_room
    case u => ktr_units
    case S => exact .inr ⟨_, .head _, rfl, _, rfl⟩
    case hit =>
      intro Q' h
      walk_at "mine steps"
      exact h
    case fin =>
      clear Nq
      intro W h3 tk3 zs Fw Nw oW hzs
      simp only [Off1] at oW
      (try have oW_p1 := oW.1)
      (try have oW_p2 := oW.2.1)
      (try have oW_p3 := oW.2.2.1)
      (try have oW_p4 := oW.2.2.2.1)
      (try have oW_p5 := oW.2.2.2.2.1)
      (try have oW_p6 := oW.2.2.2.2.2.1)
      (try have oW_p7 := oW.2.2.2.2.2.2.1)
      (try have oW_p8 := oW.2.2.2.2.2.2.2.1)
      (try have oW_p9 := oW.2.2.2.2.2.2.2.2.1)
      (try have oW_p10 := oW.2.2.2.2.2.2.2.2.2.1)
      dsimp only
      walk_at "mine steps"
      unfold Halt
      (try dsimp only)
      refine n_noRaise ?_
      with_unfolding_all refine' comp_puts (s := ⟨_, _, _, _, _⟩) (l := R) R0 ?n8 ?sub8 B' ‹Fr g' L' _ _› X' T' rfl ?d8 ?u8 Nw ?S8 ?hit8 (fun _ => rfl) ?fin8
      case n8 => omega
      case sub8 => exact fun d hd => .tail _ (.tail _ (.tail _ (.tail _ (.tail _ (.tail _ (.tail _ (sub d hd)))))))
      case d8 => ktr_room
      case u8 => ktr_units
      case S8 => exact .inr ⟨_, .tail _ (.head _), rfl, _, rfl⟩
      case hit8 =>
        intro Q' h
        walk_at "mine steps"
        exact h
      case fin8 =>
        clear Nw
        intro D3 h4 tk4 zs2 F4 N4 ox4 hzs2
        walk_at "mine steps"
        unfold Halt
        refine cmp_ne (n := 0) (vs := zs2) (vs' := zs) (.inl ⟨News.isList N4 (.head _), News.isList N4 (.tail _ (.head _))⟩) (bys_smN hzs2 hzs) (by ktr_units) ?_
        have N5 := News.sub N4 (fun q hq => List.Mem.tail _ hq)
        clear N4 ox4 hzs2
        walk_at "mine steps"
        refine wpN_any ?_
        refine bj_run (s := ⟨h4, _, _, _, _⟩) (News.isList N5 (.head _)) hzs (by omega) (fun t5 k5 => ?_)
        walk_at "mine steps"
        (walk_at "mine shade"; rename_i oD0 dD0 qn2 en2 qk0 ek0 k92 t92 v9 t8 t91 h92 k91 v09 v19 h91 y ty k9 ey ly h94 oD dD qn1 en1 Du h93 lDu T9 h99 lT9 h97 h96 h95 F6 N6 qn0 en0; walk_at "mine light")
        clear dD0
        refine cps fun G9 r9 => ?_
        obtain ⟨j, hyj⟩ : ∃ j, y = (msgs rs).flatten.take j := by
          obtain ⟨j, e⟩ := cut_pre (msgs rs).flatten ((msgs rs).flatten.length - v9)
          exact ⟨j, by rw [ey, e]⟩
        refine r9 ?_
        clear r9 G9
        have hyl : y.length ≤ 60 := by omega
        have far0 : Far most rs y 0 0 := by rw [hyj]; exact Far.start
        have N7 := News.sub N6 (fun q hq => List.Mem.tail _ hq)
        unfold Halt
        (try dsimp only)
        refine n_cutE (fun s' => Halt (TSCut codes L' P y most (penO2 l (k2 + 1) c t91 tc n) o3 oD oM (LSt w (ktrTop dp un (some []) cn cs L a ccd cl outer) base (envX cn cs L a ccd cl :: outer) p loose mean mg mb g' L' l vs.toArray s) s')) ?_ ?_
        · refine n_noRaise (n_For ?_ (by intro _; rfl))
          walk_at "mine steps"
          unfold Halt
          have hR := (N7 (R, lst ys) (by k_mem)).1
          have hW := (N7 (W, lst zs) (by k_mem)).1
          refine call_zip_2 (s := ⟨h95, _, _, _, _⟩) ⟨_, hR, rfl, _, rfl⟩ ⟨_, hW, rfl, _, rfl⟩ (fun h8 z1 z2 z3 z4 z5 z6 zk => ?_)
          have hRl : @LT.lt Nat _ R h95.objs.size := Heap.lt_size hR
          have hWl : @LT.lt Nat _ W h95.objs.size := Heap.lt_size hW
          have hLl : @LT.lt Nat _ L' h95.objs.size := F6.ns.lt
          have hL3 : @LT.lt Nat _ (L' + 1 + 1 + 1) h95.objs.size := Heap.lt_size (N7 (L' + 1 + 1 + 1, oM) (by k_mem)).1
          dsimp only at z1 z2 z3 z4 z5 z6 zk ⊢
          refine cps fun G9 r9 => ?_
          obtain ⟨Z, hZ⟩ : ∃ Z : Nat, Z = h95.objs.size := ⟨_, rfl⟩
          refine r9 ?_
          clear r9 G9
          rw [← hZ] at z1 z2 z3 z4 z5 z6 hRl hWl hLl hL3 ⊢
          show wpAny _ _ (pyIter (.ref (Z + 4))) _ _ _
          refine wpAny_pyIter_zip (s := ⟨h8, _, _, _, _⟩) z1 ?_
          have DZ : ZipApart (Z + 4) (Z + 2) (Z + 3) Z (Z + 1) R W := by
            constructor <;> (intro q; have q' : @Eq Nat _ _ := q; omega)
          have hlow : ∀ a ∈ [W, R, L' + 1, P, 166, L' + 1 + 1, L' + 1 + 1 + 1], @LT.lt Nat _ a Z := by
            rw [hZ]
            have hl7 := allLt_of (d := h95.objs.size) (fun q hq => Heap.lt_size (N7 q hq).1)
            simp only [AllLt] at hl7
            simp only [List.forall_mem_cons, List.not_mem_nil, false_implies, implies_true, and_true]
            exact ⟨hl7.2.1, hl7.2.2.1, hl7.2.2.2.1, hl7.2.2.2.2.1, hl7.2.2.2.2.2.1, hl7.2.2.2.2.2.2.1, hl7.2.2.2.2.2.2.2.1⟩
          have ne4 : ∀ {b : Nat}, (@Ne Nat b (Z + 4) ∧ @Ne Nat b (Z + 3) ∧ @Ne Nat b Z ∧ @Ne Nat b (Z + 1)) → b ∉ [Z + 4, Z + 3, Z, Z + 1] := fun h z => by
            simp only [List.mem_cons, List.not_mem_nil, or_false] at z
            rcases z with z | z | z | z
            · exact h.1 z
            · exact h.2.1 z
            · exact h.2.2.1 z
            · exact h.2.2.2 z
          refine n_forZ (fun i s' => Halt (TSLoop codes ds rs L' P R W Z ys zs y most (penO2 l (k2 + 1) c t91 tc n) o3 oD oM (LSt w (ktrTop dp un (some []) cn cs L a ccd cl outer) base (envX cn cs L a ccd cl :: outer) p loose mean mg mb g' L' l vs.toArray s) i s'))
            (WalksT.zip2 rfl (Z + 4) (Z + 2) (Z + 3) Z (Z + 1) R W DZ ys.toArray zs.toArray) ?_ ?_ ?_ ?_
          · intro i s' z9a
            refine cps fun G7 r7 => ?_
            obtain ⟨ps5, cod5, De, vsD, at5, ta, n5, za, zb, oi1, oi2, K5, sb5, ap5, cd5, ms5, far5, dq5, dz5, c51, d51, c52, d52, g5, h5, tk5, m5, rfl, F5, N5, _⟩ := z9a
            refine r7 ?_
            clear r7 G7
            exact ⟨(N5 _ (.tail _ (.head _))).1, (N5 _ (.tail _ (.tail _ (.head _)))).1, ⟨za, zb, (N5 _ (.tail _ (.tail _ (.tail _ (.head _))))).1⟩, ⟨oi1, (N5 _ (.tail _ (.tail _ (.tail _ (.tail _ (.head _)))))).1, c51, d51⟩, ⟨oi2, (N5 _ (.tail _ (.tail _ (.tail _ (.tail _ (.tail _ (.head _))))))).1, c52, d52⟩,
              ⟨_, (N5 _ (.tail _ (.tail _ (.tail _ (.tail _ (.tail _ (.tail _ (.tail _ (.head _))))))))).1, rfl, _, rfl⟩, ⟨_, (N5 _ (.tail _ (.tail _ (.tail _ (.tail _ (.tail _ (.tail _ (.head _)))))))).1, rfl, _, rfl⟩⟩
          · intro i s' T9 vals h₂ tk₂ hi2 z9a z9b hTs hTup z9c hk5
            refine cps fun G7 r7 => ?_
            obtain ⟨ps5, cod5, De, vsD, at5, ta, n5, za, zb, oi1, oi2, K5, sb5, ap5, cd5, ms5, far5, dq5, dz5, c51, d51, c52, d52, g5, h5, tk5, m5, rfl, F5, N5, B5, X5, T5, hl5, tn5, hm5, hm6⟩ := z9a
            obtain ⟨xv, zv, ex, ez, rfl⟩ := z9b
            obtain ⟨st1, st2, ⟨za', zb', st3⟩, ⟨oi1', st4, st4c, st4d⟩, ⟨oi2', st5, st5c, st5d⟩, st6, st7⟩ := z9c
            refine r7 ?_
            clear r7 G7
            obtain ⟨D, kd, b, t, t', e1, e2, e3, e4, e5, e6⟩ := RL.at i R0 (by simp only [List.size_toArray] at hi2; omega)
            obtain ⟨f, tf, e7, e8⟩ := bys_at i hzs (by simp only [List.size_toArray] at hi2; omega)
            have hxv : xv = .ref D := by
              have : ys[i]? = some xv := by simpa using ex
              rw [e1] at this; exact (Option.some.inj this).symm
            have hzv : zv = .bytes f.toArray tf := by
              have : zs[i]? = some zv := by simpa using ez
              rw [e8] at this; exact (Option.some.inj this).symm
            have hf : f = msg kd b := by
              have : (msgs rs)[i]? = some (msg kd b) := by
                show (rs.map _)[i]? = _
                rw [List.getElem?_map, e2]; rfl
              rw [e7] at this; exact Option.some.inj this
            subst hxv hzv hf
            have C5 := code169 X5
            have kk : Keeps [Z + 4, Z + 3, Z, Z + 1] h5 h₂ := fun b o e nb => hk5 b o nb e
            have hmz : ∀ a ∈ [Z + 4, Z + 3, Z, Z + 1], g5.get? a = none ∧ a ≠ L' := fun a ha => by
              simp only [List.mem_cons, List.not_mem_nil, or_false] at ha
              rcases ha with rfl | rfl | rfl | rfl
              · exact ⟨(N5 _ (.tail _ (.head _))).2.2, (N5 _ (.tail _ (.head _))).2.1⟩
              · exact ⟨(N5 _ (.tail _ (.tail _ (.tail _ (.head _))))).2.2, (N5 _ (.tail _ (.tail _ (.tail _ (.head _))))).2.1⟩
              · exact ⟨(N5 _ (.tail _ (.tail _ (.tail _ (.tail _ (.head _)))))).2.2, (N5 _ (.tail _ (.tail _ (.tail _ (.tail _ (.head _)))))).2.1⟩
              · exact ⟨(N5 _ (.tail _ (.tail _ (.tail _ (.tail _ (.tail _ (.head _))))))).2.2, (N5 _ (.tail _ (.tail _ (.tail _ (.tail _ (.tail _ (.head _))))))).2.1⟩
            have up : ∀ q : Addr × Obj, News g5 L' h5 [q] → q.1 ∉ [Z + 4, Z + 3, Z, Z + 1] → News g5 L' h₂ [q] := fun q hq nq r hr => by
              rw [List.mem_singleton.mp hr]; exact ⟨kk _ _ (hq _ (.head _)).1 nq, (hq _ (.head _)).2⟩
            have at1 : ∀ q ∈ _, News g5 L' h5 [q] := fun q hq r hr => by rw [List.mem_singleton.mp hr]; exact N5 q hq
            have nw1 : ∀ (b : Addr) (o : Obj), b ∈ [Z + 4, Z + 3, Z, Z + 1] → h₂.get? b = some o → News g5 L' h₂ [(b, o)] := fun b o hb e r hr => by
              rw [List.mem_singleton.mp hr]; exact ⟨e, (hmz b hb).2, (hmz b hb).1⟩
            have N6 : News g5 L' h₂ ((De, listOf (vsD : List Value).toArray n5) :: (Z + 4, { cls := .type "zip", dict := none, data := .fields #[.none, .bool false, .bool false, .ref (Z + 2), .ref (Z + 3)], slots := #[] }) :: (Z + 2, { cls := .type "tuple", data := .seq #[.ref Z, .ref (Z + 1)] }) :: (Z + 3, { cls := .type "tuple", data := .seq #[za', zb'] }) :: (Z, oi1') :: (Z + 1, oi2') ::
                (W, lst zs) :: (R, lst ys) :: (L' + 1, o3) :: (P, penO2 l (k2 + 1) c t91 tc n) :: (166, tabObj ps5) :: (L' + 1 + 1, oD) :: (L' + 1 + 1 + 1, oM) :: cod5) := by
              refine News.cons (up _ (at1 _ (.head _)) (ne4 dz5)) (News.cons (nw1 _ _ (by k_mem) st1) (News.cons (up _ (at1 _ (by k_mem)) zip_two) (News.cons (nw1 _ _ (by k_mem) st3) (News.cons (nw1 _ _ (by k_mem) st4) (News.cons (nw1 _ _ (by k_mem) st5) ?_)))))
              exact News.app (xs := [(W, lst zs), (R, lst ys), (L' + 1, o3), (P, penO2 l (k2 + 1) c t91 tc n), (166, tabObj ps5), (L' + 1 + 1, oD), (L' + 1 + 1 + 1, oM)]) (News.keptLow (fun q hq => N5 q (.tail _ (.tail _ (.tail _ (.tail _ (.tail _ (.tail _ (List.mem_append_left cod5 hq)))))))) kk hlow)
                (fun q hq => ⟨kk _ _ (N5 q (.tail _ (.tail _ (.tail _ (.tail _ (.tail _ (.tail _ (.tail _ (.tail _ (.tail _ (.tail _ (.tail _ (.tail _ (.tail _ hq)))))))))))))).1 (fun z => ap5 q hq (List.mem_append_right [P, 166, L' + 1, L' + 1 + 1, L' + 1 + 1 + 1] z)), (N5 q (.tail _ (.tail _ (.tail _ (.tail _ (.tail _ (.tail _ (.tail _ (.tail _ (.tail _ (.tail _ (.tail _ (.tail _ (.tail _ hq)))))))))))))).2⟩)
            have F6' := fr_kept F5 kk hmz
            have hD : IsTup h₂ D #[.int kd t, .bytes b.toArray t'] := ⟨_, (N6 (D, rowO kd b t t') (by (repeat (first | exact sb5 _ e3 | refine List.Mem.tail _ ?_)))).1, rfl, _, rfl⟩
            with_unfolding_all refine wpN_any (unpackN_ (s := ⟨h₂, _, _, _, _⟩) F6' N6 hTup rfl rfl rfl fun h7 F7 N7 => ?_)
            have hD7 : IsTup h7 D #[.int kd t, .bytes b.toArray t'] := ⟨_, (N7 (D, rowO kd b t t') (by (repeat (first | exact sb5 _ e3 | refine List.Mem.tail _ ?_)))).1, rfl, _, rfl⟩
            with_unfolding_all refine assignInOrder_cons (unpackN_ (k := 0) (s := ⟨h7, _, _, _, _⟩) F7 N7 hD7 rfl rfl rfl fun h8' F8 N8 => ?_)
            with_unfolding_all refine assignInOrder_cons (assign_Name (storeX_L (s := ⟨h8', _, _, _, _⟩) F8 N8 (fun h9' F9 N9 => ?_) rfl rfl))
            with_unfolding_all refine assignInOrder_cons (assign_Name (storeX_L (s := ⟨h9', _, _, _, _⟩) F9 N9 (fun h10 F10 N10 => ?_) rfl rfl))
            refine assignInOrder_nil ?_
            with_unfolding_all refine assignInOrder_cons (assign_Name (storeX_L (s := ⟨h10, _, _, _, _⟩) F10 N10 (fun h11 F11 N11 => ?_) rfl rfl))
            refine assignInOrder_nil ?_
            clear N5 N6 N7 N8 N9 N10 F5 F6' F7 F8 F9 F10 hD hD7 hTup hk5 kk up at1 nw1 st1 st2 st3 st6 st7
            have g1 : (fun y => if y = Str.ofString "message" then some (Value.bytes (msg kd b).toArray tf) else if y = Str.ofString "body" then some (.bytes b.toArray t') else if y = Str.ofString "kind" then some (.int kd t) else m5 y) (Str.ofString "kind") = some (.int kd t) := rfl
            have g2 : (fun y => if y = Str.ofString "message" then some (Value.bytes (msg kd b).toArray tf) else if y = Str.ofString "body" then some (.bytes b.toArray t') else if y = Str.ofString "kind" then some (.int kd t) else m5 y) (Str.ofString "body") = some (.bytes b.toArray t') := rfl
            have g3 : (fun y => if y = Str.ofString "message" then some (Value.bytes (msg kd b).toArray tf) else if y = Str.ofString "body" then some (.bytes b.toArray t') else if y = Str.ofString "kind" then some (.int kd t) else m5 y) (Str.ofString "message") = some (.bytes (msg kd b).toArray tf) := rfl
            have g4 : (fun y => if y = Str.ofString "message" then some (Value.bytes (msg kd b).toArray tf) else if y = Str.ofString "body" then some (.bytes b.toArray t') else if y = Str.ofString "kind" then some (.int kd t) else m5 y) (Str.ofString "due") = some (.ref De) := hm5
            have g5' : (fun y => if y = Str.ofString "message" then some (Value.bytes (msg kd b).toArray tf) else if y = Str.ofString "body" then some (.bytes b.toArray t') else if y = Str.ofString "kind" then some (.int kd t) else m5 y) (Str.ofString "at") = some (.int at5 ta) := hm6
            generalize em7 : (fun y => if y = Str.ofString "message" then some (Value.bytes (msg kd b).toArray tf) else if y = Str.ofString "body" then some (.bytes b.toArray t') else if y = Str.ofString "kind" then some (.int kd t) else m5 y) = m7 at g1 g2 g3 g4 g5' F11
            clear em7 hm5 hm6
            dsimp only
            refine cps fun G9 r9 => ?_
            obtain ⟨nws, hnws⟩ : ∃ nws, nws = ((De, listOf (vsD : List Value).toArray n5) :: (Z + 4, { cls := .type "zip", dict := none, data := .fields #[.none, .bool false, .bool false, .ref (Z + 2), .ref (Z + 3)], slots := #[] }) :: (Z + 2, { cls := .type "tuple", data := .seq #[.ref Z, .ref (Z + 1)] }) :: (Z + 3, { cls := .type "tuple", data := .seq #[za', zb'] }) :: (Z, oi1') :: (Z + 1, oi2') ::
                (W, lst zs) :: (R, lst ys) :: (L' + 1, o3) :: (P, penO2 l (k2 + 1) c t91 tc n) :: (166, tabObj ps5) :: (L' + 1 + 1, oD) :: (L' + 1 + 1 + 1, oM) :: cod5 : List (Addr × Obj)) := ⟨_, rfl⟩
            refine r9 ?_
            clear r9 G9
            refine n_cut1 (fun s' => Halt (¬ (4 ≤ (y.length : Int) - at5 ∧ most < b.length) ∧ ∃ h tk, s' = { s with heap := h, toks := tk } ∧ Fr g5 L' h m7 ∧ News g5 L' h nws)) ?_ ?_
            · walk_at "mine steps"
              · replace ap5 : Apart [P, 166, L' + 1, L' + 1 + 1, L' + 1 + 1 + 1] cod5 := ap5.sub (fun a ha => List.mem_append_left [Z + 4, Z + 3, Z, Z + 1] ha)
                have Nr : News g5 L' h11 ((L' + 1, o3) :: (P, penO2 l (k2 + 1) c t91 tc n) :: (166, tabObj ps5) :: (L' + 1 + 1, oD) :: (L' + 1 + 1 + 1, oM) :: cod5) := News.sub N11 (fun q hq => .tail _ (.tail _ (.tail _ (.tail _ (.tail _ (.tail _ (.tail _ (.tail _ hq))))))))
                clear N11 hnws
                have hs0 := far5.over e2 (by omega) (by assumption) (by assumption)
                unfold Halt
                (try dsimp only)
                with_unfolding_all refine' mk_lam2 ?Fa ?Na ?Ta ?cda ?Ca ?Ua ?Ka ?apa ?cdsa ?inna ?Pa ?La ?suba ?dfa ?cla ?_
                case Fa => k_asm
                case Na => k_asm
                case Ta => k_asm
                case cda => exact rfl
                case Ca => assumption
                case Ua => k_updF
                case Ka => k_dflt assumption
                case apa => k_dflt assumption
                case cdsa => assumption
                case inna => k_dflt (repeat (first | exact AllIn.nil | (apply AllIn.cons; focus k_mem)))
                case Pa => k_dflt k_mem
                case La => exact ⟨_, List.Mem.tail _ (List.Mem.tail _ (List.Mem.head _)), Nat.lt_succ_self _⟩
                case suba => intro q hq; k_dflt (repeat (first | exact hq | refine List.Mem.tail _ ?_))
                case dfa => exact rfl
                case cla => exact rfl
                intro f9 ps9 codes9 h9 tk9 F9 N9 Nc9 K9 ap9 cds9 lt9 lam9 fn9
                (try dsimp only at N9)
                have N8 := News.mg N9 Nc9 (by k_dflt (repeat (first | with_reducible exact Mg.nil | apply Mg.cons)))
                clear N9 Nc9 Nr F11
                walk_at "mine steps"
                unfold Halt
                (try dsimp only)
                have hyl5 : y.length ≤ 500 := by omega
                with_unfolding_all refine' told_law (s := ⟨_, _, _, _, _⟩) (l := l) (its := vs.toArray) N8 F9 B5 X5 T5 XB TB rfl .refl hl5 ?da ?ua fn9 ?Wa ?staba ?reta
                case Wa =>
                  refine' work_split2 hyl5 m0 lam9 ?c0a ?c1a
                  case c0a => walk_at "mine cell"
                  case c1a => walk_at "mine cell"
                case da => ktr_room
                case ua => ktr_units
                case staba =>
                  intro h1 h2 v z9a k
                  refine cps fun G7 r7 => ?_
                  obtain ⟨T3, D3, vs3, xs3, n3, t3, rest3, q1, q2, q3, q4, q5, q6, q7⟩ := z9a
                  refine r7 ?_
                  clear r7 G7
                  exact ⟨T3, D3, vs3, xs3, n3, t3, rest3, q1, q2, q3, k.all _ _ q4, k.all _ _ q5, q6.mono (fun _ _ z => ⟨z.1, k.all _ _ z.2⟩), q7⟩
                case reta =>
                  intro r6 h6 tk6 g6 F6 B6 X6 T6 N6 hl6 tn6 ot6 tl6
                  refine cps fun G9 r9 => ?_
                  obtain ⟨T2, rfl, ht⟩ := tl6
                  refine r9 ?_
                  clear r9 G9
                  refine cps fun G8 r8 => ?_
                  rcases ht with ⟨v2, t5, eT2, T3, D3, vs3, xs3, n3, t3, rest3, rfl, q2, q3, q4, q5, q6, q7⟩ | ⟨_, t5, t6, eT2, hb2⟩
                  · refine r8 ?_
                    clear r8 G8
                    rw [hs0] at q7
                    cases q7
                  · refine r8 ?_
                    clear r8 G8
                    refine cps fun G9 r9 => ?_
                    obtain ⟨rfl, _⟩ := hb2
                    refine r9 ?_
                    clear r9 G9
                    have N7 := News.cons eT2 N6
                    clear N6 N8 ot6 F9 lam9
                    dsimp only
                    walk_at "mine steps"
                    unfold Halt
                    have N10 := ‹News g6 L' _ (_ :: _)›
                    refine told_eq (n := 0) (N10 _ (.tail _ (.head _))).1 (N10 _ (.head _)).1 sm_int (by ktr_units) ?_
                    dsimp only
                    exact fin _ _ g6 _ (k2 + 1) t91 _ _ (by assumption) (tn5.trans tn6) (News.sub N10 (fun q hq => by
                      rcases List.mem_cons.mp hq with rfl | hq
                      · k_mem
                      · rcases List.mem_cons.mp hq with rfl | hq
                        · k_mem
                        · (repeat (first | exact hq | refine List.Mem.tail _ ?_)))) (by omega) (by omega) K9 cds9
              · show Halt _
                exact halt' ⟨by omega, _, _, rfl, F11, by rw [hnws]; exact N11⟩
              · show Halt _
                exact halt' ⟨by omega, _, _, rfl, F11, by rw [hnws]; exact N11⟩
            · subst hnws
              intro s' z9a
              refine cps fun G7 r7 => ?_
              obtain ⟨h0, h12, tk12, rfl, F12, N12⟩ := z9a
              refine r7 ?_
              clear r7 G7
              have hml2 := msg_len kd b
              clear N11 F11
              walk_at "mine steps"
              · show Halt _
                refine' halt' ⟨ps5, cod5, De, vsD, _, at5, ta, n5, K5, ap5.sub (fun a ha => List.mem_append_left [Z + 4, Z + 3, Z, Z + 1] ha), cd5, ms5, dq5, far5.a0, far5.a1, far5.part e2 (by omega) h0 (by assumption), g5, h12, _, m7, rfl, F12, ?Nb, B5, X5, T5, hl5, tn5, ⟨g4, g5'⟩⟩
                case Nb => walk_at "mine pick"
              · (walk_at "mine shade"; rename_i kq tq hge _ _ _ _ Tm h14 lTm lq h15 F15 N15 llq; walk_at "mine light")
                have hvl : vsD.length ≤ 3 := by
                  have := msgs_len9 ms5
                  simp only [trip, List.length_map, List.length_take] at this
                  omega
                have hsl := sizeLine_eq
                refine add_lists (s := ⟨h15, _, _, _, _⟩) F15 N15 (News.isList N15 (by k_mem)) (News.isList N15 (.head _)) (fun h16 F16 N16 => ?_) (by simp only [List.length_cons, List.length_nil]; omega)
                dsimp only
                have hIn := allLt_of (d := h15.objs.size) (fun q hq => Heap.lt_size (N15 q hq).1)
                refine cps fun G9 r9 => ?_
                obtain ⟨Ln, hLn⟩ : ∃ Ln : Nat, Ln = h15.objs.size := ⟨_, rfl⟩
                refine r9 ?_
                clear r9 G9
                dsimp only at N16
                rw [← hLn] at N16 hIn ⊢
                simp only [AllLt] at hIn lTm
                clear N15 F15
                (try clear F12)
                walk_at "mine steps"
                have far6 := far5.next e2 e4 e5 (by omega) h0 (by assumption)
                have ms6 : Msgs (fun a o => (a, o) ∈ (Tm, msgO kd b (msg kd b) t t' tf) :: cod5) (vsD ++ [.ref Tm]) (trip (rs.take (i + 1))) := by
                  rw [trip_succ e2]
                  exact Msgs.push (List.Mem.head _) (ms5.mono fun _ _ z => List.Mem.tail _ z)
                have apm : Apart [P, 166, L' + 1, L' + 1 + 1, L' + 1 + 1 + 1, Z + 4, Z + 3, Z, Z + 1] ((Tm, msgO kd b (msg kd b) t t' tf) :: cod5) := fun q hq z => by
                  rcases List.mem_cons.mp hq with rfl | hq
                  · simp only [List.mem_cons, List.not_mem_nil, or_false] at z
                    rcases z with z | z | z | z | z | z | z | z | z
                    all_goals (have z' : @Eq Nat _ _ := z; omega)
                  · exact ap5 q hq z
                have cdm : Cds codes L' ((Tm, msgO kd b (msg kd b) t t' tf) :: cod5) := fun q hq => by
                  rcases List.mem_cons.mp hq with rfl | hq
                  · exact .inr (show @LT.lt Nat _ L' Tm by omega)
                  · exact cd5 q hq
                show Halt _
                refine' halt' ⟨ps5, (Tm, msgO kd b (msg kd b) t t' tf) :: cod5, Ln, vsD ++ [.ref Tm], at5 + ((msg kd b).length : Int), _, 0, za', zb', oi1', oi2', TabC.mono K5 (fun q hq => .tail _ hq), fun d hd => .tail _ (sb5 d hd), apm, cdm, ms6, far6, ⟨by omega, by omega⟩, ⟨by omega, by omega, by omega, by omega⟩, st4c, st4d, st5c, st5d, g5, _, _, _, rfl, by assumption, ?Nn, B5, X5, T5, hl5, tn5, ⟨rfl, rfl⟩⟩
                case Nn => walk_at "mine pick"
          · intro s' h₁ tk₁ z9a hk5
            refine cps fun G7 r7 => ?_
            obtain ⟨ps5, cod5, De, vsD, at5, ta, n5, za, zb, oi1, oi2, K5, sb5, ap5, cd5, ms5, far5, dq5, dz5, c51, d51, c52, d52, g5, h5, tk5, m5, rfl, F5, N5, B5, X5, T5, hl5, tn5, hm5⟩ := z9a
            refine r7 ?_
            clear r7 G7
            have kk : Keeps [Z + 4, Z + 3, Z, Z + 1] h5 h₁ := fun b o e nb => hk5 b o nb e
            have hmz : ∀ a ∈ [Z + 4, Z + 3, Z, Z + 1], g5.get? a = none ∧ a ≠ L' := fun a ha => by
              simp only [List.mem_cons, List.not_mem_nil, or_false] at ha
              rcases ha with rfl | rfl | rfl | rfl
              · exact ⟨(N5 _ (.tail _ (.head _))).2.2, (N5 _ (.tail _ (.head _))).2.1⟩
              · exact ⟨(N5 _ (.tail _ (.tail _ (.tail _ (.head _))))).2.2, (N5 _ (.tail _ (.tail _ (.tail _ (.head _))))).2.1⟩
              · exact ⟨(N5 _ (.tail _ (.tail _ (.tail _ (.tail _ (.head _)))))).2.2, (N5 _ (.tail _ (.tail _ (.tail _ (.tail _ (.head _)))))).2.1⟩
              · exact ⟨(N5 _ (.tail _ (.tail _ (.tail _ (.tail _ (.tail _ (.head _))))))).2.2, (N5 _ (.tail _ (.tail _ (.tail _ (.tail _ (.tail _ (.head _))))))).2.1⟩
            have up : ∀ q : Addr × Obj, News g5 L' h5 [q] → q.1 ∉ [Z + 4, Z + 3, Z, Z + 1] → News g5 L' h₁ [q] := fun q hq nq r hr => by
              rw [List.mem_singleton.mp hr]; exact ⟨kk _ _ (hq _ (.head _)).1 nq, (hq _ (.head _)).2⟩
            have at1 : ∀ q ∈ _, News g5 L' h5 [q] := fun q hq r hr => by rw [List.mem_singleton.mp hr]; exact N5 q hq
            have hlen : rs.length ≤ min ys.toArray.size zs.toArray.size := by
              have := hzs.length
              rw [show (msgs rs).length = rs.length from List.length_map ..] at this
              simp only [List.size_toArray]
              omega
            refine halt' ⟨ps5, cod5, De, vsD, _, at5, ta, n5, K5, ap5.sub (fun a ha => List.mem_append_left [Z + 4, Z + 3, Z, Z + 1] ha), cd5, ms5, dq5, far5.a0, far5.a1, far5.done hlen, g5, h₁, tk₁, m5, rfl, fr_kept F5 kk hmz, ?_, B5, X5, T5, hl5, tn5, hm5⟩
            refine News.cons (up _ (at1 _ (.head _)) (ne4 dz5)) ?_
            exact News.app (xs := [(L' + 1, o3), (P, penO2 l (k2 + 1) c t91 tc n), (166, tabObj ps5), (L' + 1 + 1, oD), (L' + 1 + 1 + 1, oM)]) (News.keptLow (fun q hq => N5 q (.tail _ (.tail _ (.tail _ (.tail _ (.tail _ (.tail _ (.tail _ (.tail _ (List.mem_append_left cod5 hq)))))))))) kk (fun a ha => hlow a (.tail _ (.tail _ ha))))
              (fun q hq => ⟨kk _ _ (N5 q (.tail _ (.tail _ (.tail _ (.tail _ (.tail _ (.tail _ (.tail _ (.tail _ (.tail _ (.tail _ (.tail _ (.tail _ (.tail _ hq)))))))))))))).1 (fun z => ap5 q hq (List.mem_append_right [P, 166, L' + 1, L' + 1 + 1, L' + 1 + 1 + 1] z)), (N5 q (.tail _ (.tail _ (.tail _ (.tail _ (.tail _ (.tail _ (.tail _ (.tail _ (.tail _ (.tail _ (.tail _ (.tail _ (.tail _ hq)))))))))))))).2⟩)
          · refine cps fun G9 r9 => ?_
            obtain ⟨oi1, e1, c1', d1'⟩ := z4
            obtain ⟨oi2, e2, c2', d2'⟩ := z5
            refine r9 ?_
            clear r9 G9
            have fr9 : ∀ b : Nat, Z ≤ b → g'.get? b = none := fun b hb => kts_none F6.keep (Heap.get?_none_of_le (by rw [← hZ]; exact hb))
            have nl9 : ∀ b : Nat, Z ≤ b → b ≠ L' := fun b hb e => by have e' : @Eq Nat b L' := e; omega
            have apz : Apart [P, 166, L' + 1, L' + 1 + 1, L' + 1 + 1 + 1, Z + 4, Z + 3, Z, Z + 1] cod := fun q hq z => by
              have hq2 : @LT.lt Nat _ q.1 Z := by rw [hZ]; exact Heap.lt_size (N7 q (by (repeat (first | exact hq | refine List.Mem.tail _ ?_)))).1
              rcases List.mem_append.mp (show q.1 ∈ [P, 166, L' + 1, L' + 1 + 1, L' + 1 + 1 + 1] ++ [Z + 4, Z + 3, Z, Z + 1] from z) with z | z
              · exact apd q hq z
              · simp only [List.mem_cons, List.not_mem_nil, or_false] at z
                rcases z with z | z | z | z
                all_goals (have z' : @Eq Nat _ _ := z; omega)
            have one : ∀ (b : Nat) (o : Obj), Z ≤ b → h8.get? b = some o → News g' L' h8 [(b, o)] := fun b o hb e q hq => by
              rw [List.mem_singleton.mp hq]; exact ⟨e, nl9 b hb, fr9 b hb⟩
            have dz1 : @LT.lt Nat _ Du Z := by rw [hZ]; exact Heap.lt_size (N7 _ (.head _)).1
            have dz0 : @Ne Nat Du (Z + 4) ∧ @Ne Nat Du (Z + 3) ∧ @Ne Nat Du Z ∧ @Ne Nat Du (Z + 1) := by omega
            have N8 : News g' L' h8 _ := fun q hq => ⟨zk _ _ (N7 q hq).1, (N7 q hq).2⟩
            exact halt' ⟨ps, cod, Du, [], 0, _, 0, .none, .none, oi1, oi2, Kd, sub, apz, cdd, .nil, far0, ⟨by omega, by omega⟩, dz0, c1', d1', c2', d2', g', h8, _, _, rfl, F6.keeps zk,
              News.pick N8 (.head _) (News.cons (one (Z + 4) _ (by omega) z1) (News.cons (one (Z + 2) _ (by omega) z2) (News.cons (one (Z + 3) _ (by omega) z3) (News.cons (one Z _ (Nat.le_refl _) e1) (News.cons (one (Z + 1) _ (by omega) e2) (News.sub N8 (fun q hq => .tail _ hq))))))), B', X', T', hlg, tn, ⟨rfl, rfl⟩⟩
        · clear F6 N6 N7
          intro s' z9a
          refine cps fun G7 r7 => ?_
          obtain ⟨ps5, cod5, De, vsD, xs, at5, ta, n5, K5, ap5, cd5, ms5, ⟨dq1, dq2⟩, a0, a1, hsp, g5, h5, tk5, m5, rfl, F5, N5, B5, X5, T5, hl5, tn5, hm5, hm6⟩ := z9a
          refine r7 ?_
          clear r7 G7
          have C5 := code169 X5
          walk_at "mine steps"
          unfold Halt
          (try dsimp only)
          with_unfolding_all refine' mk_lam2 ?F ?N ?T ?cd ?C ?U ?K ?ap ?cds ?inn ?P ?L ?sub ?df ?cl ?_
          case F => k_asm
          case N => k_asm
          case T => k_asm
          case cd => exact rfl
          case C => assumption
          case U => k_updF
          case K => k_dflt assumption
          case ap => k_dflt assumption
          case cds => assumption
          case inn => k_dflt (repeat (first | exact AllIn.nil | (apply AllIn.cons; focus k_mem)))
          case P => k_dflt k_mem
          case L => exact ⟨_, List.Mem.tail _ (List.Mem.tail _ (List.Mem.head _)), Nat.lt_succ_self _⟩
          case sub => intro q hq; k_dflt (repeat (first | exact hq | refine List.Mem.tail _ ?_))
          case df => exact rfl
          case cl => exact rfl
          intro f9 ps9 codes9 h9 tk9 F9 N9 Nc9 K9 ap9 cds9 lt9 lam9 fn9
          (try dsimp only at N9)
          have M9 : News g5 L' h9 cod5 := News.sub N9 (fun q hq => by (repeat (first | exact hq | refine List.Mem.tail _ ?_)))
          have N8 := News.app (News.mg N9 Nc9 (by k_dflt (repeat (first | with_reducible exact Mg.nil | apply Mg.cons)))) M9
          simp only [List.cons_append] at N8
          clear N9 Nc9 M9 N5 F5
          walk_at "mine steps"
          unfold Halt
          (try dsimp only)
          have hyl5 : y.length ≤ 500 := by omega
          with_unfolding_all refine' told_law (s := ⟨_, _, _, _, _⟩) (l := l) (its := vs.toArray) N8 F9 B5 X5 T5 XB TB rfl .refl hl5 ?d ?u fn9 ?W ?stab ?ret
          case W =>
            refine' work_split2 hyl5 m0 lam9 ?c0 ?c1
            case c0 => walk_at "mine cell"
            case c1 => walk_at "mine cell"
          case d => ktr_room
          case u => ktr_units
          case stab =>
            intro h1 h2 v z9a k
            refine cps fun G7 r7 => ?_
            obtain ⟨T3, D3, vs3, xs3, n3, t3, rest3, q1, q2, q3, q4, q5, q6, q7⟩ := z9a
            refine r7 ?_
            clear r7 G7
            exact ⟨T3, D3, vs3, xs3, n3, t3, rest3, q1, q2, q3, k.all _ _ q4, k.all _ _ q5, q6.mono (fun _ _ z => ⟨z.1, k.all _ _ z.2⟩), q7⟩
          case ret =>
            intro r6 h6 tk6 g6 F6 B6 X6 T6 N6 hl6 tn6 ot6 tl6
            refine cps fun G9 r9 => ?_
            obtain ⟨T2, rfl, ht⟩ := tl6
            refine r9 ?_
            clear r9 G9
            refine cps fun G8 r8 => ?_
            rcases ht with ⟨v2, t5, eT2, T3, D3, vs3, xs3, n3, t3, rest3, rfl, q2, q3, q4, q5, q6, q7⟩ | ⟨_, t5, t6, eT2, hb2⟩
            · refine r8 ?_
              clear r8 G8
              rw [hsp] at q7
              refine cps fun G9 r9 => ?_
              obtain ⟨e1, e2⟩ := Prod.mk.inj (Option.some.inj q7)
              subst e1
              subst e2
              obtain ⟨tups, ms6, ht6⟩ := msgs_tups q6
              refine r9 ?_
              clear r9 G9
              have fresh : ∀ (b : Addr) (o : Obj), h9.get? b = none → h6.get? b = some o → News g6 L' h6 [(b, o)] := fun b o e1 e2 q hq => by
                rw [List.mem_singleton.mp hq]
                refine ⟨e2, fun e => ?_, tn6.none_ _ (kts_none F9.keep e1)⟩
                refine cps fun G9 r9 => ?_
                obtain ⟨o', _, _, ho, _⟩ := F9.ns
                refine r9 ?_
                clear r9 G9
                have e' : b = L' := e
                rw [e', ho] at e1
                cases e1
              have N7 := News.cons eT2 (News.cons (fresh _ _ q2 q4) (News.cons (fresh _ _ q3 q5) (News.app N6 (fun q hq => fresh q.1 q.2 (ht6 q hq).1 (ht6 q hq).2 _ (.head _)))))
              simp only [List.cons_append] at N7
              clear N6 N8 ot6 fresh F9 lam9
              dsimp only
              walk_at "mine steps"
              unfold Halt
              have N10 := ‹News g6 L' _ ((_, _) :: (_, _) :: (T2, _) :: _)›
              have e9 := ‹_ = cut y (some at5) none›
              rw [cut_from a0 a1] at e9
              subst e9
              have q8 : ∀ q ∈ tups, (_ : Heap).get? q.1 = some q.2 := fun q hq => (N10 q (by (repeat (first | exact List.mem_append_right _ hq | refine List.Mem.tail _ ?_)))).1
              have q9 : ∀ q ∈ cod5, (_ : Heap).get? q.1 = some q.2 := fun q hq => (N10 q (by (repeat (first | exact List.mem_append_left _ (List.mem_append_right _ hq) | refine List.Mem.tail _ ?_)))).1
              refine told_eq (n := 3) (N10 _ (.tail _ (.tail _ (.head _)))).1 (N10 _ (.head _)).1 (sm_tup (vs := [_, _]) (vs' := [_, _]) ⟨_, (N10 (T3, _) (.tail _ (.tail _ (.tail _ (.head _))))).1, rfl, _, rfl⟩ ⟨_, (N10 _ (.tail _ (.head _))).1, rfl, _, rfl⟩
                (sm_cons (sm_list (News.isList N10 (by k_mem)) (News.isList N10 (by k_mem)) (msgs_smN (ms6.mono fun a o z => q8 (a, o) z) (ms5.mono fun a o z => q9 (a, o) z))) (sm_cons sm_by sm_nil))) (by ktr_units) ?_
              dsimp only
              exact fin _ _ g6 _ (k2 + 1) t91 _ _ (by assumption) (tn5.trans tn6) (News.sub N10 (fun q hq => by
                rcases List.mem_cons.mp hq with rfl | hq
                · k_mem
                · rcases List.mem_cons.mp hq with rfl | hq
                  · k_mem
                  · (repeat (first | exact List.mem_append_left _ (List.mem_append_left _ hq) | refine List.Mem.tail _ ?_)))) (by omega) (by omega) K9 cds9
            · refine r8 ?_
              clear r8 G8
              refine cps fun G9 r9 => ?_
              obtain ⟨_, z⟩ := hb2
              refine r9 ?_
              clear r9 G9
              rw [hsp] at z
              cases z
end
theorem words87 : True := by
  k_with_none
  (k_with "mine shade" => (have wN := trivial; have wF := trivial; have wl := trivial; have wk := trivial; have wq := trivial; have wr := trivial; have wX := trivial; have we := trivial; have wt := trivial; have wh := trivial; have wf := trivial; have wo := trivial; have wb := trivial; have wp := trivial; have wx := trivial; have wy := trivial; have wz := trivial; have wv := trivial; have wM := trivial; have wO := trivial; have wY := trivial))
  (k_with "mine light" => (clear wN wF wl wk wq wr wX we wt wh wf wo wb wp wx wy wz wv wM wO wY))
  (k_with "mine room" => (first | assumption | exact room1 (by assumption) (by decide) | exact room2 (by assumption) (by decide) | exact room3 (by assumption) (by decide) | exact room0 (by assumption)))
  (k_with "mine ktr_room" => ((try simp +zetaDelta only [depth_under_make, depth_under_kw, depth_in1, depth_deeper, depth_caller]); (try dsimp +zetaDelta only [ktrTop]); k_extra "mine room"))
  (k_with "mine ktr_units" => ((try simp +zetaDelta only [units_in1, units_deeper, Around.mark_units, units_caller]); (try dsimp +zetaDelta only [ktrTop]); k_extra "mine room"))
  (k_with "mine lt" => (first | assumption | exact Nat.lt_succ_self _ | exact sl2 | exact sl3 | exact sl4 | exact Nat.lt_succ_of_lt (by assumption) | exact lt2 (by assumption) | exact lt3 (by assumption) | exact lt4 (by assumption) | exact Nat.lt_add_right _ (by assumption) | exact Nat.lt_add_of_pos_right (by decide) | exact Nat.add_lt_add_left (by decide) _ | exact allLt_get (by assumption) (by k_dflt k_mem)))
  (k_with "mine ne" => with_reducible (first | assumption | exact Ne.symm (by assumption) | exact Nat.ne_of_lt (by k_extra "mine lt") | exact Nat.ne_of_gt (by k_extra "mine lt")))
  (k_with "mine small" => (first | (show @LT.lt Nat _ _ _; k_extra "mine lt") | (show @Ne Nat _ _; k_extra "mine ne") | (show @LE.le Int _ 0 _; first | exact i0_1 (by assumption) | exact i0_2 (by assumption) | exact i0_3 (by assumption) | exact i0_l (by assumption) (by decide)) | (show @LT.lt Int _ _ _; first | exact lk1 (by assumption) (by decide) | exact lk2 (by assumption) (by decide) | exact lk3 (by assumption) (by decide)) | (show @LE.le Int _ _ _; first | exact Int.le_refl _ | exact ilt_le (by assumption) (by decide) | exact ile_0 (by assumption) (by decide)) | (show False; refine absurd (by assumption : @Eq Nat _ _) ?_; k_extra "mine ne")))
  (k_with "mine omega" => (first | assumption | decide | exact Nat.le_trans (by assumption) (by decide) | exact Nat.lt_of_le_of_lt (by assumption) (by decide) | exact Int.lt_of_lt_of_le (by assumption) (by decide) | with_reducible (k_extra "mine small") | omega (config := {})))
  (k_with "mine k_ne" => (first | k_extra "mine ne" | (refine neN ?_; (try dsimp only); first | k_extra "mine ne" | omega (config := {}))))
  (k_with "mine enter" => (refine enter_raw (h := ?_); k_whole; intro _ _ _ _ _ _ _ _ _ _ _; (try dsimp only); (try k_fold); (refine any_letA ?_; intro envW aroundW)))
  (k_with "mine enterN" => (refine enterN_raw (h := ?_); k_whole; intro _ _ _ _ _ _ _ _ _ _ _; (try dsimp only); (refine n_letA ?_; intro envW aroundW)))
  (k_with "mine nstep" => (
  (with_reducible show wpN _ _ _ _ _ _);
  first
  | with_reducible refine n_execs_nil ?_
  | (with_reducible refine n_execs_let ?_; intro _ _)
  | with_reducible refine n_Return ?_
  | with_reducible refine n_If ?_
  | with_reducible refine n_Assign ?_ (by k_dflt rfl)
  | with_reducible refine n_BinOp ?_
  | with_reducible refine n_Compare ?_ (by with_unfolding_all rfl)
  
  | with_reducible refine n_isTrue_not ?_
  | with_reducible refine n_isTrue_or_nil ?_
  | with_reducible refine n_isTrue_or ?_
  | with_reducible refine n_And2 ?_
  | with_reducible refine n_Call_Name ?_
  | with_reducible refine n_Subscript ?_
  | with_reducible refine n_args_nil ?_
  | with_reducible refine n_args_cons ?_ (by k_dflt rfl)
  | with_reducible refine n_spliced_nil ?_
  | with_reducible refine n_callWith_type ?_ (by k_dflt rfl) (by k_dflt rfl)
  | (with_reducible refine n_callWith_K (by k_asm) (by k_is) ?_ (by k_dflt rfl) (by k_dflt rfl); k_whole)
  | k_extra "mine ncall"
  | with_reducible refine n_isTrue ?_ (by k_dflt rfl)
  | (with_reducible refine wpN_any ?_; (try k_fold))))
  (k_with "mine steps" => repeat' (first
  | k_extra "mine nstep"
  | (k_unfold; (try dsimp only))
  | walk1
  | (dsimp only; (first | k_extra "mine nstep" | walk1))
  | (leave1; (try dsimp only))
  | fail "no step"))
  (k_with "binaryOp Add bytes bytes" => ((with_reducible show wpAny _ _ (binaryOp Operator.Add (Value.bytes (List.toArray _) _) (Value.bytes (List.toArray _) _)) _ _ _); (refine by_add (by ((try simp only [List.length_cons, List.length_nil]); omega)) ?_); intro _ _ _ _ wl; (try simp only [List.length_cons, List.length_nil] at wl)))
  (k_with "call builtin:len" => ((with_reducible show wpAny _ _ (call (Value.builtin "len") [Value.bytes (List.toArray _) _]) _ _ _); (refine by_len (by ((try simp only [List.length_cons, List.length_nil]); omega)) ?_); intro _ _))
  (k_with "compareOp Eq bytes bytes" => ((with_reducible show wpAny _ _ (compareOp CmpOp.Eq (Value.bytes (List.toArray _) _) (Value.bytes (List.toArray _) _)) _ _ _); (refine by_eq ?_)))
  (k_with "compareOp NotEq bytes bytes" => ((with_reducible show wpAny _ _ (compareOp CmpOp.NotEq (Value.bytes (List.toArray _) _) (Value.bytes (List.toArray _) _)) _ _ _); (refine by_ne ?_)))
  (k_with "subscriptTail" => ((with_reducible show wpAny _ _ (subscriptTail _ _ (Value.bytes (List.toArray _) _) (Value.int _ _)) _ _ _); (refine by_item (by omega) (by omega) (by omega) ?_ (by with_unfolding_all rfl) (by intro _; with_unfolding_all rfl)); intro _ _))
  (k_with "subscriptTail" => ((with_reducible show wpAny _ _ (subscriptTail _ (Expr.Slice _ _ none _) (Value.bytes (List.toArray _) _) (Value.ref _)) _ _ _); (with_reducible rename Fr _ _ _ _ => wF); (with_reducible rename News _ _ _ _ => wN); (refine by_slice (s := ⟨_, _, _, _, _⟩) wF wN (by constructor) (by constructor) (by omega) ?_ (by with_unfolding_all rfl) (by intro _; with_unfolding_all rfl)); intro _ _ _ _ _ _ _ _))
  (k_with "exec For Name Subscript cons nil" => (k_here; (rename Fr _ _ _ _ => wF); (with_unfolding_all refine For_invVF wF (by exact rfl) (by exact rfl) ?_; k_whole)))
  (k_with "getMethod type:Exception" => (k_here; refine method_type (by k_asm) (by k_asm) (by exact meta_exception) (by decide +kernel) (by k_dflt k_is) (by k_handed) ?_))
  (k_with "call builtin:Exception.__init__" => (k_here; (refine q_xinitD (by k_asm) (by k_asm) (by k_asm) (by k_updF) ?_; k_whole); intro _ _ _ wN; (try dsimp only at wN); (try k_sweep)))
  (k_with "setAttr ref" => (k_here; first
  | ((refine q_put0D (by k_asm) (by k_asm) (by k_asm) (by k_updF) (by first | exact q_taker_code _ | exact q_taker_ft _ | exact q_taker_text _) ?_; k_whole); intro _ _ _ _ wl _ wN; (try dsimp only at wN); (try k_lt wl); (try k_sweep))
  | ((refine q_putD (by k_asm) (by k_asm) (by k_asm) (by k_mem) (by k_updF) (by first | exact q_taker_code _ | exact q_taker_ft _ | exact q_taker_text _) (by with_unfolding_all rfl) (by intro _ _; exact Nat.le_of_ble_eq_true (by with_unfolding_all rfl)) ?_; k_whole); intro _ _ _ _ wN; (try dsimp only at wN); (try k_sweep))))
  (k_with "binaryOp Add str str" => ((with_reducible show wpAny _ _ (binaryOp Operator.Add (Value.str _ _) (Value.str _ _)) _ _ _); (refine PyProof.Rows.add_str ?_ (by assumption)); intro _ _))
  (k_with "call ref" => (
  (with_reducible show wpAny _ _ (call (Value.ref 31) _ _) _ _ _);
  (refine q_new (by assumption) (by omega) (by omega) (by k_asm) (by k_asm) (by k_asm) (by k_asm) (by first | exact rfl | assumption) (by ktr_room) (by ktr_units) ?_); k_whole;
  intro _ _ _ _ _))
  (k_with "call ref" => (
  (with_reducible show wpAny _ _ (call (Value.ref 75) _ _) _ _ _);
  (first | refine CtrA.use (tls50 (by decide +kernel)) (ret := ?_) | refine CtrA.use (tls120 (by decide +kernel)) (ret := ?_)); k_whole;
  intro _ wh _ wk wq; have wr := wq; refine cps fun G6 r6 => ?_; obtain ⟨_, _, _, _, wt, _, _, _, _⟩ := wr; subst wt; refine r6 ?_; clear r6 G6; have wX : Frag.In _ wh := Frag.In.keeps (Frag.In.keeps (by k_asm) (Fr.keep (by k_asm))) wk.all; (try dsimp only)))
  (k_with "call ref" => (
  (with_reducible show wpAny _ _ (call (Value.ref 68) _ _) _ _ _);
  (refine CtrA.use (get_spec (by omega) (by omega) (by omega) (by omega)) (ret := ?_)); k_whole;
  intro _ _ _ wk wq; obtain ⟨_, we⟩ := wq; subst we; have wF := fr_kept0 (by k_asm) wk; have wN := news_kept0 (by k_asm) wk; clear wk; (try dsimp only); k_sweep))
  (k_with "exec Raise some none" => (k_here; refine q_Raise rfl ?_))
  (k_with "call builtin:list.append" => (k_here; (with_reducible show wpAny _ _ (call (Value.builtin _) [Value.ref _, _]) _ _ _); k_dflt (refine append_K (by k_asm) (by k_asm) (by k_upd) ?_ (by (rw [List.size_toArray, sizeLine_eq]; omega)); k_whole); intro _ _ _; (try k_sweep)))
  (k_with "call builtin:len" => (k_here; (with_reducible show wpAny _ _ (call (Value.builtin "len") [Value.ref _]) _ _ _); (refine len_newsL (by k_asm) (by k_mem) (by omega) ?_; k_whole); intro _ _))
  (k_with "exec While Compare" => (k_here; refine halt ?_))
  (k_with "call builtin:list.append" => (k_here; (with_reducible show wpAny _ _ (call (Value.builtin _) [Value.ref _, _]) _ _ _); (refine append_K (by k_asm) (by k_asm) (Upd.tail (by exact Nat.ne_of_gt (‹_ ∧ AllLt _ _›).1) (Upd.head (by assumption))) ?_ (by (rw [List.size_toArray, sizeLine_eq]; omega)); k_whole); intro _ _ _; (try k_sweep)))
  (k_with "call ref" => (
  (with_reducible show wpAny _ _ (call (Value.ref 103) _ _) _ _ _);
  (first
    | refine CtrE.use (fields_many (by omega)) (ret := ?_) (err := ?_)
    | refine CtrE.use (fields_none (by omega)) (ret := ?_) (err := ?_)); k_whole;
  (focus (
    (intro _ _ _ wk wp); (refine cps fun G6 r6 => ?_); (obtain ⟨_, _, _, _, we, wf, wo, wb, wr, wl⟩ := wp); (subst we);
    (first
      | (have wq := bys3 wb wl; obtain ⟨_, _, _, _, _, _, we, wv⟩ := wq; subst we; subst wv; have wx := rd_le wr _ (.head _); have wy := rd_le wr _ (.tail _ (.head _)); have wz := rd_le wr _ (.tail _ (.tail _ (.head _))))
      | (have wq := bys2 wb wl; obtain ⟨_, _, _, _, we, wv⟩ := wq; subst we; subst wv; have wx := rd_le wr _ (.head _); have wy := rd_le wr _ (.tail _ (.head _)))
      | (have wq := bys1 wb wl; obtain ⟨_, _, we, wv⟩ := wq; subst we; subst wv; have wx := rd_le wr _ (.head _))
      | skip);
    (refine r6 ?_); (clear r6 G6);
    (have wF := fr_kept0 (by k_asm) wk); (have wN := news_addN (by k_asm) (news_kept0 (by k_asm) wk) wf wo); (clear wk); (try dsimp only); k_sweep))))
  (k_with "setItem ref int" => (k_here; (refine baset_K (by k_asm) (by k_asm) (by k_updF) (by omega) (by first | decide | (simp only [Array.size_setIfInBounds, Array.size_replicate]; decide) | omega) (by first | decide | (simp only [Array.size_setIfInBounds, Array.size_replicate]; decide) | omega) (by first | exact Int.fmod_nonneg_of_pos _ (by decide) | omega) (by first | exact Int.fmod_lt_of_pos _ (by decide) | omega) ?_; k_whole); intro _ _ wN; (try dsimp only at wN); (try k_sweep)))
  (k_with "call type:bytes" => (k_here; (refine babytes_K (by k_asm) (by k_mem) (by first | decide | (simp only [Array.size_setIfInBounds, Array.size_replicate]; decide) | omega) ?_; k_whole); intro _ _))
  (k_with "mine ncall" => ((refine n_bytearrayD rfl ?_ ?_ ?_); (focus first | decide | omega); (focus first | decide | omega); (intro _ _ wx wk wb; have wF := fr_kept0 (by k_asm) wk; have wN := news_add (by k_asm) (news_kept0 (by k_asm) wk) wx wb; clear wx wk wb; k_sweep)))
  (k_with "mine ncall" => ((with_reducible show wpN _ _ (call (Value.ref 61) _ _) _ _ _); (first | refine CtrN.use (put1_spec (by first | decide | omega) (by first | decide | omega)) (ret := ?_) | refine CtrN.use (put2_spec (by first | decide | omega) (by first | decide | omega)) (ret := ?_) | refine CtrN.use (put3_spec (by first | decide | omega) (by first | decide | omega)) (ret := ?_)); k_whole; intro _ _ _ wk wp; obtain ⟨_, we⟩ := wp; subst we; have wF := fr_kept0 (by k_asm) wk; have wN := news_kept0 (by k_asm) wk; clear wk; (try dsimp only); k_sweep))
  (k_with "mine enterNC" => (refine enterNC_raw (h := ?_); k_whole; intro _ _ _ _ _ _ wN wY _ _ _ _ _ wl; (try k_lt wl); refine cps fun G6 r6 => ?_; k_cells wY; refine r6 ?_; clear r6 G6; (try simp only [List.cons_append, List.nil_append] at wN); (try dsimp only); (refine n_letA ?_; intro envW aroundW)))
  (k_with "mine nstep" => ((with_reducible show wpN _ _ _ _ _ _); first
  | with_reducible refine n_Tuple ?_
  | (refine n_callWith_F0 (by assumption) ?_)))
  (k_with "newTuple" => ((refine newTupleR (Nat.le_of_ble_eq_true rfl) ?_); intro _ _ wx wk wb; have wF := fr_kept0 (by k_asm) wk; have wN := news_addN (by k_asm) (news_kept0 (by k_asm) wk) wx wb; (try dsimp only)))
  (k_with "mine ncall" => ((with_reducible show wpN _ _ (call (Value.ref _) ([] ++ [])) _ _ _); refine halt ?_))
  (k_with "getMethod bytes" => (with_reducible refine bj_method ?_))
  (k_with "mine nstep" => ((with_reducible show wpN _ _ _ _ _ _); first
  | (refine n_callWith_builtin ?_ (by rfl) (by rfl))))
  (k_with "eval Name" => ((with_reducible show wpAny _ _ (eval (Expr.Name _ _) (compEnvC _ _ _ _)) _ _ _); (refine nameC_loc (by k_asm) (by k_mem) (by assumption) (by rfl) ?_ (by rfl) (by rfl); k_whole)))
  (k_with "mine oct" => (k_whole; (intro _ _ _ wk wp); (refine cps fun G6 r6 => ?_); (obtain ⟨_, _, we, _, _⟩ := wp); (subst we); (refine r6 ?_); (clear r6 G6); (have wF := fr_kept0 (by k_asm) wk); (have wN := news_kept0 (by k_asm) wk); (clear wk); (try dsimp only); k_sweep))
  (k_with "mine ncall" => ((with_reducible show wpN _ _ (call (Value.ref 96) _ _) _ _ _); (refine CtrN.use (field_spec (by omega)) (ret := ?_)); k_extra "mine oct"))
  (k_with "mine ncall" => ((with_reducible show wpN _ _ (call (Value.ref 82) _ _) _ _ _); (refine CtrN.use (message_spec (by omega) (by omega) (by omega)) (ret := ?_)); k_extra "mine oct"))
  (k_with "mine ncall" => ((with_reducible show wpN _ _ (call (Value.builtin "bytes.join") _ _) _ _ _); refine halt ?_))
  (k_with "mine nstep" => ((with_reducible show wpN _ _ _ _ _ _); first
  | ((with_reducible show wpN _ _ (eval (PySem.Expr.ListComp _ _ _ _) _) _ _ _); refine halt ?_)
  | (with_reducible refine n_methodCall ?_ (by k_dflt rfl); k_whole)))
  (k_with "mine nstep" => ((with_reducible show wpN _ _ (exec (Stmt.For _ _ _ _ _) _) _ _ _); refine halt ?_))
  (k_with "compareOp In bytes ref" => ((with_reducible show wpAny _ _ (compareOp CmpOp.In (Value.bytes (List.toArray _) _) (Value.ref _)) _ _ _); refine halt ?_))
  (k_with "eval Name" => ((with_reducible show wpAny _ _ (eval (Expr.Name _ _) (envX _ _ _ _ _ _)) _ _ _); (refine nameG_free (by k_asm) (by assumption) (by assumption) (by assumption) ?_ (by rfl) (by rfl); k_whole)))
  (k_with "mine ncall" => ((with_reducible show wpN _ _ (call (Value.ref 150) _ _) _ _ _); refine halt ?_))
  (k_with "mine ncall" => ((with_reducible show wpN _ _ (call (Value.ref 89) _ _) _ _ _); refine halt ?_))
  (k_with "mine ncall" => ((with_reducible show wpN _ _ (call (Value.ref 103) _ _) _ _ _); refine halt ?_))
  (k_with "mine ncall" => ((with_reducible show wpN _ _ (call (Value.ref 115) _ _) _ _ _); refine halt ?_))
  (k_with "mine ncall" => ((with_reducible show wpN _ _ (call (Value.ref 129) _ _) _ _ _); refine halt ?_))
  (k_with "mine ncall" => ((with_reducible show wpN _ _ (call (Value.ref 143) _ _) _ _ _); refine halt ?_))
  (k_with "mine ncall" => ((with_reducible show wpN _ _ (call (Value.ref 122) _ _) _ _ _); (refine CtrN.use (shello_spec (by omega)) (ret := ?_)); k_extra "mine oct"))
  (k_with "mine ncall" => ((with_reducible show wpN _ _ (call (Value.ref 108) _ _) _ _ _); (refine CtrN.use (chello_spec (by assumption) (by omega) (by omega) (by assumption) (by omega)) (ret := ?_)); k_extra "mine oct"))
  (k_with "call ref" => (
  (with_reducible show wpAny _ _ (call (Value.ref 157) _ _) _ _ _);
  k_dflt (refine next_K (h := ?_)); k_whole;
  intro _ _ _ _ _ _ wN _ _; (try dsimp only at wN); (try dsimp only); k_sweep))
  (k_with "call builtin:len" => (k_here; (with_reducible show wpAny _ _ (call (Value.builtin "len") [Value.ref _]) _ _ _); (refine lenG (by k_asm) (by assumption) (by omega) ?_; k_whole); intro _ _))
  (k_with "call ref" => ((with_reducible show wpAny _ _ (call (Value.ref 157) _ _) _ _ _); refine halt ?_))
  (k_with "mine ncall" => ((with_reducible show wpN _ _ (call _ ([] ++ _) _) _ _ _); simp only [List.nil_append]))
  (k_with "mine k_all" => (refine Apart.ne (by assumption) (by with_unfolding_all (repeat (first | exact List.Mem.head _ | refine List.Mem.tail _ ?_)))))
  (k_with "newTuple" => ((with_unfolding_all refine newTupleL (by k_asm) (by k_asm) (by exact (Nat.le_of_ble_eq_true rfl)) ?_); k_whole; intro _ _ _ wN wl; (try dsimp only at wN); (try k_lt wl); (try k_sweep)))
  (k_with "call ref" => (
  (with_reducible show wpAny _ _ (call (Value.ref 157) _ _) _ _ _);
  k_dflt (refine next_K (h := ?_)); k_whole;
  intro _ _ _ _ _ _ wN _ _; (try dsimp only at wN); (try dsimp only); k_sweep))
  (k_with "eval Lambda" => (
  k_dflt (refine mk_lam2 (h := ?_)); k_whole;
  intro _ _ _ _ _ _ wN wM _ _ _ _ _ _; (try dsimp only at wN);
  have wO := News.mg wN wM (by k_dflt (repeat (first | with_reducible exact Mg.nil | apply Mg.cons)));
  clear wN wM; (try k_sweep)))
  (k_with "mine nstep" => (
  (with_reducible show wpN _ _ (eval _ _) _ _ _);
  first
  | ((with_reducible show wpN _ _ (eval (PySem.Expr.Name _ _) _) _ _ _); with_reducible refine wpN_any ?_; (try k_fold))
  | ((with_reducible show wpN _ _ (eval (PySem.Expr.Constant _ _ _) _) _ _ _); with_reducible refine wpN_any ?_; (try k_fold))
  | ((with_reducible show wpN _ _ (eval (PySem.Expr.Lambda _ _ _ _) _) _ _ _); with_reducible refine wpN_any ?_; (try k_fold))
  | ((with_reducible show wpN _ _ (eval (PySem.Expr.List _ _) _) _ _ _); with_reducible refine wpN_any ?_; (try k_fold))))
  (k_with "mine nstep" => (
  (with_reducible show wpN _ _ _ _ _ _);
  first
  | with_reducible refine n_execs_nil ?_
  | (with_reducible refine n_execs_let ?_; intro _ _)
  | with_reducible refine n_Return ?_
  | with_reducible refine n_If ?_
  
  | with_reducible refine n_BinOp ?_
  | with_reducible refine n_Compare ?_ (by with_unfolding_all rfl)
  | with_reducible refine n_Tuple ?_
  | with_reducible refine n_isTrue_not ?_
  | with_reducible refine n_isTrue_or_nil ?_
  | with_reducible refine n_isTrue_or ?_
  | with_reducible refine n_And2 ?_
  | with_reducible refine n_Call_Name ?_
  | with_reducible refine n_Subscript ?_
  | with_reducible refine n_args_nil ?_
  | with_reducible refine n_args_cons ?_ (by k_dflt rfl)
  | with_reducible refine n_spliced_nil ?_
  | with_reducible refine n_callWith_type ?_ (by k_dflt rfl) (by k_dflt rfl)
  | (with_reducible refine n_callWith_K (by k_asm) (by k_is) ?_ (by k_dflt rfl) (by k_dflt rfl); k_whole)
  | ((with_reducible show wpN _ _ (call _ _ _) _ _ _); k_extra "mine ncall")))
  (k_with "mine nstep" => ((with_reducible show wpN _ _ (isTrue (PySem.Expr.Compare _ _ _ _) _ _) _ _ _); (with_reducible refine n_isTrue_Compare1 ?_ (by with_unfolding_all rfl))))
  (k_with "mine ncall" => ((with_reducible show wpN _ _ (call (Value.ref 164) _ _) _ _ _); refine halt ?_))
  (k_with "call type:bytes" => ((with_reducible show wpAny _ _ (call (Value.type "bytes") [Value.ref _]) _ _ _); (first | refine bytes_rep (h := ?_) | k_dflt (refine bytes_two (h := ?_)) | k_dflt (refine bytes_four (h := ?_))); k_whole; intro _ _ _ _ _ _ _ _; (try dsimp only); k_sweep))
  (k_with "eval Name" => ((with_reducible show wpAny _ _ (eval (Expr.Name _ _) (compEnvC _ _ _ _)) _ _ _); (k_dflt (refine nameC_cell (by k_asm) (by first | assumption | rfl) (by k_mem) (by assumption) ?_ (by rfl) (by first | assumption | rfl); k_whole))))
  (k_with "mine cell" => (refine CellAt.of (by k_asm) (by exact rfl) (by k_mem) (by assumption)))
  (k_with "mine pick" => ((repeat (refine' News.pick (news := _) (by assumption) (by k_mem) ?_)); (refine' News.sub (by assumption) ?_); intro _ wq; (repeat (first | exact wq | refine List.Mem.tail _ ?_))))
  (k_with "mine ncall" => ((with_reducible show wpN _ _ (call (Value.ref 136) _ _) _ _ _); (refine CtrN.use (ext_spec (by omega) (by omega)) (ret := ?_)); k_extra "mine oct"))
  (k_with "compareOp Eq ref ref" => ((with_reducible show wpAny _ _ (compareOp CmpOp.Eq (Value.ref _) (Value.ref _)) _ _ _); refine halt ?_))
  (k_with "compareOp NotEq bytes bytes" => (with_reducible refine by_ne_same ?_))
  (k_with "compareOp NotEq ref ref" => ((with_reducible show wpAny _ _ (compareOp CmpOp.NotEq (Value.ref _) (Value.ref _)) _ _ _); refine halt ?_))
  trivial
theorem off_LQ : True := by
  w_top off
  trivial
/-- two parts of the ledger that share no address -/
noncomputable def Dis (A B : List (Addr × Obj)) : Prop := ∀ a ∈ A, ∀ b ∈ B, a.1 ≠ b.1
noncomputable def Off (P : Addr) (A : List (Addr × Obj)) : Prop := ∀ a ∈ A, a.1 ≠ P
theorem Dis.symm {A B : List (Addr × Obj)} (d : Dis A B) : Dis B A := fun a ha b hb e => d b hb a ha e.symm
theorem Dis.app {A B C : List (Addr × Obj)} (d : Dis A B) (e : Dis A C) : Dis A (B ++ C) := fun a ha b hb => by
  rcases List.mem_append.mp hb with hb | hb
  · exact d a ha b hb
  · exact e a ha b hb
theorem Dis.left {A B C : List (Addr × Obj)} (d : Dis A (B ++ C)) : Dis A B := fun a ha b hb => d a ha b (List.mem_append_left _ hb)
theorem Dis.right {A B C : List (Addr × Obj)} (d : Dis A (B ++ C)) : Dis A C := fun a ha b hb => d a ha b (List.mem_append_right _ hb)
theorem Off.app {P : Addr} {B C : List (Addr × Obj)} (d : Off P B) (e : Off P C) : Off P (B ++ C) := fun b hb => by
  rcases List.mem_append.mp hb with hb | hb
  · exact d b hb
  · exact e b hb
/-- a table of codes with its codes -/
structure Blk (h₀ : Heap) (L : Addr) (h : Heap) (tab : Addr) (qual : Str) (b : List (Addr × Obj)) : Prop where
  ex : ∃ ps cods, b = (tab, tabObj ps) :: cods ∧ TabC qual ps cods ∧ ∀ q ∈ cods, q.1 ≠ tab
  news : News h₀ L h b
theorem law_step {prog : Program} {w : World} {f tab : Addr} {qual : Str} {dd uu : Nat} (C : LawC prog w f tab qual dd uu) {vs : List Value} {ns : List Int} {P l : Addr} {k c : Int} {tk tc : Tok} {n : Nat} {b oth : List (Addr × Obj)}
    {dp un : Nat} {cn : Str} {cs : Scope} {a : Addr} {ccd : Value} {cl : List (Str × Addr)} {outer : List Env} {A₀ : Around} {base h₀ : Heap} {L : Addr} {m : Str → Option Value} {s : Shared}
    {p : Program} {loose : List Str} {mean : ExcName → Option Value} {mg mb : Str → Option Value} {Q E : Value → Shared → Prop}
    (hi : IntsAre vs ns) (hn : ns.length ≤ 63) (k0 : 0 ≤ k) (k1 : k < 9000) (c0 : 0 ≤ c) (c1 : c < 997) (B : Below A₀ base outer h₀) (F : Fr h₀ L s.heap m) (X : (hd.heap_1 w.params).In h₀) (T : Top p loose mean mg mb h₀)
    (XB : (hd.heap_1 w.params).In base) (TB : Top p loose mean mg mb base) (hk : cs.kind = .function) (hdp : dp + dd < recursionLimit) (hu : un + uu < cLine)
    (N : News h₀ L s.heap [(P, penO2 l k c tk tc n)]) (Bk : Blk h₀ L s.heap tab qual b) (O : News h₀ L s.heap oth) {nl : Nat} (hl : (l, listOf vs.toArray nl) ∈ oth) (d1 : Off P b) (d2 : Dis b oth) (d3 : Off P oth)
    (ret : ∀ h' tk' h₀' k' t' b', Fr h₀' L h' m → Below A₀ base outer h₀' → (hd.heap_1 w.params).In h₀' → Top p loose mean mg mb h₀' → k ≤ k' → k' ≤ k + 50 → News h₀' L h' [(P, penO2 l k' c t' tc n)] → Blk h₀' L h' tab qual b' → News h₀' L h' oth → Off P b' → Dis b' oth →
      Q (.bool true) { s with heap := h', toks := tk' }) :
    wpN (model prog w) (ktrTop dp un (some []) cn cs L a ccd cl outer) (call (.ref f) [.ref P]) Q E s := by
  refine cps fun G9 r9 => ?_
  obtain ⟨ps, cods, rfl, K, hct⟩ := Bk.ex
  refine r9 ?_
  clear r9 G9
  have hP : s.heap.get? P = some (penO2 l k c tk tc n) := (N _ (.head _)).1
  have htab : s.heap.get? tab = some (tabObj ps) := (Bk.news _ (.head _)).1
  refine C vs ns P l k c tk tc n ps cods dp un cn cs a ccd cl outer A₀ base h₀ L m s p loose mean mg mb Q E hi hn k0 k1 c0 c1 B F X (News.cons N Bk.news) T XB TB hk hdp hu (News.isList O hl) (d3 _ hl) K (fun q hq => ⟨d1 q (.tail _ hq), hct q hq, d2 q (.tail _ hq) _ hl⟩) (fun h' tk' h₀' k' t' ps' cods' F' B' X' T' k2 k3 N' K' fr surv => ?_)
  have new : ∀ q ∈ cods', q ∈ cods ∨ ∀ x o, s.heap.get? x = some o → q.1 ≠ x := fun q hq => (fr q hq).imp id fun e x o h z => by rw [z, h] at e; cases e
  refine ret h' tk' h₀' k' t' ((tab, tabObj ps') :: cods') F' B' X' T' k2 k3 (News.sub N' fun q hq => by rw [List.mem_singleton.mp hq]; exact .head _) ⟨⟨ps', cods', rfl, K', fun q hq => ?_⟩, News.sub N' fun q hq => .tail _ hq⟩
    (surv oth O fun q hq => ⟨d3 q hq, fun z => d2 _ (.head _) q hq z.symm, fun z => ?_⟩) (fun q hq => ?_) (fun q hq x hx => ?_)
  · rcases new q hq with z | z
    · exact hct q z
    · exact z _ _ htab
  · obtain ⟨y, hy, e⟩ := List.mem_map.mp z
    exact d2 y (.tail _ hy) q hq e
  · rcases List.mem_cons.mp hq with rfl | hq
    · exact d1 (tab, tabObj ps) (.head _)
    · rcases new q hq with z | z
      · exact d1 q (.tail _ z)
      · exact z _ _ hP
  · rcases List.mem_cons.mp hq with rfl | hq
    · exact d2 (tab, tabObj ps) (.head _) x hx
    · rcases new q hq with z | z
      · exact d2 q (.tail _ z) x hx
      · exact z _ _ (O x hx).1
theorem Blk.re {h₀ h h₀' h' : Heap} {L : Addr} {tab : Addr} {qual : Str} {b : List (Addr × Obj)} (x : Blk h₀ L h tab qual b) (N : News h₀' L h' b) : Blk h₀' L h' tab qual b := ⟨x.ex, N⟩
/-- the pen, the rest and the four tables share no address -/
structure Bnd (P : Addr) (R b1 b2 b3 b4 : List (Addr × Obj)) : Prop where
  p0 : Off P R
  p1 : Off P b1
  p2 : Off P b2
  p3 : Off P b3
  p4 : Off P b4
  r1 : Dis b1 R
  r2 : Dis b2 R
  r3 : Dis b3 R
  r4 : Dis b4 R
  d12 : Dis b1 b2
  d13 : Dis b1 b3
  d14 : Dis b1 b4
  d23 : Dis b2 b3
  d24 : Dis b2 b4
  d34 : Dis b3 b4
/-- the law's state between two of its calls -/
structure LawSt (w : World) (base : Heap) (p : Program) (loose : List Str) (mean : ExcName → Option Value) (mg mb : Str → Option Value) (L P l : Addr) (vs : List Value) (nl : Nat) (c : Int) (tc : Tok) (n0 : Nat) (I : Addr) (oI : Obj) (m : Str → Option Value) (k : Int) (h₀ h : Heap) : Prop where
  F : Fr h₀ L h m
  B : Below callerA base [] h₀
  X : (hd.heap_1 w.params).In h₀
  T : Top p loose mean mg mb h₀
  ex : ∃ t b1 b2 b3 b4, News h₀ L h [(P, penO2 l k c t tc n0)] ∧ Blk h₀ L h 166 (Str.ofString "_law_split_right.<locals>.<lambda>") b1 ∧ Blk h₀ L h 171 (Str.ofString "_law_fields_right.<locals>.<lambda>") b2 ∧ Blk h₀ L h 176 (Str.ofString "_law_hellos_right.<locals>.<lambda>") b3 ∧ Blk h₀ L h 181 (Str.ofString "_law_chosen_right.<locals>.<lambda>") b4 ∧
    News h₀ L h [(l, listOf vs.toArray nl), (I, oI)] ∧ Bnd P [(l, listOf vs.toArray nl), (I, oI)] b1 b2 b3 b4
section
variable {prog : Program} {w : World} {dd uu : Nat} {vs : List Value} {ns : List Int} {P l I : Addr} {nl : Nat} {oI : Obj} {k c : Int} {tc : Tok} {n : Nat}
    {dp un : Nat} {cn : Str} {cs : Scope} {a : Addr} {ccd : Value} {cl : List (Str × Addr)} {base h₀ : Heap} {L : Addr} {m : Str → Option Value} {s : Shared}
    {p : Program} {loose : List Str} {mean : ExcName → Option Value} {mg mb : Str → Option Value} {Q E : Value → Shared → Prop}
theorem law_step1 (C : LawC prog w 169 166 (Str.ofString "_law_split_right.<locals>.<lambda>") dd uu) (S : LawSt w base p loose mean mg mb L P l vs nl c tc n I oI m k h₀ s.heap) (hi : IntsAre vs ns) (hn : ns.length ≤ 63) (k0 : 0 ≤ k) (k1 : k < 9000) (c0 : 0 ≤ c) (c1 : c < 997)
    (XB : (hd.heap_1 w.params).In base) (TB : Top p loose mean mg mb base) (hk : cs.kind = .function) (hdp : dp + dd < recursionLimit) (hu : un + uu < cLine)
    (ret : ∀ h' tk' h₀' k', k ≤ k' → k' ≤ k + 50 → LawSt w base p loose mean mg mb L P l vs nl c tc n I oI m k' h₀' h' → Q (.bool true) { s with heap := h', toks := tk' }) :
    wpN (model prog w) (ktrTop dp un (some []) cn cs L a ccd cl []) (call (.ref 169) [.ref P]) Q E s := by
  refine cps fun G9 r9 => ?_
  obtain ⟨t, b1, b2, b3, b4, N, B1, B2, B3, B4, NR, D⟩ := S.ex
  refine r9 ?_
  clear r9 G9
  refine law_step C hi hn k0 k1 c0 c1 S.B S.F S.X S.T XB TB hk hdp hu N B1 (News.app NR (News.app B2.news (News.app B3.news B4.news))) (.head _) D.p1 (D.r1.app (D.d12.app (D.d13.app D.d14))) (D.p0.app (D.p2.app (D.p3.app D.p4)))
    (fun h' tk' h₀' k' t' b' F' B' X' T' x0 x1 N' Bk' O' o' e' => ret h' tk' h₀' k' x0 x1 ⟨F', B', X', T', t', b', b2, b3, b4, N', Bk', B2.re (News.sub O' fun q hq => ?_), B3.re (News.sub O' fun q hq => ?_), B4.re (News.sub O' fun q hq => ?_), News.sub O' fun q hq => List.mem_append_left _ hq, { D with p1 := o', r1 := e'.left, d12 := e'.right.left, d13 := e'.right.right.left, d14 := e'.right.right.right }⟩)
  · exact List.mem_append_right _ (List.mem_append_left _ hq)
  · exact List.mem_append_right _ (List.mem_append_right _ (List.mem_append_left _ hq))
  · exact List.mem_append_right _ (List.mem_append_right _ (List.mem_append_right _ hq))
theorem law_step2 (C : LawC prog w 174 171 (Str.ofString "_law_fields_right.<locals>.<lambda>") dd uu) (S : LawSt w base p loose mean mg mb L P l vs nl c tc n I oI m k h₀ s.heap) (hi : IntsAre vs ns) (hn : ns.length ≤ 63) (k0 : 0 ≤ k) (k1 : k < 9000) (c0 : 0 ≤ c) (c1 : c < 997)
    (XB : (hd.heap_1 w.params).In base) (TB : Top p loose mean mg mb base) (hk : cs.kind = .function) (hdp : dp + dd < recursionLimit) (hu : un + uu < cLine)
    (ret : ∀ h' tk' h₀' k', k ≤ k' → k' ≤ k + 50 → LawSt w base p loose mean mg mb L P l vs nl c tc n I oI m k' h₀' h' → Q (.bool true) { s with heap := h', toks := tk' }) :
    wpN (model prog w) (ktrTop dp un (some []) cn cs L a ccd cl []) (call (.ref 174) [.ref P]) Q E s := by
  refine cps fun G9 r9 => ?_
  obtain ⟨t, b1, b2, b3, b4, N, B1, B2, B3, B4, NR, D⟩ := S.ex
  refine r9 ?_
  clear r9 G9
  refine law_step C hi hn k0 k1 c0 c1 S.B S.F S.X S.T XB TB hk hdp hu N B2 (News.app NR (News.app B1.news (News.app B3.news B4.news))) (.head _) D.p2 (D.r2.app (D.d12.symm.app (D.d23.app D.d24))) (D.p0.app (D.p1.app (D.p3.app D.p4)))
    (fun h' tk' h₀' k' t' b' F' B' X' T' x0 x1 N' Bk' O' o' e' => ret h' tk' h₀' k' x0 x1 ⟨F', B', X', T', t', b1, b', b3, b4, N', B1.re (News.sub O' fun q hq => ?_), Bk', B3.re (News.sub O' fun q hq => ?_), B4.re (News.sub O' fun q hq => ?_), News.sub O' fun q hq => List.mem_append_left _ hq, { D with p2 := o', r2 := e'.left, d12 := e'.right.left.symm, d23 := e'.right.right.left, d24 := e'.right.right.right }⟩)
  · exact List.mem_append_right _ (List.mem_append_left _ hq)
  · exact List.mem_append_right _ (List.mem_append_right _ (List.mem_append_left _ hq))
  · exact List.mem_append_right _ (List.mem_append_right _ (List.mem_append_right _ hq))
theorem law_step3 (C : LawC prog w 179 176 (Str.ofString "_law_hellos_right.<locals>.<lambda>") dd uu) (S : LawSt w base p loose mean mg mb L P l vs nl c tc n I oI m k h₀ s.heap) (hi : IntsAre vs ns) (hn : ns.length ≤ 63) (k0 : 0 ≤ k) (k1 : k < 9000) (c0 : 0 ≤ c) (c1 : c < 997)
    (XB : (hd.heap_1 w.params).In base) (TB : Top p loose mean mg mb base) (hk : cs.kind = .function) (hdp : dp + dd < recursionLimit) (hu : un + uu < cLine)
    (ret : ∀ h' tk' h₀' k', k ≤ k' → k' ≤ k + 50 → LawSt w base p loose mean mg mb L P l vs nl c tc n I oI m k' h₀' h' → Q (.bool true) { s with heap := h', toks := tk' }) :
    wpN (model prog w) (ktrTop dp un (some []) cn cs L a ccd cl []) (call (.ref 179) [.ref P]) Q E s := by
  refine cps fun G9 r9 => ?_
  obtain ⟨t, b1, b2, b3, b4, N, B1, B2, B3, B4, NR, D⟩ := S.ex
  refine r9 ?_
  clear r9 G9
  refine law_step C hi hn k0 k1 c0 c1 S.B S.F S.X S.T XB TB hk hdp hu N B3 (News.app NR (News.app B1.news (News.app B2.news B4.news))) (.head _) D.p3 (D.r3.app (D.d13.symm.app (D.d23.symm.app D.d34))) (D.p0.app (D.p1.app (D.p2.app D.p4)))
    (fun h' tk' h₀' k' t' b' F' B' X' T' x0 x1 N' Bk' O' o' e' => ret h' tk' h₀' k' x0 x1 ⟨F', B', X', T', t', b1, b2, b', b4, N', B1.re (News.sub O' fun q hq => ?_), B2.re (News.sub O' fun q hq => ?_), Bk', B4.re (News.sub O' fun q hq => ?_), News.sub O' fun q hq => List.mem_append_left _ hq, { D with p3 := o', r3 := e'.left, d13 := e'.right.left.symm, d23 := e'.right.right.left.symm, d34 := e'.right.right.right }⟩)
  · exact List.mem_append_right _ (List.mem_append_left _ hq)
  · exact List.mem_append_right _ (List.mem_append_right _ (List.mem_append_left _ hq))
  · exact List.mem_append_right _ (List.mem_append_right _ (List.mem_append_right _ hq))
theorem law_step4 (C : LawC prog w 184 181 (Str.ofString "_law_chosen_right.<locals>.<lambda>") dd uu) (S : LawSt w base p loose mean mg mb L P l vs nl c tc n I oI m k h₀ s.heap) (hi : IntsAre vs ns) (hn : ns.length ≤ 63) (k0 : 0 ≤ k) (k1 : k < 9000) (c0 : 0 ≤ c) (c1 : c < 997)
    (XB : (hd.heap_1 w.params).In base) (TB : Top p loose mean mg mb base) (hk : cs.kind = .function) (hdp : dp + dd < recursionLimit) (hu : un + uu < cLine)
    (ret : ∀ h' tk' h₀' k', k ≤ k' → k' ≤ k + 50 → LawSt w base p loose mean mg mb L P l vs nl c tc n I oI m k' h₀' h' → Q (.bool true) { s with heap := h', toks := tk' }) :
    wpN (model prog w) (ktrTop dp un (some []) cn cs L a ccd cl []) (call (.ref 184) [.ref P]) Q E s := by
  refine cps fun G9 r9 => ?_
  obtain ⟨t, b1, b2, b3, b4, N, B1, B2, B3, B4, NR, D⟩ := S.ex
  refine r9 ?_
  clear r9 G9
  refine law_step C hi hn k0 k1 c0 c1 S.B S.F S.X S.T XB TB hk hdp hu N B4 (News.app NR (News.app B1.news (News.app B2.news B3.news))) (.head _) D.p4 (D.r4.app (D.d14.symm.app (D.d24.symm.app D.d34.symm))) (D.p0.app (D.p1.app (D.p2.app D.p3)))
    (fun h' tk' h₀' k' t' b' F' B' X' T' x0 x1 N' Bk' O' o' e' => ret h' tk' h₀' k' x0 x1 ⟨F', B', X', T', t', b1, b2, b3, b', N', B1.re (News.sub O' fun q hq => ?_), B2.re (News.sub O' fun q hq => ?_), B3.re (News.sub O' fun q hq => ?_), Bk', News.sub O' fun q hq => List.mem_append_left _ hq, { D with p4 := o', r4 := e'.left, d14 := e'.right.left.symm, d24 := e'.right.right.left.symm, d34 := e'.right.right.right.symm }⟩)
  · exact List.mem_append_right _ (List.mem_append_left _ hq)
  · exact List.mem_append_right _ (List.mem_append_right _ (List.mem_append_left _ hq))
  · exact List.mem_append_right _ (List.mem_append_right _ (List.mem_append_right _ hq))
theorem law_store {A : Around} {x : Str} {v : Value} {Q : Unit → Shared → Prop} (S : LawSt w base p loose mean mg mb L P l vs nl c tc n I oI m k h₀ s.heap)
    (h : ∀ h', LawSt w base p loose mean mg mb L P l vs nl c tc n I oI (fun y => if y = x then some v else m y) k h₀ h' → Q () { s with heap := h', toks := s.toks + 1 }) (hk : cs.kind = .function) (hx : (envX cn cs L a ccd cl).kindOf x = some .local) :
    wpAny (model prog w) A (storeName (envX cn cs L a ccd cl) x v) Q E s := by
  refine cps fun G9 r9 => ?_
  obtain ⟨t, b1, b2, b3, b4, N, B1, B2, B3, B4, NR, D⟩ := S.ex
  refine r9 ?_
  clear r9 G9
  refine storeX_L S.F (News.app N (News.app B1.news (News.app B2.news (News.app B3.news (News.app B4.news NR))))) (fun h' F' N' => h h' ⟨F', S.B, S.X, S.T, t, b1, b2, b3, b4, News.sub N' fun q hq => ?_, B1.re (News.sub N' fun q hq => ?_), B2.re (News.sub N' fun q hq => ?_), B3.re (News.sub N' fun q hq => ?_), B4.re (News.sub N' fun q hq => ?_), News.sub N' fun q hq => ?_, D⟩) hk hx
  · exact List.mem_append_left _ hq
  · exact List.mem_append_right _ (List.mem_append_left _ hq)
  · exact List.mem_append_right _ (List.mem_append_right _ (List.mem_append_left _ hq))
  · exact List.mem_append_right _ (List.mem_append_right _ (List.mem_append_right _ (List.mem_append_left _ hq)))
  · exact List.mem_append_right _ (List.mem_append_right _ (List.mem_append_right _ (List.mem_append_right _ (List.mem_append_left _ hq))))
  · exact List.mem_append_right _ (List.mem_append_right _ (List.mem_append_right _ (List.mem_append_right _ (List.mem_append_right _ hq))))
end
/-- the loop's iterator has gone on -/
theorem LawSt.iter {w : World} {vs : List Value} {P l I : Addr} {nl : Nat} {oI oI' : Obj} {k c : Int} {tc : Tok} {n : Nat} {base h₀ h h' : Heap} {L : Addr} {m : Str → Option Value} {p : Program} {loose : List Str} {mean : ExcName → Option Value} {mg mb : Str → Option Value}
    (S : LawSt w base p loose mean mg mb L P l vs nl c tc n I oI m k h₀ h) (hP : I ≠ P) (hl : I ≠ l) (kp : ∀ b o, b ∉ [I] → h.get? b = some o → h'.get? b = some o) (e : h'.get? I = some oI') : LawSt w base p loose mean mg mb L P l vs nl c tc n I oI' m k h₀ h' := by
  refine cps fun G9 r9 => ?_
  obtain ⟨t, b1, b2, b3, b4, N, B1, B2, B3, B4, NR, D⟩ := S.ex
  refine r9 ?_
  clear r9 G9
  have nI := NR _ (.tail _ (.head _))
  have kp' : ∀ b o, b ≠ I → h.get? b = some o → h'.get? b = some o := fun b o hb e => kp b o (fun z => hb (List.mem_singleton.mp z)) e
  have go : ∀ {x : List (Addr × Obj)}, News h₀ L h x → (∀ q ∈ x, q.1 ≠ I) → News h₀ L h' x := fun Nx hx q hq => ⟨kp' _ _ (hx q hq) (Nx q hq).1, (Nx q hq).2⟩
  have hR : ∀ {x : List (Addr × Obj)}, Dis x [(l, listOf vs.toArray nl), (I, oI)] → Dis x [(l, listOf vs.toArray nl), (I, oI')] := fun d a ha b hb => by
    rcases List.mem_cons.mp hb with rfl | hb
    · exact d a ha _ (.head _)
    · rw [List.mem_singleton.mp hb]; exact d a ha (I, oI) (.tail _ (.head _))
  refine ⟨fr_but S.F kp (Ne.symm nI.2.1) nI.2.2, S.B, S.X, S.T, t, b1, b2, b3, b4, go N fun q hq => ?_, B1.re (go B1.news fun q hq => ?_), B2.re (go B2.news fun q hq => ?_), B3.re (go B3.news fun q hq => ?_), B4.re (go B4.news fun q hq => ?_), News.cons (go (News.sub NR fun q hq => by rw [List.mem_singleton.mp hq]; exact .head _) fun q hq => ?_) (fun q hq => by rw [List.mem_singleton.mp hq]; exact ⟨e, nI.2⟩),
    { D with p0 := ?_, r1 := hR D.r1, r2 := hR D.r2, r3 := hR D.r3, r4 := hR D.r4 }⟩
  · rw [List.mem_singleton.mp hq]; exact hP.symm
  · exact D.r1 q hq (I, oI) (.tail _ (.head _))
  · exact D.r2 q hq (I, oI) (.tail _ (.head _))
  · exact D.r3 q hq (I, oI) (.tail _ (.head _))
  · exact D.r4 q hq (I, oI) (.tail _ (.head _))
  · rw [List.mem_singleton.mp hq]; exact hl.symm
  · intro q hq
    rcases List.mem_cons.mp hq with rfl | hq
    · exact D.p0 _ (.head _)
    · rw [List.mem_singleton.mp hq]; exact hP
/-- the loop's start -/
theorem LawSt.start {w : World} {vs : List Value} {P l I : Addr} {nl : Nat} {oI : Obj} {c : Int} {t tc : Tok} {n : Nat} {base h : Heap} {L : Addr} {m : Str → Option Value} {p : Program} {loose : List Str} {mean : ExcName → Option Value} {mg mb : Str → Option Value}
    (F : Fr base L h m) (B : Below callerA base [] base) (X : (hd.heap_1 w.params).In base) (T : Top p loose mean mg mb base) (N : News base L h [(P, penO2 l 0 c t tc n), (l, listOf vs.toArray nl), (I, oI), (166, tabObj #[]), (171, tabObj #[]), (176, tabObj #[]), (181, tabObj #[])])
    (h1 : l < P) (h2 : P < I) (h3 : (181 : Nat) < l) : LawSt w base p loose mean mg mb L P l vs nl c tc n I oI m 0 base h := by
  have h1 : @LT.lt Nat _ l P := h1
  have h2 : @LT.lt Nat _ P I := h2
  have h3 : @LT.lt Nat _ 181 l := h3
  have bk : ∀ {tab : Addr} {q : Str}, (tab, tabObj #[]) ∈ [(P, penO2 l 0 c t tc n), (l, listOf vs.toArray nl), (I, oI), (166, tabObj #[]), (171, tabObj #[]), (176, tabObj #[]), (181, tabObj #[])] → Blk base L h tab q [(tab, tabObj #[])] :=
    fun hm => ⟨⟨#[], [], rfl, TabC.nil, fun _ q => nomatch q⟩, News.sub N fun q hq => by rw [List.mem_singleton.mp hq]; exact hm⟩
  have off : ∀ {a b : Addr} {o : Obj}, @Ne Nat b a → Off a [(b, o)] := fun d q hq => by rw [List.mem_singleton.mp hq]; exact d
  have dis : ∀ {a b : Addr} {o o' : Obj}, @Ne Nat a b → Dis [(a, o)] [(b, o')] := fun d q hq r hr => by rw [List.mem_singleton.mp hq, List.mem_singleton.mp hr]; exact d
  have dis2 : ∀ {a b b' : Addr} {o o1 o2 : Obj}, @Ne Nat a b → @Ne Nat a b' → Dis [(a, o)] [(b, o1), (b', o2)] := fun d d' => Dis.app (B := [(_, _)]) (C := [(_, _)]) (dis d) (dis d')
  exact ⟨F, B, X, T, t, _, _, _, _, News.sub N fun q hq => by rw [List.mem_singleton.mp hq]; exact .head _, bk (by k_mem), bk (by k_mem), bk (by k_mem), bk (by k_mem), News.sub N fun q hq => by
      rcases List.mem_cons.mp hq with rfl | hq
      · k_mem
      · rw [List.mem_singleton.mp hq]; k_mem,
    { p0 := Off.app (B := [(_, _)]) (C := [(_, _)]) (off (by omega)) (off (by omega)), p1 := off (by omega), p2 := off (by omega), p3 := off (by omega), p4 := off (by omega), r1 := dis2 (by omega) (by omega), r2 := dis2 (by omega) (by omega), r3 := dis2 (by omega) (by omega), r4 := dis2 (by omega) (by omega),
      d12 := dis (by omega), d13 := dis (by omega), d14 := dis (by omega), d23 := dis (by omega), d24 := dis (by omega), d34 := dis (by omega) }⟩
/-- the law's end: all of the ground stays, the tables have grown -/
theorem LawSt.done {w : World} {vs : List Value} {P l I : Addr} {nl : Nat} {oI : Obj} {k c : Int} {tc : Tok} {n : Nat} {base h₀ h : Heap} {L : Addr} {m : Str → Option Value} {p : Program} {loose : List Str} {mean : ExcName → Option Value} {mg mb : Str → Option Value}
    (S : LawSt w base p loose mean mg mb L P l vs nl c tc n I oI m k h₀ h) : (∀ b o, base.get? b = some o → h.get? b = some o) ∧ GrownAll [(183, 181), (178, 176), (173, 171), (168, 166)] h := by
  refine cps fun G9 r9 => ?_
  obtain ⟨t, b1, b2, b3, b4, N, B1, B2, B3, B4, NR, D⟩ := S.ex
  refine r9 ?_
  clear r9 G9
  have gr : ∀ {tab : Addr} {q : Str} {b : List (Addr × Obj)}, Blk h₀ L h tab q b → GrownAt tab h := fun x => by
    refine cps fun G9 r9 => ?_
    obtain ⟨ps, cods, rfl, _, _⟩ := x.ex
    refine r9 ?_
    clear r9 G9
    exact ⟨ps, (x.news _ (.head _)).1⟩
  exact ⟨fun b o e => S.F.keep b o (S.B.stays b o e), gr B4, gr B3, gr B2, gr B1, trivial⟩
theorem LawSt.last {w : World} {vs : List Value} {P l I : Addr} {nl : Nat} {oI : Obj} {k c : Int} {tc : Tok} {n : Nat} {base h₀ h h' : Heap} {L : Addr} {m : Str → Option Value} {p : Program} {loose : List Str} {mean : ExcName → Option Value} {mg mb : Str → Option Value}
    (S : LawSt w base p loose mean mg mb L P l vs nl c tc n I oI m k h₀ h) (hI : base.get? I = none) (hl : (181 : Nat) < I) (kp : ∀ b o, b ∉ [I] → h.get? b = some o → h'.get? b = some o) : (∀ b o, base.get? b = some o → h'.get? b = some o) ∧ GrownAll [(183, 181), (178, 176), (173, 171), (168, 166)] h' := by
  refine cps fun G9 r9 => ?_
  obtain ⟨k0, g4, g3, g2, g1, _⟩ := S.done
  refine r9 ?_
  clear r9 G9
  have hl : @LT.lt Nat _ 181 I := hl
  have gr : ∀ {tab : Addr}, @Ne Nat tab I → GrownAt tab h → GrownAt tab h' := fun d ⟨ps, e⟩ => ⟨ps, kp _ _ (fun z => d (List.mem_singleton.mp z)) e⟩
  exact ⟨fun b o e => kp b o (fun z => by rw [List.mem_singleton.mp z, hI] at e; cases e) (k0 b o e), gr (by omega) g4, gr (by omega) g3, gr (by omega) g2, gr (by omega) g1, trivial⟩
theorem off_TLh : True := by
  w_top off
  trivial
/-- the law's def is called, in contexts without a decoder -/
theorem enter_callN {M : Model} {A : Around} {s : Shared} {f : Value} {pos : List Value} {c : ClaimW} {cl : Str → Option Addr} {mean : ExcName → Option Value} {args : List WData} {s₁ : Shared}
    (h : codeN M A (.call f ⟨pos, []⟩) (GoodWG c cl mean args s₁) s) : wpN M A (PySem.call f pos []) (fun v s' => GoodWG c cl mean args s₁ (.ok (.ret v)) s') (fun e s' => GoodWG c cl mean args s₁ (.error e) s') s :=
  wpN_call (codeN_mono h fun x s' g => by
    obtain ⟨z, _⟩ := id g
    rcases z with ⟨v, _, _, e, _⟩ | ⟨v, _, _, e, _⟩
    all_goals (subst e; exact g))
theorem call_fullN {prog : Program} {w : World} {A : Around} {R : Result → Shared → Prop} {s : Shared} {name : Str} {params : Arguments} {body : List Stmt} {scope : Scope} {dV kV pm cd doc : Value} {a : Addr} {o : Obj} {args : Args} {binds : List (Str × Value)}
    (hroom : A.depth < recursionLimit) (ho : s.heap.get? a = some o) (hdata : o.data = .func { docDef name params body scope pm cd doc with defaults := dV, kwdefaults := kV }) (hlim : s.heap.NoLimit) (hcd : s.heap.CodeRec cd name)
    (hbind : BindsTo s { docDef name params body scope pm cd doc with defaults := dV, kwdefaults := kV } args binds) (hloc : ∀ x ∈ binds, scope.names.lookup x.1 = some .local)
    (h : ∀ h₁, Fr s.heap s.heap.objs.size h₁ (fun x => binds.reverse.lookup x) →
      wpN (model prog w) (A.deeper (envOf name scope s.heap.objs.size a cd)) (execs body (envOf name scope s.heap.objs.size a cd)) (fun f s' => R (.ok (.ret (match f with | .ret v => v | _ => .none))) s')
        (fun e s' => wpAny (model prog w) (A.deeper (envOf name scope s.heap.objs.size a cd)) (leaving (envOf name scope s.heap.objs.size a cd) e) (fun _ s'' => R (.error e) s'') (fun e' s'' => R (.error e') s'') s') { s with heap := h₁, toks := s.toks + binds.length })
    (hco : scope.isCoroutine = false) (hgen : scope.isGenerator = false) (hk : scope.kind = .function) (hcell : ∀ x ∈ scope.names, x.2 ≠ .cell) : codeN (model prog w) A (.call (.ref a) args) R s := by
  refine codeN_call_function (body := body) hroom ho hdata hco hgen rfl hcd (hbind _ _ _ _ ?_)
  refine wpAny_newFunctionEnv hcell hloc (fun h₁ hns hsb => ⟨hlim.fresh _ hsb, codeN_func ?_⟩) hk
  exact h h₁ ⟨hns, fun b o e => hsb.extBut b o (Nat.ne_of_lt (Heap.lt_size e)) (Heap.get?_push_of_some _ e), Nat.le_refl _⟩
/-- the law gives True back, and of what was there only the codes' tables have grown -/
theorem good_true {c : ClaimW} {cl : Str → Option Addr} {mean : ExcName → Option Value} {args : List WData} {s₁ : Shared} {tabs : List (Addr × Addr)} {h' : Heap} {tk' : Nat} (hT : TabsAt tabs s₁.heap) (hg : s₁.gens = #[]) (hr : ∀ x, c.raises args x = false) (hp : c.post args (.bool true) args = true)
    (k : ∀ b o, (ghostOf s₁.heap tabs).get? b = some o → h'.get? b = some o) (g : GrownAll tabs h') : GoodWG c cl mean args s₁ (.ok (.ret (.bool true))) { s₁ with heap := h', toks := tk' } := by
  have tab : ∀ b o, s₁.heap.get? b = some o → h'.get? b = some o ∨ (isCodeTable s₁.heap b ∧ o = tabObj #[] ∧ ∃ ps, h'.get? b = some (tabObj ps)) := fun b o e => by
    by_cases hb : b ∈ tabs.map (·.2)
    · obtain ⟨q, hq, rfl⟩ := List.mem_map.mp hb
      have e2 := (hT q hq).2
      rw [e] at e2
      exact .inr ⟨((hT q hq).1.tab (hT q hq).2).isCodeTable, Option.some.inj e2, g.get q hq⟩
    · exact .inl (k b o (ghost_ne e hb))
  refine ⟨.inl ⟨.bool true, .bool true, [], rfl, hr, .bool true, hp, fun _ => ⟨.nil, fun _ q => nomatch q⟩⟩, ⟨fun b o e => ?_, fun b o e => ?_⟩, rfl, .of_eq hg⟩
  · rcases tab b o e with x | ⟨x, rfl, ps, y⟩
    · exact .inl x
    · exact .inr (.inl ⟨x, rfl, #[], ps, rfl, by rw [Array.empty_append]; exact y⟩)
  · rcases tab b o e with x | ⟨_, _, _, y⟩
    · exact ⟨_, x⟩
    · exact ⟨_, y⟩
section
theorem off_TLaw : True := by
  w_top off
  trivial
theorem words88 : True := by
  (k_with "mine nstep" => ((with_reducible show wpN _ _ (exec (Stmt.For _ _ _ _ _) _) _ _ _); refine halt ?_))
  trivial
theorem words89 : True := by
  (k_with "pyIter ref" => (refine halt ?_))
  trivial
theorem words90 : True := by
  (k_with "eval Name" => (refine nameX_L (by k_asm) (by assumption) ?_ (by rfl) (by rfl); k_whole))
  trivial
theorem words91 : True := by
  (k_with "mine ncall" => ((first | (with_reducible show wpN _ _ (call (Value.ref 169) _ _) _ _ _) | (with_reducible show wpN _ _ (call (Value.ref 174) _ _) _ _ _) | (with_reducible show wpN _ _ (call (Value.ref 179) _ _) _ _ _) | (with_reducible show wpN _ _ (call (Value.ref 184) _ _) _ _ _)); refine halt ?_))
  trivial
set_option maxHeartbeats 4000000 in
theorem law_holds : PySem.Challenge.rw_pf0253_01.Holds := by
  refine hd ?_
  k_fill
  intro w s₀ s₁ mg mb G Y fa o pm cd doc dV kV ho hdd hcd hD hmg hg args vals as hpre hlay hrd hwl hlo
  have KX := km_in_of Y
  km_tabs Y
  have X := (Ground.X G).1
  have V := (Ground.X G).2
  refine Ground.open G ?_
  intro T B D TE TW
  try (refine guard_noD D (by decide +kernel) ?_; clear D)
  km_lay T hmg ho hdd cd
  clear hmg
  wrow_args hpre hlay hrd hwl hlo
  refine enter_callN ?_
  have he := Dflts.none hD rfl
  subst he
  have he := Dflts.noKw hD
  subst he
  refine call_fullN (by decide) ho hdd (Top.nolimit T) hcd (BindsTo.of_eq rfl) (locs rfl) (fun h₁ F => ?_) rfl rfl rfl (by decide)
  w_binds F
  have N0 := (News.nil : News _ _ _ []).at F
  clear hdd
  kn_ghosts F T
  (walk_at "mine shade"; rename_i ns hs9 hy1 hy2 hy3 hy4 as4 as3 l0 vs as1 hL ra hw1 hr0 hI hr9 hns htr X0 T0 K0 F0 hA1 hA2 hA3 N0 lt0; walk_at "mine light")
  have good : ∀ h' tk', (∀ b o, (ghostOf s₁.heap [(183, 181), (178, 176), (173, 171), (168, 166)]).get? b = some o → h'.get? b = some o) → GrownAll [(183, 181), (178, 176), (173, 171), (168, 166)] h' →
      GoodWG PySem.Challenge.rw_pf0253_01.row.claim (classAt s₀.heap) (ExcName.means s₀.heap) [ofPy (PyData.list (List.map PyData.int ns))] s₁ (.ok (.ret (.bool true))) { s₁ with heap := h', toks := tk' } :=
    fun h' tk' => good_true (tk' := tk') (c := PySem.Challenge.rw_pf0253_01.row.claim) (cl := classAt s₀.heap) (mean := ExcName.means s₀.heap) hT9 hg (fun _ => rfl) (postW_of (by wrow_shape) (by wtm_val) (by w_fin))
  refine wpN_mono (Q := fun f s' => f = .ret (.bool true) ∧ ∃ h' tk', s' = { s₁ with heap := h', toks := tk' } ∧ (∀ b o, (ghostOf s₁.heap [(183, 181), (178, 176), (173, 171), (168, 166)]).get? b = some o → h'.get? b = some o) ∧ GrownAll [(183, 181), (178, 176), (173, 171), (168, 166)] h') (E := fun _ _ => False) ?_ (fun f s' ⟨e1, h', tk', e2, g1, g2⟩ => ?_) (fun _ _ x => x.elim)
  case refine_2 => subst e1 e2; exact good _ _ g1 g2
  have hn63 : ns.length ≤ 63 := by omega
  clear good hs9 hy1 hy2 hy3 hy4 ra hw1 hr0 hr9 hns htr hT8 hT9 hD hcd ho X V T B TE TW G hL hA1 hA2 hA3 codeHd Y
  generalize (ghostOf s₁.heap [(183, 181), (178, 176), (173, 171), (168, 166)]) = base at *
  generalize s₁.heap.objs.size = L at *
  dsimp only at *
  walk_at "mine steps"
  unfold Halt
  (try dsimp only)
  refine n_noRaise (n_For ?_ (by intro _; rfl))
  walk_at "mine steps"
  unfold Halt
  (try dsimp only)
  (walk_at "mine shade"; rename_i Ds wsl h1a hIl hCl hLl lt1 Dl cap h5a lt2 Dss wss h4a hI2 hC2 hL2 lt3 h3a tk3 t3 P h2a lt4 h1b F10 N10 qn9 en9 qk9 ek9 h11 tk11 t1 u1 v1 hr F11 N11 k11; walk_at "mine light")
  (try clear F0)
  (try clear N0)
  (try clear N10)
  (try clear F10)
  refine cps fun G9 r9 => ?_
  obtain ⟨loose, T1⟩ : ∃ loose, Top topProg loose (ExcName.means s₀.heap) mg mb base := ⟨_, T0⟩
  refine r9 ?_
  clear r9 G9
  clear T0
  have hn50 : (List.take 50 ns).length ≤ 63 := by omega
  have c0 : 0 ≤ (List.take 50 ns).sum.fmod 997 := Int.fmod_nonneg_of_pos _ (by decide)
  have c1 : (List.take 50 ns).sum.fmod 997 < 997 := Int.fmod_lt_of_pos _ (by decide)
  refine wpAny_pyIter_range (s := ⟨h11, _, _, _, _⟩) hr (by decide) ?_
  refine cps fun G9 r9 => ?_
  obtain ⟨I, hIe⟩ : ∃ I : Nat, I = h11.objs.size := ⟨_, rfl⟩
  refine r9 ?_
  clear r9 G9
  have hPI : @LT.lt Nat _ P I := by rw [hIe]; exact Heap.lt_size (N11 _ (.head _)).1
  have hI0 := next_is_new F11
  have hIL := Nat.ne_of_lt F11.ns.lt
  dsimp only
  rw [← hIe] at hI0 hIL ⊢
  have h181 : @LT.lt Nat _ 181 Dl := by omega
  have hlP : @LT.lt Nat _ Dl P := by omega
  refine n_for (fun i s' => Halt (∃ h₀' h tk m k, s' = { s₁ with heap := h, toks := tk } ∧ m (Str.ofString "pen") = some (.ref P) ∧ 0 ≤ k ∧ k ≤ 200 * (i : Int) ∧
    LawSt w base topProg loose (ExcName.means s₀.heap) mg mb L P Dl wsl cap ((List.take 50 ns).sum.fmod 997) (tk3 + 1) 0 I { cls := .type "range_iterator", dict := none, data := .fields #[rawInt (0 + (i : Nat) * 1), rawInt ((3 : Nat) - (i : Nat)), rawInt 1], slots := #[] } m k h₀' h)) (range_walks rfl 0 3) ?_ (fun i v s' Q' _ st h => wpAny_of_eq (by rfl) h) ?_ ?_ ?_
  · intro i s' z9a
    refine cps fun G7 r7 => ?_
    obtain ⟨h₀', h, tk, m, k, rfl, _, _, _, S⟩ := z9a
    refine r7 ?_
    clear r7 G7
    refine cps fun G9 r9 => ?_
    obtain ⟨_, _, _, _, _, _, _, _, _, _, NR, _⟩ := S.ex
    refine r9 ?_
    clear r9 G9
    exact (NR _ (.tail _ (.head _))).1
  · clear F11 N11 hr k11
    intro i s' v h₁ tk₁ hi3 z9a z9b st kp
    refine cps fun G7 r7 => ?_
    obtain ⟨h₀', h, tk, m, k, rfl, hm, hk0, hk1, S⟩ := z9a
    obtain ⟨tv, rfl⟩ := z9b
    refine r7 ?_
    clear r7 G7
    have S1 := S.iter (Nat.ne_of_gt hPI) (Nat.ne_of_gt (Nat.lt_trans hlP hPI)) kp st
    with_unfolding_all refine wpN_any (wpAny_assign_Name (law_store (s := ⟨h₁, _, _, _, _⟩) S1 (fun h2 S2 => ?_) rfl rfl))
    clear S S1 kp st
    have hm2 : (fun y => if y = Str.ofString "turn" then some (Value.int (0 + (i : Int)) tv) else m y) (Str.ofString "pen") = some (.ref P) := hm
    generalize (fun y => if y = Str.ofString "turn" then some (Value.int (0 + (i : Int)) tv) else m y) = m2 at S2 hm2
    have F2 := S2.F
    have B2 := S2.B
    have X2 := S2.X
    have T2 := S2.T
    walk_at "mine steps"
    unfold Halt
    (try dsimp only)
    with_unfolding_all refine law_step1 split_law (s := ⟨h2, _, _, _, _⟩) S2 hIl hn50 hk0 (by omega) c0 c1 X0 T1 rfl (by decide) (by decide) (fun h3 tk3' h₀3 k3 x1 x2 S3 => ?_)
    clear S2 F2 B2 X2 T2
    have F3 := S3.F
    have B3 := S3.B
    have X3 := S3.X
    have T3 := S3.T
    walk_at "mine steps"
    unfold Halt
    (try dsimp only)
    with_unfolding_all refine law_step2 fields_law (s := ⟨h3, _, _, _, _⟩) S3 hIl hn50 (by omega) (by omega) c0 c1 X0 T1 rfl (by decide) (by decide) (fun h4 tk4 h₀4 k4 x3 x4 S4 => ?_)
    clear S3 F3 B3 X3 T3
    have F4 := S4.F
    have B4 := S4.B
    have X4 := S4.X
    have T4 := S4.T
    walk_at "mine steps"
    unfold Halt
    (try dsimp only)
    with_unfolding_all refine law_step3 hellos_law (s := ⟨h4, _, _, _, _⟩) S4 hIl hn50 (by omega) (by omega) c0 c1 X0 T1 rfl (by decide) (by decide) (fun h5 tk5 h₀5 k5 x5 x6 S5 => ?_)
    clear S4 F4 B4 X4 T4
    have F5 := S5.F
    have B5 := S5.B
    have X5 := S5.X
    have T5 := S5.T
    walk_at "mine steps"
    unfold Halt
    (try dsimp only)
    with_unfolding_all refine law_step4 chosen_law (s := ⟨h5, _, _, _, _⟩) S5 hIl hn50 (by omega) (by omega) c0 c1 X0 T1 rfl (by decide) (by decide) (fun h6 tk6 h₀6 k6 x7 x8 S6 => ?_)
    clear S5 F5 B5 X5 T5
    have F6 := S6.F
    have B6 := S6.B
    have X6 := S6.X
    have T6 := S6.T
    walk_at "mine steps"
    show Halt _
    exact halt' ⟨h₀6, h6, _, m2, k6, rfl, hm2, by omega, by push_cast; omega, S6⟩
  · intro s' h₁ tk₁ z9a kp
    refine cps fun G7 r7 => ?_
    obtain ⟨h₀', h, tk, m, k, rfl, hm, hk0, hk1, S⟩ := z9a
    refine r7 ?_
    clear r7 G7
    refine cps fun G9 r9 => ?_
    obtain ⟨z1, z2⟩ := S.last hI0 (Nat.lt_trans h181 (Nat.lt_trans hlP hPI)) kp
    refine r9 ?_
    clear r9 G9
    have last : ∀ tk', qn9 (.ret (.bool true)) { s₁ with heap := h₁, toks := tk' } := fun tk' => ⟨rfl, _, _, rfl, z1, z2⟩
    have F2 := fr_but S.F kp hIL (by obtain ⟨_, _, _, _, _, _, _, _, _, _, NR, _⟩ := S.ex; exact (NR _ (.tail _ (.head _))).2.2)
    have B2 := S.B
    have X2 := S.X
    have T2 := S.T
    clear S z1 z2 kp F11 N11 hr k11
    clear_value qn9
    walk_at "mine steps"
    exact last _
  · have N12 : News base L (h11.push { cls := .type "range_iterator", data := .fields #[rawInt 0, rawInt (Builtin.Range.rangeSize 0 3 1), rawInt 1] }) [(I, { cls := .type "range_iterator", dict := none, data := .fields #[rawInt (0 + ((0 : Nat) : Int) * 1), rawInt ((3 : Nat) - ((0 : Nat) : Int)), rawInt 1], slots := #[] })] := fun q hq => by
      rw [List.mem_singleton.mp hq]
      exact ⟨by rw [hIe]; exact Heap.get?_push_size _ rfl, fun z => hIL z.symm, hI0⟩
    exact halt' ⟨base, _, _, _, 0, rfl, rfl, by omega, by omega, LawSt.start (F11.push _) K0 X0 T1 (News.cons (fun q hq => ⟨Heap.get?_push_of_some _ (N11 q (by rw [List.mem_singleton.mp hq]; k_mem)).1, (N11 q (by rw [List.mem_singleton.mp hq]; k_mem)).2⟩) (News.cons (fun q hq => ⟨Heap.get?_push_of_some _ (N11 q (by rw [List.mem_singleton.mp hq]; k_mem)).1, (N11 q (by rw [List.mem_singleton.mp hq]; k_mem)).2⟩) (News.cons N12 (fun q hq => by
      have hq' : q ∈ [(181, tabObj #[]), (176, tabObj #[]), (171, tabObj #[]), (166, tabObj #[])] := by
        simp only [List.mem_cons, List.not_mem_nil, or_false] at hq ⊢
        rcases hq with hq | hq | hq | hq <;> simp [hq]
      have := N11 q (.tail _ (.tail _ (.tail _ (.tail _ hq'))))
      exact ⟨Heap.get?_push_of_some _ this.1, this.2⟩)))) hlP hPI h181⟩
end
end Mine
theorem PySem.Challenge.cw_pf0253_01_holds : PySem.Challenge.rw_pf0253_01.Holds := by
  exact Mine.law_holds
