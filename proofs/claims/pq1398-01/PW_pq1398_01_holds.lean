import PyProof.Rows.All
import Wide.All
import OpenK.AllK
import Wide.FinOn
import PySem.Challenge.RW_pq1398_01
set_option Elab.async false
set_option maxRecDepth 100000
set_option maxHeartbeats 8000000
namespace Mine
section
open PySem PySem.W PyProof.Rows
open_top headT for PySem.Challenge.rw_pq1398_01
end
section
open PySem
theorem ipow_pos {p : Int} (hp : 1 ≤ p) : ∀ k : Nat, 1 ≤ p ^ k
  | 0 => by rw [Int.pow_zero]; decide
  | k + 1 => by
    have h := ipow_pos hp k
    rw [Int.pow_succ]
    have := Int.mul_le_mul h hp (by decide) (by omega)
    omega
theorem ipow_step {p : Int} (hp : 2 ≤ p) (k : Nat) : p ^ k < p ^ (k + 1) := by
  have h := ipow_pos (show 1 ≤ p by omega) k
  rw [Int.pow_succ]
  have := Int.mul_le_mul_of_nonneg_left hp (show 0 ≤ p ^ k by omega)
  omega
theorem ipow_mono {p : Int} (hp : 2 ≤ p) {a b : Nat} (h : a ≤ b) : p ^ a ≤ p ^ b := by
  induction b with
  | zero => rw [Nat.le_zero.mp h]; exact Int.le_refl _
  | succ b ih =>
    by_cases hab : a = b + 1
    · rw [hab]; exact Int.le_refl _
    · have := ih (by omega)
      have := ipow_step hp b
      omega
theorem ipow_lt {p : Int} (hp : 2 ≤ p) {a b : Nat} (h : p ^ a < p ^ b) : a < b := by
  by_cases hab : a < b
  · exact hab
  · have := ipow_mono hp (show b ≤ a by omega)
    omega
theorem ipow_le {p : Int} (hp : 2 ≤ p) {a b : Nat} (h : p ^ a ≤ p ^ b) : a ≤ b := by
  by_cases hab : a ≤ b
  · exact hab
  · have := ipow_mono hp (show b + 1 ≤ a by omega)
    have := ipow_step hp b
    omega
theorem ipow_inj {p : Int} (hp : 2 ≤ p) {a b : Nat} (h : p ^ a = p ^ b) : a = b :=
  Nat.le_antisymm (ipow_le hp (by omega)) (ipow_le hp (by omega))
/-- the turn of log_above's loop, at a power -/
theorem above_turn {bp n u c : Int} {k : Nat} (hp : 2 ≤ bp) (hn : n = bp ^ k) (h : 0 ≤ c ∧ c ≤ (k : Int) ∧ u = bp ^ c.toNat) (ht : u < n) : 0 ≤ c + 1 ∧ c + 1 ≤ (k : Int) ∧ u * bp = bp ^ (c + 1).toNat := by
  obtain ⟨h0, h1, h2⟩ := h
  have h3 : c.toNat < k := ipow_lt hp (by rw [← h2, ← hn]; exact ht)
  refine ⟨by omega, by omega, ?_⟩
  rw [h2, show (c + 1).toNat = c.toNat + 1 from by omega, Int.pow_succ]
theorem above_end {bp n u c : Int} {k : Nat} (hp : 2 ≤ bp) (hn : n = bp ^ k) (hk : k ≤ 4096) (h : 0 ≤ c ∧ c ≤ (k : Int) ∧ u = bp ^ c.toNat) (ht : ¬ (u < n ∧ c < 4096)) : c = (k : Int) := by
  obtain ⟨h0, h1, h2⟩ := h
  by_cases hc : c < (k : Int)
  · exfalso
    refine ht ⟨?_, by omega⟩
    have h4 := ipow_mono hp (show c.toNat + 1 ≤ k by omega)
    have := ipow_step hp c.toNat
    rw [h2, hn]
    omega
  · omega
/-- the turn at any fraction -/
theorem any_turn {bp u c : Int} (h : 0 ≤ c ∧ u = bp ^ c.toNat) : 0 ≤ c + 1 ∧ u * bp = bp ^ (c + 1).toNat := by
  obtain ⟨h0, h2⟩ := h
  refine ⟨by omega, ?_⟩
  rw [h2, show (c + 1).toNat = c.toNat + 1 from by omega, Int.pow_succ]
theorem gcd_pow {p q : Int} (h : Int.gcd p q = 1) (k : Nat) : Int.gcd (p ^ k) (q ^ k) = 1 := by
  show Nat.gcd (p ^ k).natAbs (q ^ k).natAbs = 1
  rw [Int.natAbs_pow, Int.natAbs_pow]
  exact Nat.Coprime.pow k k h
/-- what holds of log_above's loop at a power -/
def AbInv (bp : Int) (k : Nat) (u c : Int) : Prop := 0 ≤ u ∧ 0 ≤ c ∧ c ≤ (k : Int) ∧ u = bp ^ c.toNat
theorem ab_start {bp : Int} {k : Nat} : AbInv bp k 1 0 := ⟨by decide, by decide, by omega, by rw [show (0 : Int).toNat = 0 from rfl, Int.pow_zero]⟩
theorem ab_turn {bp n u c : Int} {k : Nat} (hp : 2 ≤ bp) (hn : n = bp ^ k) (h : AbInv bp k u c) (ht : u < n) : AbInv bp k (u * bp) (c + 1) := by
  obtain ⟨h1, h2⟩ := h
  have := above_turn hp hn h2 ht
  exact ⟨Int.mul_nonneg h1 (by omega), this⟩
theorem ab_less {bp n u c : Int} {k : Nat} (hp : 2 ≤ bp) (hn : n = bp ^ k) (h : AbInv bp k u c) (ht : u < n) : k - (c + 1).toNat < k - c.toNat := by
  obtain ⟨h1, h2, h3, h4⟩ := h
  have : c.toNat < k := ipow_lt hp (by rw [← h4, ← hn]; exact ht)
  omega
theorem ab_c {bp n u c : Int} {k : Nat} (hp : 2 ≤ bp) (hn : n = bp ^ k) (hk : k ≤ 4096) (h : AbInv bp k u c) (ht : ¬ u < n ∨ ¬ c < 4096) : c = (k : Int) :=
  above_end hp hn hk h.2 (by omega)
theorem ab_u {bp n u c : Int} {k : Nat} (hp : 2 ≤ bp) (hn : n = bp ^ k) (hk : k ≤ 4096) (h : AbInv bp k u c) (ht : ¬ u < n ∨ ¬ c < 4096) : u = n := by
  have hc := ab_c hp hn hk h ht
  rw [h.2.2.2, hn, hc, Int.toNat_natCast]
theorem ab_d {bp n u c q d : Int} {k : Nat} (hp : 2 ≤ bp) (hn : n = bp ^ k) (hd : d = q ^ k) (hk : k ≤ 4096) (h : AbInv bp k u c) (ht : ¬ u < n ∨ ¬ c < 4096) : q ^ c.toNat = d := by
  have hc := ab_c hp hn hk h ht
  rw [hd, hc, Int.toNat_natCast]
end
section
open PySem PySem.W PyProof.Rows PySem.Calls PySem.Spec
section
variable {prog : Program} {w : World} {A : Around} {E : Value → Shared → Prop} {s : Shared} {a b : Addr} {n d n' d' : Int} {t u t' u' : Tok} {x : Str} {Q : Value → Shared → Prop}
theorem tup_reads {h : Heap} (ha : IsTup h a #[.int n t, .int d u]) : Reads h (.ref a) (.tuple [.int n, .int d]) [] := by
  obtain ⟨o, ho, hc, k, hd⟩ := ha
  exact reads_tuple_at ho hc hd (ReadsAll.cons (Reads.int _ _) (ReadsAll.cons (Reads.int _ _) ReadsAll.nil))
theorem tup_eq (ha : IsTup s.heap a #[.int n t, .int d u]) (hb : IsTup s.heap b #[.int n' t', .int d' u']) (hu : A.units + 64 < cLine) (h : Q (.bool (decide (n = n' ∧ d = d'))) s) :
    wpAny (model prog w) A (compareOp .Eq (.ref a) (.ref b)) Q E s := by
  refine eq_dataH (tup_reads ha) (tup_reads hb) (by rfl) (by rfl) hu ?_
  have e : PyData.eqv (.tuple [.int n, .int d]) (.tuple [.int n', .int d']) = decide (n = n' ∧ d = d') := by
    simp only [PyData.eqv, PyData.eqvAll, Bool.and_true]
    by_cases h1 : n = n' <;> by_cases h2 : d = d' <;> simp [h1, h2]
  rw [e]
  exact h
theorem tup_ne (ha : IsTup s.heap a #[.int n t, .int d u]) (hb : IsTup s.heap b #[.int n' t', .int d' u']) (hu : A.units + 64 < cLine) (h : Q (.bool (decide (¬ (n = n' ∧ d = d')))) s) :
    wpAny (model prog w) A (compareOp .NotEq (.ref a) (.ref b)) Q E s := by
  refine ne_dataH (tup_reads ha) (tup_reads hb) (by rfl) (by rfl) hu ?_
  have e : (!PyData.eqv (.tuple [.int n, .int d]) (.tuple [.int n', .int d'])) = decide (¬ (n = n' ∧ d = d')) := by
    simp only [PyData.eqv, PyData.eqvAll, Bool.and_true]
    by_cases h1 : n = n' <;> by_cases h2 : d = d' <;> simp [h1, h2]
  rw [e]
  exact h
theorem tup_ne_str (ha : IsTup s.heap a #[.int n t, .int d u]) (hx : SeqAt.shaped (.str x) = true) (hu : A.units + 64 < cLine) (h : Q (.bool true) s) :
    wpAny (model prog w) A (compareOp .NotEq (.ref a) (.str x t')) Q E s :=
  ne_dataH (tup_reads ha) (Reads.str _ _) (by rfl) hx hu h
end
end
section
open PySem PySem.W PyProof.Rows PySem.Calls
/-- each object keeps its class and its dict -/
def DK (h h' : Heap) : Prop := ∀ b o, h.get? b = some o → ∃ o', h'.get? b = some o' ∧ o'.dict = o.dict
theorem DK.refl (h : Heap) : DK h h := fun _ o e => ⟨o, e, rfl⟩
theorem DK.trans {h₁ h₂ h₃ : Heap} (x : DK h₁ h₂) (y : DK h₂ h₃) : DK h₁ h₃ := fun b o e =>
  let ⟨o', e', d'⟩ := x b o e
  let ⟨o'', e'', d''⟩ := y b o' e'
  ⟨o'', e'', d''.trans d'⟩
def KeepD (f : Obj → Obj) : Prop := ∀ o, (f o).dict = o.dict ∧ (o.isFreed = false → (f o).isFreed = false)
theorem DK.update {h : Heap} {a : Addr} {f : Obj → Obj} (k : KeepD f) : DK h (h.update a f) := fun b o e => by
  by_cases hab : a = b
  · subst hab
    exact ⟨f o, Heap.get?_update_self f e ((k o).2 (Heap.get?_some_iff.mp e).2), (k o).1⟩
  · exact ⟨o, (Heap.get?_update_other h f hab).trans e, rfl⟩
theorem DK.push {h : Heap} (o : Obj) : DK h (h.push o) := fun _ o' e => ⟨o', Heap.get?_push_of_some _ e, rfl⟩
/-- a tree that calls nothing and changes no object's dict -/
def Quiet {α : Type} : Sem α → Prop
  | .pure _ => True
  | .raise _ => True
  | .unsupported _ => True
  | .finish _ => True
  | .rule _ k => Quiet (k ())
  | .at _ k => Quiet (k ())
  | .load _ _ k => ∀ o, Quiet (k o)
  | .update _ _ f k => KeepD f ∧ Quiet (k ())
  | .loadIfAlive _ k => ∀ o, Quiet (k o)
  | .point _ k => Quiet (k ())
  | .alloc _ k => ∀ a, Quiet (k a)
  | .fresh k => ∀ t, Quiet (k t)
  | .ask k => ∀ t, Quiet (k t)
  | .handled _ k => ∀ t, Quiet (k t)
  | .stack k => ∀ t, Quiet (k t)
  | _ => False
theorem quiet_bind {α β : Type} {f : α → Sem β} (hf : ∀ a, Quiet (f a)) : ∀ {t : Sem α}, Quiet t → Quiet (t >>= f) := by
  intro t
  show Quiet t → Quiet (Sem.bind t f)
  induction t with
  | pure a => intro _; exact hf a
  | raise e => intro _; trivial
  | unsupported w => intro _; trivial
  | finish e => intro _; trivial
  | rule t k ih => intro h; exact ih () h
  | «at» p k ih => intro h; exact ih () h
  | load a p k ih => intro h o; exact ih o (h o)
  | update a p g k ih => intro h; exact ⟨h.1, ih () h.2⟩
  | loadIfAlive a k ih => intro h o; exact ih o (h o)
  | point l k ih => intro h; exact ih () h
  | alloc o k ih => intro h a; exact ih a (h a)
  | fresh k ih => intro h a; exact ih a (h a)
  | ask k ih => intro h a; exact ih a (h a)
  | handled o k ih => intro h a; exact ih a (h a)
  | stack k ih => intro h a; exact ih a (h a)
  | register => intro h; exact h.elim
  | choose => intro h; exact h.elim
  | os => intro h; exact h.elim
  | call => intro h; exact h.elim
  | newGen => intro h; exact h.elim
  | genState => intro h; exact h.elim
  | resume => intro h; exact h.elim
  | yield => intro h; exact h.elim
  | fork => intro h; exact h.elim
  | thread => intro h; exact h.elim
  | await => intro h; exact h.elim
theorem quiet_wp {α : Type} {M : Model} {Γ : Ctx} : ∀ (t : Sem α) {Q : α → Pos → Shared → Prop} {E : Value → Pos → Shared → Prop} {p : Pos} {s : Shared}, Quiet t → Sem.wp M Γ t Q E p s →
    Sem.wp M Γ t (fun a p' s' => Q a p' s' ∧ DK s.heap s'.heap) (fun e p' s' => E e p' s' ∧ DK s.heap s'.heap) p s := by
  intro t
  induction t with
  | pure a => intro Q E p s _ h; rw [Sem.wp] at h ⊢; exact ⟨h, .refl _⟩
  | raise e => intro Q E p s _ h; rw [Sem.wp] at h ⊢; exact ⟨h, .refl _⟩
  | unsupported w => intro Q E p s _ h; rw [Sem.wp] at h; exact h.elim
  | finish e => intro Q E p s _ h; rw [Sem.wp] at h; exact h.elim
  | rule t k ih => intro Q E p s q h; rw [Sem.wp] at h ⊢; exact ih () q h
  | «at» p k ih => intro Q E p s q h; rw [Sem.wp] at h ⊢; exact ih () q h
  | load a p k ih => intro Q E p s q h; rw [Sem.wp] at h ⊢; obtain ⟨o, e, h⟩ := h; exact ⟨o, e, ih o (q o) h⟩
  | update a p g k ih =>
    intro Q E p s q h
    rw [Sem.wp] at h ⊢
    refine ⟨h.1, Sem.wp_mono M Γ _ (fun _ _ _ z => ⟨z.1, (DK.update q.1).trans z.2⟩) (fun _ _ _ z => ⟨z.1, (DK.update q.1).trans z.2⟩) p _ (ih () q.2 h.2)⟩
  | loadIfAlive a k ih => intro Q E p s q h; rw [Sem.wp] at h ⊢; exact ih _ (q _) h
  | point l k ih => intro Q E p s q h; rw [Sem.wp] at h ⊢; exact ih () q h
  | alloc o k ih =>
    intro Q E p s q h
    rw [Sem.wp] at h ⊢
    exact Sem.wp_mono M Γ _ (fun _ _ _ z => ⟨z.1, (DK.push _).trans z.2⟩) (fun _ _ _ z => ⟨z.1, (DK.push _).trans z.2⟩) p _ (ih _ (q _) h)
  | fresh k ih => intro Q E p s q h; rw [Sem.wp] at h ⊢; exact ih _ (q _) h
  | ask k ih => intro Q E p s q h; rw [Sem.wp] at h ⊢; exact ih _ (q _) h
  | handled o k ih => intro Q E p s q h; rw [Sem.wp] at h ⊢; exact ih _ (q _) h
  | stack k ih => intro Q E p s q h; rw [Sem.wp] at h ⊢; exact ih _ (q _) h
  | register => intro Q E p s h; exact h.elim
  | choose => intro Q E p s h; exact h.elim
  | os => intro Q E p s h; exact h.elim
  | call => intro Q E p s h; exact h.elim
  | newGen => intro Q E p s h; exact h.elim
  | genState => intro Q E p s h; exact h.elim
  | resume => intro Q E p s h; exact h.elim
  | yield => intro Q E p s h; exact h.elim
  | fork => intro Q E p s h; exact h.elim
  | thread => intro Q E p s h; exact h.elim
  | await => intro Q E p s h; exact h.elim
theorem quiet_any {α : Type} {M : Model} {A : Around} {t : Sem α} {Q : α → Shared → Prop} {E : Value → Shared → Prop} {s : Shared} (q : Quiet t) (h : wpAny M A t Q E s) :
    wpAny M A t (fun a s' => Q a s' ∧ DK s.heap s'.heap) (fun e s' => E e s' ∧ DK s.heap s'.heap) s := fun Γ p hΓ => quiet_wp t q (h Γ p hΓ)
theorem quiet_field {v : Value} {i : Nat} : Quiet (field v i) := by
  unfold field fieldsOf
  refine quiet_bind (fun vs => ?_) ?_
  · split <;> trivial
  · split
    · refine quiet_bind (fun o => ?_) (fun _ => trivial)
      split <;> trivial
    · trivial
theorem keepD_mapFields {f : Array Value → Array Value} : KeepD (Obj.mapFields f) := fun o => by
  obtain ⟨c, d, dt, sl⟩ := o
  cases dt <;> exact ⟨rfl, fun h => h⟩
theorem quiet_setField {v x : Value} {i : Nat} : Quiet (setField v i x) := by
  unfold setField
  split
  · unfold updateField
    refine quiet_bind (fun o => ?_) (fun _ => trivial)
    split
    · split
      · exact ⟨keepD_mapFields, trivial⟩
      · trivial
    · trivial
  · trivial
theorem quiet_setFlight {e : Value} {f : Option Addr} : Quiet (setFlight e f) := by
  unfold setFlight
  refine quiet_bind (fun tb => ?_) quiet_field
  split
  · exact quiet_setField
  · trivial
theorem quiet_entryPlaceOf {f : Addr} {b : Bool} : Quiet (entryPlaceOf f b) := by
  unfold entryPlaceOf
  refine quiet_bind (fun acts => ?_) (fun _ => trivial)
  split <;> trivial
theorem quiet_newObj {cls : String} {vs : Array Value} : Quiet (newObj (.type cls) (.fields vs)) := by
  unfold newObj newObjAsIs
  dsimp only
  split
  · trivial
  · intro a
    trivial
theorem quiet_readyFrames : ∀ l : List Env, Quiet (readyFrames l)
  | [] => trivial
  | env :: outer => by
    unfold readyFrames
    split
    · refine quiet_bind (fun o => ?_) (fun _ => trivial)
      split
      · trivial
      · refine quiet_bind (fun i => ?_) ?_
        · refine quiet_bind (fun back => ?_) ?_
          · refine quiet_bind (fun _ => quiet_readyFrames outer) ?_
            exact ⟨fun o => by obtain ⟨c, d, dt, sl⟩ := o; exact ⟨rfl, fun h => by cases dt <;> exact h⟩, trivial⟩
          · unfold keptBack
            split
            · split
              · trivial
              · refine quiet_bind (fun z => ?_) ?_
                · trivial
                · unfold underTheClaimsCaller
                  refine quiet_bind (fun z => ?_) (fun z => ?_) <;> trivial
            · trivial
        · unfold behindIsImport
          split
          · trivial
          · split
            · trivial
            · refine quiet_bind (fun z => ?_) quiet_field
              trivial
    · trivial
theorem quiet_frameOf {env : Env} : Quiet (PySem.frameOf env) := by
  unfold PySem.frameOf
  refine quiet_bind (fun l => ?_) ?_
  · refine quiet_bind (fun r => ?_) ?_
    · split <;> trivial
    · unfold frameObject
      split
      · trivial
      · refine quiet_bind (fun z => ?_) (quiet_readyFrames _)
        trivial
  · unfold frameEnvs
    refine quiet_bind (fun z => ?_) (fun z => ?_) <;> trivial
theorem quiet_noteFrame {e : Value} {env : Env} : Quiet (noteFrame e env) := by
  unfold noteFrame
  split
  · refine quiet_bind (fun head => ?_) quiet_field
    have rest : Quiet (do setField e 1 (← EntryCells.newEntry head (← PySem.frameOf env) .none (rawInt ‹Addr›) .none (← entryPlaceOf ‹Addr› (head != .none))) : Sem Unit) := by
      refine quiet_bind (fun fr => ?_) quiet_frameOf
      refine quiet_bind (fun pl => ?_) quiet_entryPlaceOf
      refine quiet_bind (fun _ => quiet_setField) ?_
      unfold EntryCells.newEntry newFields
      exact quiet_newObj
    dsimp only
    split
    · refine quiet_bind (fun fl => ?_) quiet_field
      split
      · trivial
      · exact quiet_bind (fun _ => rest) quiet_setField
    · exact rest
  · trivial
theorem quiet_leaving {e : Value} {env : Env} : Quiet (leaving env e) := by
  unfold leaving
  exact quiet_bind (fun _ => quiet_setFlight) quiet_noteFrame
end
section
open PySem PySem.W PyProof.Rows PySem.Calls
section
open Builtin.ObjectAttr
variable {prog : Program} {w : World} {A : Around} {E : Value → Shared → Prop} {s : Shared} {K : Frag} {e C C2 L : Addr} {h₀ : Heap} {m : Str → Option Value} {post : List (Addr × Obj)} {fs : Array Value} {sl : Array (Option Value)} {name : Str} {v : Value} {cd : ClassData}

theorem exc_sub {M : Model} {h : Heap} {ox : Obj} {od : Option Obj} {X : String} (X₀ : K.In h) (I : InstAt h e ox C od) (hc : clsIn K C = some cd) (hm : cd.mro = [.ref C, .ref C2, .type "Exception", .type "BaseException", .type "object"])
    (hX : (X == "BaseException" || X == "object") = true) : Looks M h (isInstance (.ref e) (.type X)) true := by
  refine I.type.andThen (looks_mroIn X₀ ?_)
  unfold mroIn
  rw [hc, Option.bind_some, hm]
  rcases Bool.or_eq_true_iff.mp hX with q | q <;> (rw [beq_iff_eq.mp q]; simp)

/-- the first field stored into an own exception: its dict is made -/
theorem set_exc {Q : Unit → Shared → Prop} (F : Fr h₀ L s.heap m) (X₀ : K.In h₀) (N : News h₀ L s.heap ((e, ⟨.ref C, none, .fields fs, sl⟩) :: post))
    (hs : findIn K (.ref C) "__setattr__" = some (some (.builtin "object.__setattr__"))) (hc : clsIn K C = some cd) (ht : takerIn K C name = some none)
    (hm : cd.mro = [.ref C, .ref C2, .type "Exception", .type "BaseException", .type "object"]) (hd : cd.hasDict = true)
    (hne : ∀ p ∈ post, p.1 ≠ e)
    (h : ∀ dx h', Fr h₀ L h' m → News h₀ L h' ((e, ⟨.ref C, some dx, .fields fs, sl⟩) :: (dx, dictOf [⟨PyData.keyHash w.params name, .str name (s.toks + 1), v⟩] 1) :: post) → (∀ p ∈ post, p.1 < dx) → dx ≠ e → Q () { s with heap := h', toks := s.toks + 2 }) :
    wpAny (model prog w) A (setAttr (.ref e) name v) Q E s := by
  have X := X₀.keeps F.keep
  have hx := (N _ (.head _)).1
  have I : InstAt s.heap e ⟨.ref C, none, .fields fs, sl⟩ C none := ⟨hx, rfl, rfl, trivial⟩
  have SF := PySem.F.store_object
  refine set_plain X I hs ?_
  have sub : Looks (model prog w) s.heap (isInstance (.ref e) (.type "object")) true := exc_sub X I hc hm (by decide)
  refine codeAny_call_builtin SF.slot.plain SF.entry (@check_slot (model prog w) _ _ { s with toks := s.toks + 1 } "object.__setattr__" "object" "__setattr__" (.ref e) [.str name s.toks, v] [] _ SF.kind SF.split sub (SF.args (.ref e) (.str name s.toks) v) ?_)
  obtain ⟨attr, ha, hr⟩ := Option.bind_eq_some_iff.mp ht
  have hmr : Looks (model prog w) s.heap (mroOf (.ref C)) cd.mro := (looks_clsIn X hc).andThen .now
  have L3 : Looks (model prog w) s.heap (storeTaker? attr) none := by
    cases attr with
    | none => exact .now
    | some a =>
      obtain ⟨b, hb, hbe⟩ := Option.map_eq_some_iff.mp hr
      refine (looks_takesIn X hb).andThen ?_
      cases b with
      | false => exact .now
      | true => cases hbe
  rw [osa_eq, refuse_eq]
  refine wpAny_bind (wpAny_bind (I.type.at (wpAny_bind (hmr.at ?_))))
  rw [hm, refuseLoop_ref, refuseLoop_ref, PySem.F.store_Exception.passes]
  refine wpAny_pure (wpAny_bind (I.type.at (wpAny_bind ((looks_findIn X ha).at (wpAny_bind (L3.at ?_))))))
  -- the store itself
  have F1 := F.push (h := s.heap) emptyDict
  have N1 := News.push F N emptyDict
  have hlt : ∀ p ∈ (e, (⟨.ref C, none, .fields fs, sl⟩ : Obj)) :: post, p.1 < s.heap.objs.size := fun p hp => Heap.lt_size (N p hp).1
  have hes : e ≠ s.heap.objs.size := Nat.ne_of_lt (hlt _ (.head _))
  have U1 := news_upd (pre := [(s.heap.objs.size, emptyDict)]) (f := fun o => { o with dict := some s.heap.objs.size }) F1 N1 (fun p hp => by rw [List.mem_singleton.mp hp]; exact hes.symm) hne rfl rfl
  obtain ⟨F2, N2⟩ := U1
  have U2 := news_upd (pre := []) (f := Obj.putName name (PyData.keyHash w.params name) (.str name (s.toks + 1)) v) (o' := dictOf [⟨PyData.keyHash w.params name, .str name (s.toks + 1), v⟩] 1) F2 N2 (fun p hp => nomatch hp)
    (fun p hp => Nat.ne_of_lt (by rcases List.mem_cons.mp hp with rfl | hp; exact hlt (e, ⟨.ref C, none, .fields fs, sl⟩) (.head _); exact hlt _ (.tail _ hp)))
    (by rw [show emptyDict = dictOf [] 0 from rfl, putName_dict]; rfl) rfl
  obtain ⟨F3, N3⟩ := U2
  have fin := h s.heap.objs.size _ F3 (fun p hp => N3 p (by
    rcases List.mem_cons.mp hp with rfl | hp
    · exact .tail _ (.head _)
    · rcases List.mem_cons.mp hp with rfl | hp
      · exact .head _
      · exact .tail _ (.tail _ hp))) (fun p hp => hlt p (.tail _ hp)) hes.symm
  have D2 := (N2 _ (.head _)).1
  have D3 := (N3 _ (.head _)).1
  unfold storeInOwnDict
  refine wpAny_bind (wpAny_pure (wpAny_bind (wpAny_bind (wpAny_loadPart hx (wpAny_bind ((looks_clsIn X hc).at ?_))))))
  rw [hd]
  show wpAny _ _ (alloc _ >>= _) _ _ _
  refine wpAny_bind (wpAny_alloc (wpAny_bind (wpAny_update ((N1 _ (.tail _ (.head _))).1) ?_)))
  refine wpAny_pure (a := some s.heap.objs.size) ?_
  refine wpAny_bind (wpAny_pure (wpAny_bind ?_))
  unfold nsSet
  refine wpAny_bind (wpAny_bind (wpAny_askSetting (wpAny_pure (wpAny_bind (wpAny_mkText (wpAny_bind (wpAny_loadPart D2 ?_)))))))
  dsimp only [emptyDict]
  rw [aRefKeyMayBeTheName_at, if_neg (by simp)]
  refine wpAny_updatePart D2 ?_
  refine wpAny_bind (wpAny_lookBehind D3 (pastItsLine_dict (by rw [List.size_toArray, sizeLine_eq]; show 1 ≤ 16777216 + 1; decide)) ?_)
  exact wpAny_pure fin

/-- a field of an own exception, read -/
theorem get_exc {expr : Bool} {ox : Obj} {od : Option Obj} {Q : Value → Shared → Prop} (X : K.In s.heap) (I : InstAt s.heap e ox C od)
    (hga : findIn K (.ref C) "__getattribute__" = some (some (.builtin "BaseException.__getattribute__"))) (hg : findIn K (.ref C) "__getattr__" = some none) (hc : clsIn K C = some cd)
    (hm : cd.mro = [.ref C, .ref C2, .type "Exception", .type "BaseException", .type "object"])
    (hf : findObj K C od name = some (.value v)) (hh : handedIn v = true) (h : Q v { s with toks := s.toks + 1 }) : wpAny (model prog w) A (getAttr (.ref e) name expr) Q E s := by
  have L0 := I.type (M := model prog w)
  have L1 := looks_findIn (M := model prog w) X hga
  have L2 := looks_findIn (M := model prog w) X hg
  have L3 := looks_find (M := model prog w) X I hf
  have hx0 : (expr && onTheHeap (Value.builtin "BaseException.__getattribute__")) = false := by cases expr <;> rfl
  have hx2 : (Value.builtin "BaseException.__getattribute__" == Value.builtin "object.__getattribute__") = false := by decide +kernel
  have hx1 : (onTheHeap (Value.ref C) && Value.builtin "BaseException.__getattribute__" == Value.builtin "object.__getattribute__") = false := by rw [hx2]; rfl
  have hk : builtinKind "BaseException.__getattribute__" = some .slot := by decide +kernel
  have hsplit : splitId "BaseException.__getattribute__" = some ("BaseException", "__getattribute__") := by decide +kernel
  obtain ⟨hp, g, d, t, os⟩ := s
  unfold getAttr getAttrBy
  refine wpAny_bind (wpAny_mkText (wpAny_holding (wpAny_bind (L0.at (wpAny_bind (L1.at ?_))))))
  dsimp only
  rw [hx1]
  simp only [Bool.false_eq_true, if_false]
  unfold getAttrByItsOwn hookBefore
  refine wpAny_bind ?_
  rw [if_pos (show onTheHeap (Value.ref C) = true from rfl)]
  refine L2.at ?_
  refine wpAny_bind (wpAny_attempt (wpAny_holding ?_))
  unfold callGetattribute
  rw [hx0]
  simp only [Bool.false_eq_true, if_false]
  unfold boundAndCalled
  refine wpAny_bind ?_
  rw [PySem.F.attr_Exception.ga.bind]
  refine wpAny_pure (wpAny_call ?_)
  refine codeAny_call_builtin PySem.F.attr_Exception.ga.plain PySem.F.entry_bexc_ga (@check_slot (model prog w) _ _ ⟨hp, g, d, t + 1, os⟩ "BaseException.__getattribute__" "BaseException" "__getattribute__" (.ref e) [.str name t] [] _ hk hsplit (exc_sub X I hc hm (by decide)) (PySem.F.args_bexc_ga (.ref e) (.str name t)) ?_)
  unfold Builtin.«object.__getattribute__»
  refine wpAny_bind (wpAny_pure (wpAny_bind (wpAny_pure (wpAny_bind (L0.at (wpAny_bind (L3.at ?_)))))))
  refine wpAny_pure ?_
  show wpAny _ _ (handedOut v) _ _ _
  rw [handedOut_of hh]; exact wpAny_pure h
end
section
variable {prog : Program} {w : World} {A : Around} {E : Value → Shared → Prop} {K : Frag} {C fI : Addr} {rest : List Value}
variable {nm q : Str} {N : Addr} {bs bm : List Value} {hdct : Bool} {sn : List Str} {sub : List Value} {ab : Bool} {col : Option Bool} {dd : Option Addr} {k0 k1 k2 k3 k5 : Option Value}

theorem type_call_exc {h : Heap} {g : Array GenState} {d : Drawn} {t : Nat} {os : OsState} {Q : Fin → Shared → Prop} (X : K.In h)
    (hC : h.get? C = some (excClassObj nm q C N bs bm hdct sn sub ab col dd k0 k1 k2 k3 k5 "Exception.__new__")) (T : OwnTail h [.type "Exception", .type "BaseException", .type "object"] bm)
    (hi : findIn K (.ref C) "__init__" = some (some (.ref fI))) (hf : isFn K (.ref fI) = true)
    (hq : ∀ h' e, Heap.MadeExcOf h h' e (.ref C) rest →
      wpAny (model prog w) A (call (.ref fI) (.ref e :: rest)) (fun r s' => r = .none ∧ Q (.done (.ret (.ref e))) s') E ⟨h', g, d, t, os⟩) (hrest : rest.length ≤ sizeLine) :
    wpAny (model prog w) A (Builtin.«type.__call__» ⟨.ref C :: rest, []⟩) Q E ⟨h, g, d, t, os⟩ := by
  have FE := PySem.F.excBase_Exception
  have hB : ([.type "Exception", .type "BaseException", .type "object"] : List Value).contains (.type "Exception") = true := by decide +kernel
  repeat (first | with_reducible refine wpAny_loadPart_at hC ?_ | with_reducible refine wpAny_madeBy_exc hC ?_ | wp_step)
  refine codeAny_call_builtin_code (Code.quiet_builtin _ FE.quiet) (wpAny_check_new_subU FE hB T hC ?_)
  refine codeAny_exc_new_subU FE hB FE T hC ?_ hrest
  show wpAny _ _ _ _ _ _
  have hk : ∀ b o, h.get? b = some o → ((h.push { cls := .type "tuple", data := .seq rest.toArray }).push { cls := .ref C, data := .fields #[.ref h.objs.size, .none, .none, .none, .bool false, .none] }).get? b = some o :=
    fun b o e => Heap.get?_push_of_some _ (Heap.get?_push_of_some _ e)
  have hC₁ := hk _ _ hC
  have X₁ := X.keeps hk
  have hget : ((h.push { cls := .type "tuple", data := .seq rest.toArray }).push
      { cls := .ref C, data := .fields #[.ref h.objs.size, .none, .none, .none, .bool false, .none] }).get? (h.objs.size + 1) = some
      { cls := .ref C, data := .fields #[.ref h.objs.size, .none, .none, .none, .bool false, .none] } := by heap_get
  have hcC : (Value.ref C :: bm).contains (.ref C) = true := by simp
  unfold isInstance
  repeat (first | with_reducible refine wpAny_loadPart_at hget ?_ | (with_reducible refine wpAny_isSubtype_exc hC₁ ?_; rw [hcC]) | wp_step)
  show wpAny _ _ (typeLookup (.ref C) _) _ _ _
  refine (looks_findIn X₁ hi).at ?_
  refine wpAny_holding (wpAny_bind ((bind_fn X₁ _ (beq_iff_eq.mp hf)).at ?_))
  refine wpAny_bind (wpAny_mono (hq _ (h.objs.size + 1) ⟨hk, Heap.get?_none_of_le (Nat.le_succ _), h.objs.size, hget, Heap.get?_none_of_le (Nat.le_refl _), ?_⟩) (fun r s' hr => ?_) fun _ _ x => x)
  · exact Heap.get?_push_of_some _ (Heap.get?_push_at rfl rfl)
  · obtain ⟨rfl, hQ⟩ := hr
    wp_walk
    exact hQ

theorem call_exc {h : Heap} {g : Array GenState} {d : Drawn} {t : Nat} {os : OsState} {Q : Value → Shared → Prop} (X : K.In h)
    (hC : h.get? C = some (excClassObj nm q C N bs bm hdct sn sub ab col dd k0 k1 k2 k3 k5 "Exception.__new__")) (T : OwnTail h [.type "Exception", .type "BaseException", .type "object"] bm)
    (hi : findIn K (.ref C) "__init__" = some (some (.ref fI))) (hf : isFn K (.ref fI) = true)
    (hq : ∀ h' e, Heap.MadeExcOf h h' e (.ref C) rest →
      wpAny (model prog w) (A.under (.builtin "type.__call__" ⟨.ref C :: rest, []⟩)) (call (.ref fI) (.ref e :: rest)) (fun r s' => r = .none ∧ Q (.ref e) s') E ⟨h', g, d, t, os⟩) (hrest : rest.length ≤ sizeLine) :
    wpAny (model prog w) A (call (.ref C) rest) Q E ⟨h, g, d, t, os⟩ := by
  have f1 := tc_lookup
  have f2 := tc_bind (.ref C)
  have hT : (⟨h, g, d, t, os⟩ : Shared).TypeIs (.ref C) "type" := ⟨_, hC, rfl⟩
  refine wpAny_call (codeAny_of_tree ?_)
  show wpAny _ _ (callAny (.ref C) _) _ _ _
  repeat (any_goals (first | assumption | with_reducible refine wpAny_loadPart_at hC ?_ | wp_step))
  refine ⟨rfl, ?_⟩
  exact codeAny_call_builtin_at (Code.quiet_builtin _ (by decide +kernel)) entry_typeCall (wpAny_check_type_call_sub hC (type_call_exc X hC T hi hf (fun h' e hm => hq h' e hm) hrest))

abbrev excO (C t : Addr) : Obj := { cls := .ref C, data := .fields #[.ref t, .none, .none, .none, .bool false, .none] }
theorem call_excK {s : Shared} {h₀ : Heap} {L : Addr} {m : Str → Option Value} {news : List (Addr × Obj)} {Q : Value → Shared → Prop} (F : Fr h₀ L s.heap m) (X₀ : K.In h₀) (Nw : News h₀ L s.heap news)
    (hC₀ : K.lookup C = some (excClassObj nm q C N bs bm hdct sn sub ab col dd k0 k1 k2 k3 k5 "Exception.__new__")) (hT : tailIn K [.type "Exception", .type "BaseException", .type "object"] bm = true)
    (hi : findIn K (.ref C) "__init__" = some (some (.ref fI))) (hf : isFn K (.ref fI) = true)
    (hq : ∀ e tt h', Fr h₀ L h' m → News h₀ L h' ((e, excO C tt) :: (tt, { cls := .type "tuple", data := .seq rest.toArray }) :: news) → (∀ p ∈ (tt, ({ cls := .type "tuple", data := .seq rest.toArray } : Obj)) :: news, p.1 ≠ e) → (∀ p ∈ news, p.1 ≠ tt) →
      codeAny (model prog w) (A.under (.builtin "type.__call__" ⟨.ref C :: rest, []⟩)) (.call (.ref fI) ⟨.ref e :: rest, []⟩) (InitBack e fun r s' => match r with | .ok (.ret v) => Q v s' | .ok _ => False | .error e => E e s') { s with heap := h' }) (hrest : rest.length ≤ sizeLine) :
    wpAny (model prog w) A (call (.ref C) rest) Q E s := by
  have X := X₀.keeps F.keep
  obtain ⟨h, g, d, t, os⟩ := s
  refine call_exc X (X _ _ hC₀) (tail_of_in X hT) hi hf (fun h' e hm => ?_) hrest
  obtain ⟨tt, he, htn, ht⟩ := hm.there
  obtain ⟨oL, es, ep, hL, hr⟩ := F.ns
  have F' : Fr h₀ L h' m := ⟨⟨oL, es, ep, hm.keeps _ _ hL, hr⟩, fun b o x => hm.keeps _ _ (F.keep b o x), F.above⟩
  have fresh : ∀ b, h.get? b = none → h₀.get? b = none := fun b hb => by
    cases z : h₀.get? b with
    | none => rfl
    | some o' => have := F.keep b o' z; rw [hb] at this; cases this
  have neL : ∀ b, h.get? b = none → b ≠ L := fun b hb z => by rw [z] at hb; dsimp only at hL; rw [hL] at hb; cases hb
  have N' : News h₀ L h' ((e, excO C tt) :: (tt, { cls := .type "tuple", data := .seq rest.toArray }) :: news) := fun p hp => by
    rcases List.mem_cons.mp hp with rfl | hp
    · exact ⟨he, neL _ hm.new, fresh _ hm.new⟩
    · rcases List.mem_cons.mp hp with rfl | hp
      · exact ⟨ht, neL _ htn, fresh _ htn⟩
      · exact ⟨hm.keeps _ _ (Nw p hp).1, (Nw p hp).2⟩
  have net : tt ≠ e := fun z => by rw [z, he] at ht; cases ht
  refine wpAny_call (codeAny_mono (hq e tt h' F' N' (fun p hp z => ?_) (fun p hp z => ?_)) fun r s' z => ?_)
  · rcases List.mem_cons.mp hp with rfl | hp
    · exact net z
    · have := (Nw p hp).1; rw [z] at this; dsimp only at this; rw [hm.new] at this; cases this
  · have := (Nw p hp).1; rw [z] at this; dsimp only at this; rw [htn] at this; cases this
  · rcases r with e' | (v | _ | _ | _) <;> first | exact z | exact z.elim
end
end
section
open PySem PySem.W PyProof.Rows PySem.Calls
abbrev excD (C t dx : Addr) : Obj := { cls := .ref C, dict := some dx, data := .fields #[.ref t, .none, .none, .none, .bool false, .none] }
section
variable {prog : Program} {w : World} {A : Around} {E : Value → Shared → Prop} {s : Shared} {env : Env} {K : Frag} {C : Addr} {h₀ : Heap} {L : Addr} {m : Str → Option Value}
variable {nm q : Str} {N : Addr} {bs bm : List Value} {hdct : Bool} {sn : List Str} {sub : List Value} {ab : Bool} {col : Option Bool} {dd : Option Addr} {k0 k1 k2 k3 k5 : Option Value} {newId : String}

def RaisePost (C : Addr) (K : Frag) (E : Value → Shared → Prop) (v : Value) (s₁ : Shared) : Prop :=
  ∃ e t dx, v = .ref e ∧ K.In s₁.heap ∧ s₁.heap.get? e = some (excD C t dx) ∧ E (.ref e) s₁
theorem raisePost_ {s₁ : Shared} {e t dx : Addr} {news : List (Addr × Obj)} (F : Fr h₀ L s₁.heap m) (X : K.In h₀) (Nw : News h₀ L s₁.heap ((e, excD C t dx) :: news)) (h : E (.ref e) s₁) : RaisePost C K E (.ref e) s₁ :=
  ⟨e, t, dx, rfl, X.keeps F.keep, (Nw _ (.head _)).1, h⟩
theorem raise_exc {x : PySem.Expr} {pos : Pos} {Q : Flow → Shared → Prop} (_X : K.In h₀) (hh : A.handled = none) (hC₀ : K.lookup C = some (excClassObj nm q C N bs bm hdct sn sub ab col dd k0 k1 k2 k3 k5 newId))
    (hbase : bm.contains (.type "BaseException") = true)
    (h : wpAny (model prog w) A (eval x env) (RaisePost C K E) E s) :
    wpAny (model prog w) A (exec (.Raise (some x) none pos) env) Q E s := by
  show wpAny (model prog w) A (do standAt pos; raiseStmt env (some (do let v ← eval x env; standAt pos; pure v)) none) Q E s
  have hcB : (Value.ref C :: bm).contains (.type "BaseException") = true := by rw [List.contains_cons, hbase, Bool.or_true]
  refine wpAny_bind (wpAny_standAt ?_)
  unfold raiseStmt
  refine wpAny_bind (wpAny_bind (wpAny_mono h (fun v s₁ h₁ => wpAny_bind (wpAny_standAt (wpAny_pure ?_))) fun _ _ x => x))
  obtain ⟨e, t, dx, rfl, X, he, hE⟩ := h₁
  have hC := X _ _ hC₀
  obtain ⟨hp, g, d, tk, os⟩ := s₁
  repeat (first | with_reducible refine wpAny_loadPart_at he ?_ | with_reducible refine wpAny_loadPart_at hC ?_ | (with_reducible refine wpAny_isSubtype_exc hC ?_; rw [hcB]) | wp_step)
  exact wpAny_raiseNew_none hh hE
end

/-- an own exception that flies, its dict known -/
def RaisedD (base G : Heap) (l : List Env) (e : Addr) (cls : Value) (dx : Addr) (news : List (Addr × Obj)) (h : Heap) : Prop :=
  RaisedSN base G l e cls news h ∧ ∃ o, h.get? e = some o ∧ o.dict = some dx
theorem RaisedD.keep {base G : Heap} {l l' : List Env} {base' G' : Heap} {e : Addr} {cls : Value} {dx : Addr} {news news' : List (Addr × Obj)} {h h' : Heap} (R : RaisedD base G l e cls dx news h) (R' : RaisedSN base' G' l' e cls news' h') (k : DK h h') : RaisedD base' G' l' e cls dx news' h' := by
  obtain ⟨_, o, ho, hd⟩ := R
  obtain ⟨o', ho', hd'⟩ := k _ _ ho
  exact ⟨R', o', ho', hd'.trans hd⟩
section
variable {M : Model} {A : Around} {E : Value → Shared → Prop} {s' : Shared} {base g g₂ : Heap} {outer : List Env} {L a e dx : Addr} {m : Str → Option Value} {name : Str} {scope : Scope} {cd : Value} {Q : Unit → Shared → Prop} {news : List (Addr × Obj)}
theorem leave_firstD {C t : Addr} (K : Below A base outer g) (F : Fr g L s'.heap m) (N : News g L s'.heap ((e, excD C t dx) :: news)) (hne : ∀ p ∈ news, p.1 ≠ e)
    (hQ : ∀ h', RaisedD base g outer e (.ref C) dx news h' → g.UpToSlots h' → Q () { s' with heap := h' }) (hk : scope.kind = .function := by rfl) :
    wpAny M (A.deeper (envOf name scope L a cd)) (leaving (envOf name scope L a cd) (.ref e)) Q E s' := by
  have K' := K.push (name := name) (a := a) (cd := cd) F hk
  have Ne := N _ (.head _)
  have hin : ∀ env ∈ (envOf name scope L a cd :: outer), ∀ b, env.frame = some b → b ∈ e :: (envOf name scope L a cd :: outer).filterMap (·.frame) := fun env he b hb => .tail _ (List.mem_filterMap.mpr ⟨env, he, hb⟩)
  have apart : ∀ b o, g.get? b = some o → b ≠ e := fun b o q z => by rw [z, Ne.2.2] at q; cases q
  have st : base.StaysIn (hideAll s'.heap (e :: (envOf name scope L a cd :: outer).filterMap (·.frame))) := fun b o q => hideAll_get _ (K'.stays b o q) fun hm => by
    rcases List.mem_cons.mp hm with z | hm
    · exact apart b o (K.stays b o q) z
    · rw [(K'.frames.mem hm).1] at q; cases q
  have sg : ∀ b o, g.get? b = some o → b ∉ outer.filterMap (·.frame) → (hideAll s'.heap (e :: (envOf name scope L a cd :: outer).filterMap (·.frame))).get? b = some o := fun b o q nm => hideAll_get _ (F.keep b o q) fun hm => by
    rcases List.mem_cons.mp hm with z | hm
    · exact apart b o q z
    rcases kts_mem hm with z | z
    · rw [z, kts_self F] at q
      cases q
    · exact nm z
  have hl : ∀ q ∈ news, (hideAll s'.heap (e :: (envOf name scope L a cd :: outer).filterMap (·.frame))).get? q.1 = some q.2 ∧ g.get? q.1 = none ∧ base.get? q.1 = none := fun q hq => by
    have Nq := N q (.tail _ hq)
    refine ⟨hideAll_get _ Nq.1 fun hm => ?_, Nq.2.2, fresh_of_stays K.stays Nq.2.2⟩
    rcases List.mem_cons.mp hm with z | hm
    · exact hne q hq z
    obtain ⟨env, he, hf⟩ := List.mem_filterMap.mp hm
    rcases List.mem_cons.mp he with rfl | he
    · exact Nq.2.1 (Option.some.inj hf).symm
    · obtain ⟨o, ho, _⟩ := (K.frames.mem (List.mem_filterMap.mpr ⟨env, he, hf⟩)).2
      rw [Nq.2.2] at ho; cases ho
  have hen : (hideAll s'.heap (e :: (envOf name scope L a cd :: outer).filterMap (·.frame))).get? e = none := hideAll_none _ (.head _)
  have base0 := wpAny_leaving_firstW (M := M) (E := E) (s := s') (a0 := .ref t) (Q := fun _ s₁ => ∃ h', s₁ = { s' with heap := h' } ∧ RaisedSN base g outer e (.ref C) news h' ∧ g.UpToSlots h') K'.stack (funFrames_hide K'.frames hin) rfl Ne.1 (fun b o hb => of_hideAll _ hb) hen rfl rfl rfl fun h' hL => by
    obtain ⟨k1, ⟨_, _, k2⟩, k3, k4⟩ := hL
    exact ⟨h', rfl, ⟨_, .ref t, st, sg, hl, k1, hen, k2, k3⟩, (Heap.UpToSlots.of_keeps F.keep).trans k4⟩
  refine wpAny_mono (quiet_any quiet_leaving base0) (fun u s₁ h₁ => ?_) fun _ _ h₁ => h₁.1
  obtain ⟨⟨h', rfl, R, U⟩, k⟩ := h₁
  obtain ⟨o', ho', hd'⟩ := k _ _ Ne.1
  exact hQ h' ⟨R, o', ho', hd'⟩ U
theorem leave_onD {C : Addr} (K : Below A base outer g) (F : Fr g L g₂ m) (R : RaisedD base g₂ (envOf name scope L a cd :: outer) e (.ref C) dx news s'.heap) (hsm : g₂.UpToSlots s'.heap)
    (hQ : ∀ h', RaisedD base g outer e (.ref C) dx news h' → g.UpToSlots h' → Q () { s' with heap := h' }) :
    wpAny M (A.deeper (envOf name scope L a cd)) (leaving (envOf name scope L a cd) (.ref e)) Q E s' := by
  have base0 := leave_onSN (M := M) (E := E) (a := a) (Q := fun _ s₁ => ∃ h', s₁ = { s' with heap := h' } ∧ RaisedSN base g outer e (.ref C) news h' ∧ g.UpToSlots h') K F R.1 hsm fun h' R' _ U' => ⟨h', rfl, R', U'⟩
  refine wpAny_mono (quiet_any quiet_leaving base0) (fun u s₁ h₁ => ?_) fun _ _ h₁ => h₁.1
  obtain ⟨⟨h', rfl, R', U'⟩, k⟩ := h₁
  exact hQ h' (R.keep R' k) U'
end
section
variable {prog : Program} {w : World} {A₀ : Around} {E : Value → Shared → Prop} {s' : Shared} {base g g₀ G : Heap} {outer : List Env} {L a e dx C : Addr} {m : Str → Option Value} {name : Str} {scope : Scope} {cd : Value}
  {n : Str} {b₀ : Stmt} {suite : List Stmt} {pos np : Pos} {rest : List ExceptHandler} {Q : Flow → Shared → Prop} {news : List (Addr × Obj)} {KF : Frag}
  {p : Program} {loose : List Str} {mean : ExcName → Option Value} {mg mb : Str → Option Value} {x : Str}
theorem caught_D (R : RaisedD base G (envOf name scope L a cd :: outer) e (.ref C) dx news s'.heap) (F : Fr g L G m) (K : Below A₀ base outer g) (hsm : G.UpToSlots s'.heap) (XB : KF.In base) (TB : Top p loose mean mg mb base)
    (D : KtsDicts (outer.filterMap (·.frame)) g) (T0 : KtsTurn (outer.filterMap (·.frame)) g₀ g)
    (ex : nsIn KF mainGlobals x = some (some (.ref C))) (q : ktsIn KF C "BaseException" = true)
    (k : ∀ h' g' oe ws tk, KtsTurn (outer.filterMap (·.frame)) g₀ g' → Fr g' L h' (fun y => if y = n then some (.ref e) else m y) → News g' L h' ((e, oe) :: news) → oe.cls = .ref C → oe.dict = some dx → oe.data = .fields ws → Below A₀ base outer g' → KF.In g' → Top p loose mean mg mb g' → KtsDicts (outer.filterMap (·.frame)) g' →
      wpAny (model prog w) ((A₀.deeper (envOf name scope L a cd)).mark (some (.ref e))) (execs (b₀ :: suite) (envOf name scope L a cd))
        (fun f s₄ => wpAny (model prog w) (A₀.deeper (envOf name scope L a cd)) (do bindName (envOf name scope L a cd) n .none; unbindBehindTheSuite (envOf name scope L a cd) n pos) (fun _ s₅ => Q f s₅) E s₄)
        (AsSuiteRaised (model prog w) ((A₀.deeper (envOf name scope L a cd)).mark (some (.ref e))) (envOf name scope L a cd) n pos (notedBy (model prog w) ((A₀.deeper (envOf name scope L a cd)).mark (some (.ref e))) (envOf name scope L a cd) (cameBackBy (model prog w) (A₀.deeper (envOf name scope L a cd)) (envOf name scope L a cd) E)))
        { s' with heap := h', toks := tk })
    (hk : scope.kind = .function := by rfl) (hlo : (envOf name scope L a cd).kindOf n = some .local := by rfl) (hx : (envOf name scope L a cd).kindOf x = some .globalImplicit := by rfl) (hd : (x == ("__debug__" : Str)) = false := by decide) :
    wpAny (model prog w) (A₀.deeper (envOf name scope L a cd)) (noteFrame (.ref e) (envOf name scope L a cd))
      (fun _ s₂ => wpAny (model prog w) (A₀.deeper (envOf name scope L a cd)) (setFlight (.ref e) none) (fun _ s₃ =>
        wpAny (model prog w) (A₀.deeper (envOf name scope L a cd)) (handleBy (.ref e) (envOf name scope L a cd) (.ExceptHandler (some (.Name x np)) (some n) (b₀ :: suite) pos :: rest)) Q E s₃) E s₂) E s' := by
  obtain ⟨⟨B, a0, hB, hBG, hl, hfl⟩, od, hod, hdd⟩ := R
  have hL : B.get? L = none := by
    obtain ⟨_, ⟨L', _, hf, hn', _⟩, _⟩ := hfl.2.2.1
    obtain rfl : L = L' := Option.some.inj hf
    exact hn'
  -- the look, the landing
  have note0 := wpAny_looks_onW (M := model prog w) (E := E) (A := A₀.deeper (envOf name scope L a cd)) (s := s') (Q := fun _ s₁ => ∃ h', s₁ = { s' with heap := h' } ∧ Heap.HeldW B (envOf name scope L a cd :: outer) e (.ref C) a0 L h' ∧ s'.heap.UpToSlots h') (Around.frames_deeper K.stack) rfl hfl fun h₄ x1 x2 => ⟨h₄, rfl, x1, x2⟩
  refine wpAny_mono (quiet_any quiet_noteFrame note0) (fun u s₁ h₁ => ?_) fun _ _ h₁ => h₁.1
  obtain ⟨⟨h₄, rfl, hheld₄, hsm₄⟩, k₄⟩ := h₁
  have land0 := wpAny_landsW (M := model prog w) (E := E) (A := A₀.deeper (envOf name scope L a cd)) (s := { s' with heap := h₄ }) (Q := fun _ s₁ => ∃ h', s₁ = { s' with heap := h' } ∧ Heap.FlyingW B (envOf name scope L a cd :: outer) e (.ref C) a0 h' ∧ h₄.UpToSlots h') hheld₄ fun h₅ x1 x2 => ⟨h₅, rfl, x1, x2⟩
  refine wpAny_mono (quiet_any quiet_setFlight land0) (fun u s₁ h₁ => ?_) fun _ _ h₁ => h₁.1
  obtain ⟨⟨h₅, rfl, hheld, hsm₅'⟩, k₅⟩ := h₁
  have hsm₅ := hsm₄.trans hsm₅'
  obtain ⟨g₅, T₅, F₅, K₅⟩ := kts_ground K F hBG hheld.1 (hsm.trans hsm₅)
  have X₅ : KF.In g₅ := XB.keeps K₅.stays
  have P₅ : TopRead p loose mg mb g₅ := topRead_of (TB.keeps K₅.stays)
  obtain ⟨ob, hob, hobc⟩ := hheld.there
  obtain ⟨nm, q', N, bs, bm, hdct, sn, sub, ab, col, dd, k0, k1, k2, k3, k5, newId, hC, hbase, hbT⟩ := kts_cls X₅ q
  have hC₅ := F₅.keep _ _ hC
  refine wpAny_handleBy_cons (codeAny_handlers_test (name_K F₅ X₅ P₅ ex ?_ hk hx hd)) (by intro q; cases q)
  refine wpAny_excMatches_sub_self hC₅ hob hobc hbase (codeAny_handlers_suite_as ?_)
  have land1 := lands_againW (M := model prog w) (E := fun _ _ => False) (A := (A₀.deeper (envOf name scope L a cd)).mark (some (.ref e))) (s := { s' with heap := h₅ }) (Q := fun _ s₁ => ∃ h', s₁ = { s' with heap := h' } ∧ Heap.FlyingW B (envOf name scope L a cd :: outer) e (.ref C) a0 h' ∧ h₅.UpToSlots h') hheld fun h₆ x1 x2 => ⟨h₆, rfl, x1, x2⟩
  refine wpAny_mono (quiet_any quiet_setFlight land1) (fun u s₁ h₁ => ?_) fun _ _ h₁ => h₁.1.elim
  obtain ⟨⟨h₆, rfl, hfl₆, hsm₆⟩, k₆⟩ := h₁
  obtain ⟨g₆, T₆, F₆, K₆⟩ := kts_ground K F hBG hfl₆.1 ((hsm.trans hsm₅).trans hsm₆)
  obtain ⟨oe, ws, hoe, hoec, hoed, hoe0⟩ := hfl₆.first
  obtain ⟨oe', hoe', hoedd⟩ := ((k₄.trans k₅).trans k₆) _ _ hod
  obtain rfl : oe = oe' := Option.some.inj (hoe.symm.trans hoe')
  have ne₆ : g₆.get? e = none := T₆.none_ _ (kts_fresh F hBG hfl₆.2.1 fun o ho m => by
    obtain ⟨_, o', ho', hd⟩ := K.frames.mem m
    rw [ho] at ho'
    cases ho'
    obtain ⟨sl, hs⟩ := ((hsm.trans hsm₅).trans hsm₆) _ _ (F.keep _ _ ho) hd
    rw [hoe] at hs
    cases hs
    exact hd _ hoed)
  have Nl : News g₆ L h₆ news := fun q hq => ⟨hfl₆.1 _ _ (hl q hq).1, (fun z => by have := (hl q hq).1; rw [z, hL] at this; cases this), T₆.none_ _ (kts_none F.keep (hl q hq).2.1)⟩
  have N₆ := News.more F₆ Nl hoe (fun es n q => by rw [hoed] at q; cases q) ne₆
  have X₆ : KF.In g₆ := XB.keeps K₆.stays
  have P₆ : Top p loose mean mg mb g₆ := TB.keeps K₆.stays
  have D₆ : KtsDicts (outer.filterMap (·.frame)) g₆ := D.turn T₆
  refine stN F₆ N₆ (fun h₇ F₇ N₇ => ?_) hk hlo
  exact k h₇ g₆ oe ws _ (T0.trans T₆) F₇ N₇ hoec (hoedd.trans hdd) hoed K₆ X₆ P₆ D₆
end
end
section
open PySem PySem.W PyProof.Rows PySem.Calls
theorem drop3 {h₀ h : Heap} {L : Addr} {a b c : Addr × Obj} {news : List (Addr × Obj)} (N : News h₀ L h (a :: b :: c :: news)) : News h₀ L h (a :: b :: news) := fun p hp => N p (by
  rcases List.mem_cons.mp hp with rfl | hp
  · exact .head _
  · rcases List.mem_cons.mp hp with rfl | hp
    · exact .tail _ (.head _)
    · exact .tail _ (.tail _ (.tail _ hp)))
theorem ne_cons {e dx : Addr} {o : Obj} {news : List (Addr × Obj)} (h : dx ≠ e) (k : ∀ p ∈ news, p.1 ≠ e) : ∀ p ∈ (dx, o) :: news, p.1 ≠ e := fun p hp => by
  rcases List.mem_cons.mp hp with rfl | hp
  · exact h
  · exact k p hp
section
variable {w : World} {mg mb : Str → Option Value} {p : Program} {loose : List Str} {mean : ExcName → Option Value} {news : List (Addr × Obj)}
  {dp un : Nat} {gd : Option (List Code)} {cn : Str} {cs : Scope} {a : Addr} {ccd : Value} {cl : List (Str × Addr)} {outer : List Env} {A₀ : Around} {base h₀ : Heap} {L : Addr} {m : Str → Option Value} {s : Shared} {Q E : Value → Shared → Prop}
local macro_rules | `(tactic| k_room) => `(tactic| ktr_room)
local macro_rules | `(tactic| k_units) => `(tactic| ktr_units)
local macro_rules | `(tactic| walk_at "setAttr ref") => `(tactic| (k_here; k_dflt (refine' set_exc ?F ?X ?N ?hs ?hc ?ht ?hm ?hd ?hne ?_; (case F => k_asm); (case X => k_asm); (case N => k_asm); (case hs => k_is); (case hc => k_is); (case ht => k_is); (case hm => rfl); (case hd => rfl); (case hne => assumption); k_whole); intro dx9 h9 F9 N9 l9 e9; (try k_sweep)))
theorem c_refusal {x : Str} {t : Tok} (B : Below A₀ base outer h₀) (F : Fr h₀ L s.heap m) (X : (headT.heap_39 w.params).In h₀) (N : News h₀ L s.heap news) (T : Top p loose mean mg mb h₀) (hk : cs.kind = .function)
    (hdp : dp + 3 < recursionLimit) (hun : un + 24 < cLine)
    (hret : (∀ (e tt dx : Addr) (tk : Tok) (h' : Heap) (tk' : Nat), Fr h₀ L h' m → News h₀ L h' ((e, excD 44 tt dx) :: (dx, dictOf [⟨PyData.keyHash w.params (Str.ofString "message"), .str (Str.ofString "message") tk, .str x t⟩] 1) :: news) → (∀ p ∈ (dx, dictOf [⟨PyData.keyHash w.params (Str.ofString "message"), .str (Str.ofString "message") tk, .str x t⟩] 1) :: news, p.1 ≠ e) → (∀ p ∈ news, p.1 < dx) → Q (.ref e) { s with heap := h', toks := tk' })) :
    wpAny (model PySem.Challenge.rw_pq1398_01.row.prog w) (ktrTop dp un gd cn cs L a ccd cl outer) (call (.ref 44) [.str x t]) Q E s := by
  revert X
  k_fill
  intro X
  k_dflt (refine' call_excK F X N ?hC ?hT ?hi ?hf ?_ ?hr; (case hC => k_is); (case hT => kernel_rfl); (case hi => k_is); (case hf => k_is); (case hr => size_fits))
  intro e tt h' F' N' ne1 ne2
  k_dflt ktr_enter
  k_steps
  all_goals (refine' hret e tt ?dx ?tk _ _ ?f ?n ?a ?b; (case f => k_asm); (case n => exact drop3 (by assumption)); (case b => intro p hp; exact (by assumption : ∀ p ∈ (tt, _) :: news, p.1 < _) p (.tail _ hp)); (case a => exact ne_cons (by assumption) (fun p hp => ne1 p (.tail _ hp))))
end
end
section
open PySem PySem.W PyProof.Rows PySem.Calls
abbrev tupO (n d : Int) (t1 t2 : Tok) : Obj := { cls := .type "tuple", data := .seq #[.int n t1, .int d t2] }
theorem gcd_last {a b : Int} {g : Nat} (ha : 0 ≤ a) (hb : 0 ≤ b) (hg : Int.gcd a b = g) (h : ¬ 0 < b) : a = (g : Int) := by
  have e : b = 0 := by omega
  subst e
  rw [← hg, Int.gcd_zero_right]
  omega
theorem gcd_turn {a b : Int} {g : Nat} (ha : 0 ≤ a) (hb : 0 ≤ b) (hg : Int.gcd a b = g) (h : 0 < b) : 0 ≤ b ∧ 0 ≤ a.fmod b ∧ Int.gcd b (a.fmod b) = g := by
  have e : a.fmod b = a % b := Int.fmod_eq_emod_of_nonneg _ hb
  rw [e]
  have h1 := Int.emod_nonneg a (show b ≠ 0 by omega)
  refine ⟨hb, h1, ?_⟩
  rw [← hg]
  have e1 : (a % b).natAbs = a.natAbs % b.natAbs := by
    have := Int.natAbs_emod a (show b ≠ 0 by omega)
    rw [this, if_pos (Or.inl ha)]
  show Nat.gcd b.natAbs (a % b).natAbs = Nat.gcd a.natAbs b.natAbs
  rw [e1, Nat.gcd_comm, ← Nat.gcd_rec, Nat.gcd_comm]
theorem gcd_less {a b : Int} (hb : 0 ≤ b) (h : 0 < b) : (a.fmod b).toNat < b.toNat := by
  have e : a.fmod b = a % b := Int.fmod_eq_emod_of_nonneg _ hb
  rw [e]
  have h2 := Int.emod_lt_of_pos a h
  omega
theorem big_all : ∃ b : Int, b = ((2 ^ 8900 : Nat) : Int) := ⟨_, rfl⟩
/-- a bound that omega does not look into -/
noncomputable def big : Int := big_all.choose
theorem big_is : big = ((2 ^ 8900 : Nat) : Int) := big_all.choose_spec
theorem not_over {n M : Int} (hM : big ≤ M) (h : n < big) : ¬ M < n := by omega
theorem big_le {k : Nat} (h : 2 ^ 8900 ≤ k) : big ≤ (k : Int) := by
  rw [big_is]
  exact Int.ofNat_le.mpr h
section
variable {prog : Program} {w : World} {A : Around} {E : Value → Shared → Prop} {s : Shared} {a b : Int} {t u : Tok} {Q : Value → Shared → Prop}
theorem call_abs_nn (ha : 0 ≤ a) (h : ∀ u tk, Q (.int a u) { s with toks := tk }) : wpAny (model prog w) A (call (.builtin "abs") [.int a t]) Q E s :=
  call_abs_int fun u tk => by rw [if_neg (by omega)]; exact h u tk
theorem floordiv_one (h : Q (.int a s.toks) { s with toks := s.toks + 1 }) : wpAny (model prog w) A (binaryOp .FloorDiv (.int a t) (.int 1 u)) Q E s :=
  floordiv_int (by decide) (by rw [Int.fdiv_one]; exact h)
theorem mul_1l (h : Q (.int b s.toks) { s with toks := s.toks + 1 }) : wpAny (model prog w) A (binaryOp .Mult (.int 1 t) (.int b u)) Q E s :=
  mul_int (by rw [Int.one_mul]; exact h) (IntMulOk.of_left (by decide))
theorem mul_1r (h : Q (.int a s.toks) { s with toks := s.toks + 1 }) : wpAny (model prog w) A (binaryOp .Mult (.int a t) (.int 1 u)) Q E s :=
  mul_int (by rw [Int.mul_one]; exact h) (IntMulOk.of_right (by decide))
end
open PySem PySem.W PyProof.Rows PySem.Calls
local macro_rules | `(tactic| walk_at "binaryOp Mult int int") => `(tactic| (k_here; with_reducible first | refine mul_1l ?_ | refine mul_1r ?_))
local macro_rules | `(tactic| walk_at "call builtin:abs") => `(tactic| (k_here; (with_reducible refine' call_abs_nn ?ha ?_; (case ha => omega)); intro _ _))
local macro_rules | `(tactic| walk_at "binaryOp FloorDiv int int") => `(tactic| (k_here; with_reducible refine floordiv_one ?_))
local macro_rules | `(tactic| k_room) => `(tactic| (first | ((try simp only [depth_under_make, depth_under_kw, depth_in1, depth_deeper, depth_caller]); (try dsimp only [ktrTop]); omega) | ktr_room))
local macro_rules | `(tactic| k_units) => `(tactic| (first | ((try simp only [units_in1, units_deeper, Around.mark_units, units_caller]); (try dsimp only [ktrTop]); (have hcL9 := cLine_is); omega) | ktr_units))
local macro_rules | `(tactic| walk_at "MD") => `(tactic| first | assumption | omega | ((simp only [beq_iff_eq, bne_iff_ne, decide_eq_true_eq, Bool.and_eq_true, Bool.or_eq_true, Bool.not_eq_true', decide_eq_false_iff_not, ne_eq]); first | assumption | omega | exact not_over (big_le (by decide +kernel)) (by assumption)))
local macro_rules | `(tactic| walk_at "ite") => `(tactic| (k_here; k_openite; first | (refine ite_pos (by walk_at "MD") ?_; walk_say "MD") | (refine ite_neg (by walk_at "MD") ?_; walk_say "MD")))
local macro_rules | `(tactic| walk_at "TUP") => `(tactic| first | ((with_reducible show IsTup _ 49 _); (refine' tupK (K := headT.heap_39 _) (Frag.In.keeps ?X (Fr.keep ?F)) ?L; (case F => k_asm); (case X => k_asm); (case L => k_is))) | ((with_reducible show IsTup _ 50 _); (refine' tupK (K := headT.heap_39 _) (Frag.In.keeps ?X (Fr.keep ?F)) ?L; (case F => k_asm); (case X => k_asm); (case L => k_is))) | exact News.isTup (by k_asm) (by k_mem) | exact tupK (by k_in) (by k_is))
local macro_rules | `(tactic| walk_at "subscriptTail Name Constant ref int") => `(tactic| (k_here; (with_reducible show wpAny _ _ (subscriptTail _ _ (Value.ref _) (Value.int _ _)) _ _ _); k_dflt (refine' item_tupleT ?t ?a ?b ?c ?d ?_; (case t => walk_at "TUP"); (case a => decide); (case b => decide); (case c => rfl); (case d => rfl); k_whole)))
section
open PySem PySem.W PyProof.Rows PySem.Calls
section
variable {w : World} {mg mb : Str → Option Value} {p : Program} {loose : List Str} {mean : ExcName → Option Value} {news : List (Addr × Obj)}
  {dp un : Nat} {gd : Option (List Code)} {cn : Str} {cs : Scope} {a : Addr} {ccd : Value} {cl : List (Str × Addr)} {outer : List Env} {A₀ : Around} {base h₀ : Heap} {L : Addr} {m : Str → Option Value} {s : Shared} {Q E : Value → Shared → Prop}
theorem c_gcd {x y : Int} {t u : Tok} (B : Below A₀ base outer h₀) (F : Fr h₀ L s.heap m) (X : (headT.heap_39 w.params).In h₀) (N : News h₀ L s.heap news) (T : Top p loose mean mg mb h₀) (hk : cs.kind = .function)
    (hdp : dp + 1 < recursionLimit) (hun : un + 8 < cLine) (hx : 0 ≤ x) (hy : 0 ≤ y)
    (hret : (∀ (tk : Tok) (h' : Heap) (tk' : Nat), Fr h₀ L h' m → News h₀ L h' news → Q (.int (Int.gcd x y) tk) { s with heap := h', toks := tk' })) :
    wpAny (model PySem.Challenge.rw_pq1398_01.row.prog w) (ktrTop dp un gd cn cs L a ccd cl outer) (call (.ref 57) [.int x t, .int y u]) Q E s := by
  revert X
  k_fill
  intro X
  refine wpAny_call ?_
  k_dflt cell_enter
  k_with "exec While Compare cons nil" => k_while_given ["a!", "b!"] (fun a0 b0 _ a b => 0 ≤ a ∧ 0 ≤ b ∧ Int.gcd a b = Int.gcd a0 b0) (fun _ _ _ _ b => b.toNat) "a" "b"
  k_with "state" => exact gcd_turn (by assumption) (by assumption) (by assumption) (by assumption)
  k_with "measure" => exact gcd_less (by assumption) (by assumption)
  k_steps
  all_goals (refine cb_retI hret ?e1 ?e2 ?e3; (case e2 => k_asm); (case e3 => k_asm); exact gcd_last (by assumption) (by assumption) (by assumption) (by assumption))
local macro_rules | `(tactic| walk_at "call ref") => `(tactic| (k_here; (with_reducible show wpAny _ _ (call (Value.ref 57) _) _ _ _); k_dflt (refine' c_gcd ?k1 ?k2 ?k3 ?k4 ?k5 ?kK ?kd ?ku ?h1 ?h2 ?_; (case k1 => k_asm); (case k2 => k_asm); (case k3 => k_asm); (case k4 => k_asm); (case k5 => k_asm); (case kK => first | exact rfl | assumption); (case kd => k_room); (case ku => k_units); (case h1 => first | assumption | omega); (case h2 => first | assumption | omega); k_whole; intro t9 h9 tk9 F9 N9; (try dsimp only); (try k_fold))))
theorem c_gcd1 {x y : Int} {t u : Tok} (B : Below A₀ base outer h₀) (F : Fr h₀ L s.heap m) (X : (headT.heap_39 w.params).In h₀) (N : News h₀ L s.heap news) (T : Top p loose mean mg mb h₀) (hk : cs.kind = .function)
    (hdp : dp + 1 < recursionLimit) (hun : un + 8 < cLine) (hx : 0 ≤ x) (hy : 0 ≤ y) (hg : Int.gcd x y = 1)
    (hret : (∀ (tk : Tok) (h' : Heap) (tk' : Nat), Fr h₀ L h' m → News h₀ L h' news → Q (.int 1 tk) { s with heap := h', toks := tk' })) :
    wpAny (model PySem.Challenge.rw_pq1398_01.row.prog w) (ktrTop dp un gd cn cs L a ccd cl outer) (call (.ref 57) [.int x t, .int y u]) Q E s := c_gcd B F X N T hk hdp hun hx hy fun tk h' tk' F' N' => by rw [hg]; exact hret tk h' tk' F' N'
local macro_rules | `(tactic| walk_at "call ref") => `(tactic| (k_here; (with_reducible show wpAny _ _ (call (Value.ref 57) _) _ _ _); k_dflt (refine' c_gcd1 ?k1 ?k2 ?k3 ?k4 ?k5 ?kK ?kd ?ku ?h1 ?h2 ?h3 ?_; (case k1 => k_asm); (case k2 => k_asm); (case k3 => k_asm); (case k4 => k_asm); (case k5 => k_asm); (case kK => first | exact rfl | assumption); (case kd => k_room); (case ku => k_units); (case h1 => first | assumption | omega); (case h2 => first | assumption | omega); (case h3 => assumption); k_whole; intro t9 h9 tk9 F9 N9; (try dsimp only); (try k_fold))))
theorem c_make {n d : Int} {t u : Tok} (B : Below A₀ base outer h₀) (F : Fr h₀ L s.heap m) (X : (headT.heap_39 w.params).In h₀) (N : News h₀ L s.heap news) (T : Top p loose mean mg mb h₀) (hk : cs.kind = .function)
    (hdp : dp + 2 < recursionLimit) (hun : un + 16 < cLine) (hn : 0 < n) (hd : 0 < d) (hn2 : n < big) (hd2 : d < big) (hg : Int.gcd n d = 1)
    (hret : (∀ (q : Addr) (t1 t2 : Tok) (h' : Heap) (tk' : Nat), Fr h₀ L h' m → News h₀ L h' ((q, tupO n d t1 t2) :: news) → (∀ p ∈ news, p.1 < q) → Q (.ref q) { s with heap := h', toks := tk' })) :
    wpAny (model PySem.Challenge.rw_pq1398_01.row.prog w) (ktrTop dp un gd cn cs L a ccd cl outer) (call (.ref 71) [.int n t, .int d u]) Q E s := by
  revert X
  k_fill
  intro X
  refine wpAny_call ?_
  k_dflt cell_enter
  k_steps
  all_goals exact hret _ _ _ _ _ (by k_asm) (by k_asm) (by assumption)
local macro_rules | `(tactic| walk_at "call ref") => `(tactic| (k_here; (with_reducible show wpAny _ _ (call (Value.ref 71) _) _ _ _); k_dflt (refine' c_make ?k1 ?k2 ?k3 ?k4 ?k5 ?kK ?kd ?ku ?h1 ?h2 ?h3 ?h4 ?h5 ?_; (case k1 => k_asm); (case k2 => k_asm); (case k3 => k_asm); (case k4 => k_asm); (case k5 => k_asm); (case kK => first | exact rfl | assumption); (case kd => k_room); (case ku => k_units); (case h1 => first | assumption | omega); (case h2 => first | assumption | omega); (case h3 => assumption); (case h4 => assumption); (case h5 => assumption); k_whole; intro q9 ta9 tb9 h9 tk9 F9 N9 l9; (try k_lt l9); (try dsimp only); (try k_fold))))
theorem c_div {n d : Int} {y : Addr} {t u : Tok} (B : Below A₀ base outer h₀) (F : Fr h₀ L s.heap m) (X : (headT.heap_39 w.params).In h₀) (N : News h₀ L s.heap news) (T : Top p loose mean mg mb h₀) (hk : cs.kind = .function)
    (hdp : dp + 3 < recursionLimit) (hun : un + 24 < cLine) (hy : (y, tupO n d t u) ∈ news) (hn : 0 < n) (hd : 0 < d) (hn2 : n < big) (hd2 : d < big) (hg : Int.gcd d n = 1)
    (hret : (∀ (q : Addr) (t1 t2 : Tok) (h' : Heap) (tk' : Nat), Fr h₀ L h' m → News h₀ L h' ((q, tupO d n t1 t2) :: news) → (∀ p ∈ news, p.1 < q) → Q (.ref q) { s with heap := h', toks := tk' })) :
    wpAny (model PySem.Challenge.rw_pq1398_01.row.prog w) (ktrTop dp un gd cn cs L a ccd cl outer) (call (.ref 113) [.ref 50, .ref y]) Q E s := by
  revert X
  k_fill
  intro X
  refine wpAny_call ?_
  k_dflt cell_enter
  k_steps
  all_goals exact hret _ _ _ _ _ (by k_asm) (by k_asm) (by assumption)
theorem c_cmp {n d : Int} {x : Addr} {t u : Tok} (B : Below A₀ base outer h₀) (F : Fr h₀ L s.heap m) (X : (headT.heap_39 w.params).In h₀) (N : News h₀ L s.heap news) (T : Top p loose mean mg mb h₀) (hk : cs.kind = .function)
    (hdp : dp + 2 < recursionLimit) (hun : un + 16 < cLine) (hx : (x, tupO n d t u) ∈ news) (hn : 0 < n) (hd : 0 < d)
    (hret : (∀ (t1 : Tok) (h' : Heap) (tk' : Nat), Fr h₀ L h' m → News h₀ L h' news → Q (.int (if n = d then 0 else if n < d then -1 else 1) t1) { s with heap := h', toks := tk' })) :
    wpAny (model PySem.Challenge.rw_pq1398_01.row.prog w) (ktrTop dp un gd cn cs L a ccd cl outer) (call (.ref 120) [.ref x, .ref 50]) Q E s := by
  revert X
  k_fill
  intro X
  refine wpAny_call ?_
  k_dflt cell_enter
  k_steps
  all_goals (refine cb_retI hret ?e1 ?e2 ?e3; (case e2 => k_asm); (case e3 => k_asm); (case e1 => first | rw [if_pos (by assumption)] | rw [if_neg (by assumption), if_pos (by assumption)] | rw [if_neg (by assumption), if_neg (by assumption)]))
end
end
section
open PySem PySem.W PyProof.Rows PySem.Calls
theorem sml_all : ∃ b : Int, b = ((2 ^ 200 : Nat) : Int) := ⟨_, rfl⟩
/-- a bound for the base's parts that omega does not look into -/
noncomputable def sml : Int := sml_all.choose
theorem sml_is : sml = ((2 ^ 200 : Nat) : Int) := sml_all.choose_spec
theorem big_bits {n : Int} (h0 : 0 ≤ n) (h : n < big) : Builtin.Int.intBits n ≤ 8900 := intBits_le_iff.mpr (by
  rw [big_is] at h
  omega)
theorem sml_bits {n : Int} (h0 : 0 ≤ n) (h : n < sml) : Builtin.Int.intBits n ≤ 200 := intBits_le_iff.mpr (by
  rw [sml_is] at h
  omega)
theorem mulOk_bs {a b : Int} (ha : 0 ≤ a) (ha2 : a < big) (hb : 0 ≤ b) (hb2 : b < sml) : IntMulOk a b := IntMulOk.of_le (big_bits ha ha2) (sml_bits hb hb2) (by decide)
theorem powOk_sml {q c : Int} (hq : 0 ≤ q) (hq2 : q < sml) (hc : 0 ≤ c) (hc2 : c ≤ 4096) : (Builtin.Int.intBits q : Int) * c ≤ 2 ^ 27 := by
  have h1 := sml_bits hq hq2
  have h2 : (Builtin.Int.intBits q : Int) * c ≤ 200 * 4096 := Int.mul_le_mul (by omega) hc2 hc (by decide)
  have : (200 : Int) * 4096 ≤ 2 ^ 27 := by decide
  omega
section
local macro_rules | `(tactic| walk_at "no such key") => `(tactic| skip)
variable {w : World} {mg mb : Str → Option Value} {p : Program} {loose : List Str} {mean : ExcName → Option Value} {news : List (Addr × Obj)}
  {dp un : Nat} {gd : Option (List Code)} {cn : Str} {cs : Scope} {a : Addr} {ccd : Value} {cl : List (Str × Addr)} {outer : List Env} {A₀ : Around} {base h₀ : Heap} {L : Addr} {m : Str → Option Value} {s : Shared} {Q E : Value → Shared → Prop}
local macro_rules | `(tactic| walk_at "binaryOp Mult int int") => `(tactic| (k_here; (with_reducible refine' mul_int ?_ (mulOk_bs ?a1 ?a2 ?a3 ?a4)); (case a1 => omega); (case a2 => omega); (case a3 => omega); (case a4 => omega)))
local macro_rules | `(tactic| walk_at "binaryOp Pow int int") => `(tactic| (k_here; (with_reducible refine' pow_int ?a1 (powOk_sml ?a2 ?a3 ?a1 ?a4) ?_); (case a1 => omega); (case a2 => omega); (case a3 => omega); (case a4 => omega)))
theorem ab_parts {bp : Int} {k : Nat} {u c : Int} (h : AbInv bp k u c) (hk : k ≤ 4096) : 0 ≤ u ∧ 0 ≤ c ∧ c ≤ 4096 := ⟨h.1, h.2.1, by have := h.2.2.1; omega⟩
local macro_rules | `(tactic| walk_at "MD") => `(tactic| ((simp only [bne_iff_ne, ne_eq, Decidable.not_not]); first
  | exact ab_u (by assumption) (by assumption) (by assumption) (by assumption) (Or.inl (by assumption))
  | exact ab_u (by assumption) (by assumption) (by assumption) (by assumption) (Or.inr (by assumption))
  | exact ab_d (by assumption) (by assumption) (by assumption) (by assumption) (by assumption) (Or.inl (by assumption))
  | exact ab_d (by assumption) (by assumption) (by assumption) (by assumption) (by assumption) (Or.inr (by assumption))))
theorem c_above {n d bp bq : Int} {x b : Addr} {t u t' u' : Tok} {k : Nat} (B : Below A₀ base outer h₀) (F : Fr h₀ L s.heap m) (X : (headT.heap_39 w.params).In h₀) (N : News h₀ L s.heap news) (T : Top p loose mean mg mb h₀) (hk : cs.kind = .function)
    (hdp : dp + 3 < recursionLimit) (hun : un + 24 < cLine) (hx : (x, tupO n d t u) ∈ news) (hb : (b, tupO bp bq t' u') ∈ news) (hn : n = bp ^ k) (hd : d = bq ^ k) (hk : k ≤ 4096) (hp : 2 ≤ bp) (hq : 0 ≤ bq) (hp2 : bp < sml) (hq2 : bq < sml) (hn2 : n < big)
    (hret : (∀ (tk : Tok) (h' : Heap) (tk' : Nat), Fr h₀ L h' m → News h₀ L h' news → Q (.int (k : Int) tk) { s with heap := h', toks := tk' })) :
    wpAny (model PySem.Challenge.rw_pq1398_01.row.prog w) (ktrTop dp un gd cn cs L a ccd cl outer) (call (.ref 134) [.ref x, .ref b]) Q E s := by
  revert X
  k_fill
  intro X
  refine wpAny_call ?_
  k_dflt cell_enter
  k_with "exec While BoolOp" => k_while (fun _ upper count => 0 ≤ upper ∧ 0 ≤ count ∧ count ≤ 4096 ∧ AbInv bp k upper count) (fun _ _ count => k - count.toNat) "upper" "count"
  k_with "state" => first | exact ⟨by decide, by decide, by decide, ab_start⟩ | exact (fun h => ⟨(ab_parts h (by assumption)).1, (ab_parts h (by assumption)).2.1, (ab_parts h (by assumption)).2.2, h⟩) (ab_turn (by assumption) (by assumption) (by assumption) (by assumption))
  k_with "measure" => exact ab_less (by assumption) (by assumption) (by assumption) (by assumption)
  k_steps
  all_goals first
    | (refine cb_retI hret ?e1 ?e2 ?e3; (case e2 => k_asm); (case e3 => k_asm); exact ab_c (by assumption) (by assumption) (by assumption) (by assumption) (Or.inl (by assumption)))
    | (exfalso; have hu := ab_u (n := n) (k := k) (by assumption) (by assumption) (by assumption) (by assumption) (Or.inr (by assumption)); omega)
end
end
section
open PySem PySem.W PyProof.Rows PySem.Calls
theorem ints_ne {us : List Value} {ns : List Int} (hi : IntsAre us ns) (h : decide (ns = []) = false) : 0 < us.length := by
  cases hi with
  | nil => cases h
  | cons k t r => exact Nat.succ_pos _
theorem ints_nil {us : List Value} {ns : List Int} (hi : IntsAre us ns) (h : decide (ns = []) = true) : us.length = 0 := by
  cases hi with
  | nil => rfl
  | cons k t r => simp at h
theorem len_drop {us : List Value} (h : us.length ≤ 60) : us.dropLast.length ≤ 60 := by
  rw [List.length_dropLast]
  omega
theorem len_room {us : List Value} (h : us.length ≤ 60) : us.length ≤ sizeLine := by
  rw [sizeLine_eq]
  omega
theorem dropFront {h₀ h : Heap} {L : Addr} {a : Addr × Obj} {news : List (Addr × Obj)} (N : News h₀ L h (a :: news)) : News h₀ L h news := fun p hp => N p (.tail _ hp)
theorem mod_nn {v mn : Int} (hm : 0 < mn) : 0 ≤ v.fmod mn := Int.fmod_nonneg_of_pos v hm
theorem mod_lt {v mn : Int} (hm : 0 < mn) : v.fmod mn < mn := Int.fmod_lt_of_pos v hm
section
variable {w : World} {mg mb : Str → Option Value} {p : Program} {loose : List Str} {mean : ExcName → Option Value} {news : List (Addr × Obj)}
  {dp un : Nat} {gd : Option (List Code)} {cn : Str} {cs : Scope} {a : Addr} {ccd : Value} {cl : List (Str × Addr)} {outer : List Env} {A₀ : Around} {base h₀ : Heap} {L : Addr} {m : Str → Option Value} {s : Shared} {Q E : Value → Shared → Prop}
local macro_rules | `(tactic| walk_at "call builtin:list.pop") => `(tactic| (k_here; k_dflt (refine' kpa_pop ?F ?N ?U ?i ?l ?z ?_; (case F => k_asm); (case N => k_asm); (case U => exact Upd.tail (Nat.ne_of_gt (And.left (by assumption))) (Upd.head (by assumption))); (case i => with_reducible assumption); (case l => exact ints_ne (by assumption) (by assumption)); (case z => exact len_room (by assumption))); (intro h' t' F' N' hI'; (try dsimp only [List.nil_append, List.cons_append] at N'))))
theorem c_coin {us : List Value} {ns : List Int} {D : Addr} {n : Nat} {mn : Int} {u : Tok} (B : Below A₀ base outer h₀) (F : Fr h₀ L s.heap m) (X : (headT.heap_39 w.params).In h₀) (N : News h₀ L s.heap ((D, listOf us.toArray n) :: news)) (T : Top p loose mean mg mb h₀) (hk : cs.kind = .function)
    (hdp : dp + 2 < recursionLimit) (hun : un + 100 < cLine) (hi : IntsAre us ns) (hz : us.length ≤ 60) (hne : ∀ p ∈ news, p.1 ≠ D) (hm : 0 < mn)
    (hret : ∀ (v : Int) (us' : List Value) (ns' : List Int) (n' : Nat), 0 ≤ v → v < mn → IntsAre us' ns' → us'.length ≤ 60 → (∀ (tk : Tok) (h' : Heap) (tk' : Nat), Fr h₀ L h' m → News h₀ L h' ((D, listOf us'.toArray n') :: news) → Q (.int v tk) { s with heap := h', toks := tk' })) :
    wpAny (model PySem.Challenge.rw_pq1398_01.row.prog w) (ktrTop dp un gd cn cs L a ccd cl outer) (call (.ref 155) [.ref D, .int mn u]) Q E s := by
  revert X
  k_fill
  intro X
  refine wpAny_call ?_
  k_dflt cell_enter
  k_steps
  · exact hret 0 us ns n (Int.le_refl 0) hm hi hz _ _ _ (by k_asm) (dropFront (by assumption))
  · exact hret _ _ _ _ (mod_nn hm) (mod_lt hm) (by assumption) (len_drop hz) _ _ _ (by k_asm) (dropFront (by assumption))
end
end
section
open PySem PySem.W PyProof.Rows PySem.Calls
theorem room_rev {us : List Value} {ns : List Int} {k : Nat} (hi : IntsAre us ns) (h : ns.length = min 60 k) : us.toArray.toList.length ≤ sizeLine := by
  have := hi.length
  rw [sizeLine_eq, List.toList_toArray]
  omega
theorem ints_app {us us' : List Value} {ns ns' : List Int} (h : IntsAre us ns) (h' : IntsAre us' ns') : IntsAre (us ++ us') (ns ++ ns') := by
  induction h with
  | nil => exact h'
  | cons k t r ih => exact .cons k t ih
theorem ints_rev {us : List Value} {ns : List Int} (h : IntsAre us ns) : IntsAre us.reverse ns.reverse := by
  induction h with
  | nil => exact .nil
  | cons k t r ih =>
    rw [List.reverse_cons, List.reverse_cons]
    exact ints_app ih (.cons k t .nil)
theorem rev_len {us : List Value} {ns : List Int} {k : Nat} (hi : IntsAre us ns) (h : ns.length = min 60 k) : us.reverse.length ≤ 60 := by
  have := hi.length
  rw [List.length_reverse]
  omega
theorem dropMid {h₀ h : Heap} {L : Addr} {a b c : Addr × Obj} {news : List (Addr × Obj)} (N : News h₀ L h (a :: b :: c :: news)) : News h₀ L h (a :: news) := fun p hp => N p (by
  rcases List.mem_cons.mp hp with rfl | hp
  · exact .head _
  · exact .tail _ (.tail _ (.tail _ hp)))
theorem lt_tail3 {d x y : Addr} {l : List (Addr × Obj)} (h : @LT.lt Nat _ x d ∧ @LT.lt Nat _ y d ∧ AllLt d l) : ∀ p ∈ l, p.1 < d := ktn_ltOf h.2.2
section
variable {w : World} {mg mb : Str → Option Value} {p : Program} {loose : List Str} {mean : ExcName → Option Value} {news : List (Addr × Obj)}
  {dp un : Nat} {gd : Option (List Code)} {cn : Str} {cs : Scope} {a : Addr} {ccd : Value} {cl : List (Str × Addr)} {outer : List Env} {A₀ : Around} {base h₀ : Heap} {L : Addr} {m : Str → Option Value} {s : Shared} {Q E : Value → Shared → Prop}
local macro_rules | `(tactic| walk_at "call builtin:list.reverse") => `(tactic| (k_here; k_dflt (refine' kl_reverse ?F ?N rfl ?U ?z ?_; (case F => k_asm); (case N => k_asm); (case U => k_upd); (case z => exact room_rev (by assumption) (by assumption))); (intro h' F' N'; (try dsimp only [List.nil_append, List.cons_append] at N'))))
local macro_rules | `(tactic| walk_at "call builtin:list.append") => `(tactic| (k_here; k_dflt (refine' append_K ?k1 ?k2 ?k3 ?_ ?z; (case k1 => k_asm); (case k2 => k_asm); (case k3 => k_upd); (case z => (rw [List.size_toArray, PySem.sizeLine_eq]; omega)); k_whole); intro h' F' N'; (try k_sweep)))
local macro_rules | `(tactic| walk_at "InvEndN") => `(tactic| (k_dflt kst_close))
theorem c_coins {vs : List Value} {ns : List Int} {l : Addr} (B : Below A₀ base outer h₀) (F : Fr h₀ L s.heap m) (X : (headT.heap_39 w.params).In h₀) (N : News h₀ L s.heap news) (T : Top p loose mean mg mb h₀) (hk : cs.kind = .function) (hl : base.IsList l vs.toArray) (hi : IntsAre vs ns) (hn : ns.length ≤ 63)
    (hdp : dp + 2 < recursionLimit) (hun : un + 100 < cLine)
    (hret : ∀ (us : List Value) (ks : List Int) (n : Nat), IntsAre us ks → us.length ≤ 60 → (∀ (D : Addr) (h' : Heap) (tk' : Nat), Fr h₀ L h' m → News h₀ L h' ((D, listOf us.toArray n) :: news) → (∀ p ∈ news, p.1 < D) → Q (.ref D) { s with heap := h', toks := tk' })) :
    wpAny (model PySem.Challenge.rw_pq1398_01.row.prog w) (ktrTop dp un gd cn cs L a ccd cl outer) (call (.ref 148) [.ref l]) Q E s := by
  revert X
  k_fill
  intro X
  refine wpAny_call ?_
  k_dflt cell_enter
  k_with "pyIter ref" => (k_of "cell" => k_state (fun pre coins => coins.length ≤ 12 * pre.length) "coins")
  k_with "pyIter ref" => (k_of "lap" => k_state_given ["coins!"] (fun c0 pre coins bulk => coins.length ≤ c0.length + pre.length) "coins" "bulk")
  k_steps
  all_goals (refine' hret _ _ _ (ints_rev (by assumption)) (rev_len (by assumption) (by assumption)) _ _ _ ?eF ?eN ?eL; (case eF => k_asm); (case eN => exact dropMid (by assumption)); (case eL => exact lt_tail3 (by assumption)))
end
end
section
open PySem PySem.W PyProof.Rows PySem.Calls
local macro_rules | `(tactic| walk_at "compareOp Eq ref ref") => `(tactic| (k_here; (with_reducible show wpAny _ _ (compareOp CmpOp.Eq (Value.ref _) (Value.ref _)) _ _ _); k_dflt (refine' tup_eq ?a ?b ?u ?_; (case a => walk_at "TUP"); (case b => walk_at "TUP"); (case u => k_units))))
local macro_rules | `(tactic| walk_at "compareOp NotEq ref ref") => `(tactic| (k_here; (with_reducible show wpAny _ _ (compareOp CmpOp.NotEq (Value.ref _) (Value.ref _)) _ _ _); k_dflt (refine' tup_ne ?a ?b ?u ?_; (case a => walk_at "TUP"); (case b => walk_at "TUP"); (case u => k_units))))
local macro_rules | `(tactic| walk_at "compareOp NotEq ref str") => `(tactic| (k_here; (with_reducible show wpAny _ _ (compareOp CmpOp.NotEq (Value.ref _) (Value.str _ _)) _ _ _); k_dflt (refine' tup_ne_str ?a ?x ?u ?_; (case a => walk_at "TUP"); (case x => decide +kernel); (case u => k_units))))
local macro_rules | `(tactic| k_mem) => `(tactic| assumption)
section
open PySem PySem.W PyProof.Rows PySem.Calls
theorem gcd_last0 {a b : Int} {g : Nat} (ha : 0 ≤ a) (hg : Int.gcd a b = g) (h : b = 0) : a = (g : Int) := by
  subst h
  rw [← hg, Int.gcd_zero_right]
  omega
theorem gcd_turn0 {a b : Int} {g : Nat} (ha : 0 ≤ a) (hb : 0 ≤ b) (hg : Int.gcd a b = g) (h : b ≠ 0) : 0 ≤ b ∧ 0 ≤ a.fmod b ∧ Int.gcd b (a.fmod b) = g := gcd_turn ha hb hg (by omega)
theorem gcd_less0 {a b : Int} (hb : 0 ≤ b) (h : b ≠ 0) : (a.fmod b).toNat < b.toNat := gcd_less hb (by omega)
theorem gcd_pos {a b : Int} (hb : 1 ≤ b) : 0 < Int.gcd a b := by
  apply Nat.pos_of_ne_zero
  intro h
  have := (Int.gcd_eq_zero_iff.mp h).2
  omega
theorem gcd_le {a b : Int} (hb : 1 ≤ b) : (Int.gcd a b : Int) ≤ b := by
  have := Int.gcd_le_right (a := a) (b := b) (by omega)
  omega
/-- what the least form has -/
structure Least (tv bv N D : Int) : Prop where
  g : Int.gcd N D = 1
  n0 : 0 ≤ N
  n1 : N ≤ tv
  d0 : 1 ≤ D
  d1 : D ≤ bv
  gt : bv < tv → D < N
theorem least_of {tv bv : Int} (ht : 0 ≤ tv) (hb : 1 ≤ bv) : Least tv bv (tv.fdiv (Int.gcd tv bv)) (bv.fdiv (Int.gcd tv bv)) := by
  have hg := gcd_pos (a := tv) hb
  have hgi : (0 : Int) < (Int.gcd tv bv : Int) := by omega
  rw [Int.fdiv_eq_ediv_of_nonneg _ (by omega), Int.fdiv_eq_ediv_of_nonneg _ (by omega)]
  have e1 := Int.ediv_mul_cancel (Int.gcd_dvd_left tv bv)
  have e2 := Int.ediv_mul_cancel (Int.gcd_dvd_right tv bv)
  refine ⟨?_, ?_, ?_, ?_, ?_, ?_⟩
  · exact Int.gcd_ediv_gcd_ediv_gcd hg
  · exact Int.ediv_nonneg ht (by omega)
  · exact Int.ediv_le_self _ ht
  · have : 0 ≤ bv / (Int.gcd tv bv : Int) := Int.ediv_nonneg (by omega) (by omega)
    have : bv / (Int.gcd tv bv : Int) ≠ 0 := fun z => by rw [z] at e2; omega
    omega
  · exact Int.ediv_le_self _ (by omega)
  · intro h
    apply Int.lt_of_mul_lt_mul_right (a := (Int.gcd tv bv : Int)) _ (by omega)
    rw [e1, e2]
    exact h
theorem noPy {x y : Int} (h0 : 0 ≤ y) (h : y < big) : Builtin.divisionGoesByPylong x y = false := by
  refine PyProof.noPylong_of_log2 ?_
  by_cases hz : y.natAbs = 0
  · rw [hz]; decide
  · rw [big_is] at h
    refine Nat.lt_of_lt_of_le ((Nat.log2_lt (k := 8900) hz).mpr (by omega)) (by decide)
theorem fdiv_g {prog : Program} {w : World} {A : Around} {E : Value → Shared → Prop} {s : Shared} {x tv bv one other : Int} {t u : Tok} {Q : Value → Shared → Prop}
    (ha : 0 ≤ one) (hg : Int.gcd one other = Int.gcd tv bv) (h0 : other = 0) (hb : 1 ≤ bv) (hb2 : bv < big)
    (h : Q (.int (x.fdiv (Int.gcd tv bv)) s.toks) { s with toks := s.toks + 1 }) : wpAny (model prog w) A (binaryOp .FloorDiv (.int x t) (.int one u)) Q E s := by
  have e := gcd_last0 ha hg h0
  have hp := gcd_pos (a := tv) hb
  have hl := gcd_le (a := tv) hb
  rw [e]
  exact floordiv_int (by omega) h (Or.inl (noPy (by omega) (by omega)))
section
variable {w : World} {mg mb : Str → Option Value} {p : Program} {loose : List Str} {mean : ExcName → Option Value} {news : List (Addr × Obj)}
  {dp un : Nat} {gd : Option (List Code)} {cn : Str} {cs : Scope} {a : Addr} {ccd : Value} {cl : List (Str × Addr)} {outer : List Env} {A₀ : Around} {base h₀ : Heap} {L : Addr} {m : Str → Option Value} {s : Shared} {Q E : Value → Shared → Prop}
local macro_rules | `(tactic| walk_at "binaryOp FloorDiv int int") => `(tactic| (k_here; with_reducible refine fdiv_g (by assumption) (by assumption) (by assumption) (by assumption) (by assumption) ?_))
theorem c_least {tv bv : Int} {t u : Tok} (B : Below A₀ base outer h₀) (F : Fr h₀ L s.heap m) (X : (headT.heap_39 w.params).In h₀) (N : News h₀ L s.heap news) (T : Top p loose mean mg mb h₀) (hk : cs.kind = .function)
    (hdp : dp + 2 < recursionLimit) (hun : un + 100 < cLine) (ht : 0 ≤ tv) (hb : 1 ≤ bv) (hb2 : bv < big)
    (hret : ∀ N D : Int, Least tv bv N D → (∀ (q : Addr) (t1 t2 : Tok) (h' : Heap) (tk' : Nat), Fr h₀ L h' m → News h₀ L h' ((q, tupO N D t1 t2) :: news) → (∀ p ∈ news, p.1 < q) → Q (.ref q) { s with heap := h', toks := tk' })) :
    wpAny (model PySem.Challenge.rw_pq1398_01.row.prog w) (ktrTop dp un gd cn cs L a ccd cl outer) (call (.ref 162) [.int tv t, .int bv u]) Q E s := by
  have hb0 : 0 ≤ bv := by omega
  revert X
  k_fill
  intro X
  refine wpAny_call ?_
  k_dflt cell_enter
  k_with "exec While Compare cons nil" => k_while_given ["one!", "other!"] (fun a0 b0 _ a b => 0 ≤ a ∧ 0 ≤ b ∧ Int.gcd a b = Int.gcd a0 b0) (fun _ _ _ _ b => b.toNat) "one" "other"
  k_with "state" => exact gcd_turn0 (by assumption) (by assumption) (by assumption) (by assumption)
  k_with "measure" => exact gcd_less0 (by assumption) (by assumption)
  k_steps
  all_goals (refine' hret _ _ (least_of ht hb) _ _ _ _ _ ?eF ?eN ?eL; (case eF => k_asm); (case eN => k_asm); (case eL => assumption))
end
end
section
open PySem PySem.W PyProof.Rows PySem.Calls
local macro_rules | `(tactic| walk_at "call ref") => `(tactic| (k_here; (with_reducible show wpAny _ _ (call (Value.ref 113) _) _ _ _); k_dflt (refine' c_div ?k1 ?k2 ?k3 ?k4 ?k5 ?kK ?kd ?ku ?h1 ?h2 ?h3 ?h4 ?h5 ?h6 ?_; (case k1 => k_asm); (case k2 => k_asm); (case k3 => k_asm); (case k4 => k_asm); (case k5 => k_asm); (case kK => first | exact rfl | assumption); (case kd => k_room); (case ku => k_units); (case h1 => k_mem); (case h2 => first | assumption | omega); (case h3 => first | assumption | omega); (case h4 => first | assumption | omega); (case h5 => first | assumption | omega); (case h6 => first | assumption | (rw [Int.gcd_comm]; assumption)); k_whole; intro q9 ta9 tb9 h9 tk9 F9 N9 l9; (try k_lt l9); (try dsimp only); (try k_fold))))
local macro_rules | `(tactic| walk_at "call ref") => `(tactic| (k_here; (with_reducible show wpAny _ _ (call (Value.ref 120) _) _ _ _); k_dflt (refine' c_cmp ?k1 ?k2 ?k3 ?k4 ?k5 ?kK ?kd ?ku ?h1 ?h2 ?h3 ?_; (case k1 => k_asm); (case k2 => k_asm); (case k3 => k_asm); (case k4 => k_asm); (case k5 => k_asm); (case kK => first | exact rfl | assumption); (case kd => k_room); (case ku => k_units); (case h1 => k_mem); (case h2 => first | assumption | omega); (case h3 => first | assumption | omega); k_whole; intro t9 h9 tk9 F9 N9; (try dsimp only); (try k_fold))))
local macro_rules | `(tactic| walk_at "call ref") => `(tactic| (k_here; (with_reducible show wpAny _ _ (call (Value.ref 134) _) _ _ _); k_dflt (refine' c_above ?k1 ?k2 ?k3 ?k4 ?k5 ?kK ?kd ?ku ?h1 ?h2 ?h3 ?h4 ?h5 ?h6 ?h7 ?h8 ?h9 ?h10 ?_; (case k1 => k_asm); (case k2 => k_asm); (case k3 => k_asm); (case k4 => k_asm); (case k5 => k_asm); (case kK => first | exact rfl | assumption); (case kd => k_room); (case ku => k_units); (case h1 => k_mem); (case h2 => k_mem); (case h3 => assumption); (case h4 => assumption); (case h5 => assumption); (case h6 => first | assumption | omega); (case h7 => first | assumption | omega); (case h8 => assumption); (case h9 => assumption); (case h10 => first | assumption | omega); k_whole; intro t9 h9 tk9 F9 N9; (try dsimp only); (try k_fold))))
open PySem PySem.W PyProof.Rows PySem.Calls
theorem drop2 {h₀ h : Heap} {L : Addr} {a b : Addr × Obj} {news : List (Addr × Obj)} (N : News h₀ L h (a :: b :: news)) : News h₀ L h (a :: news) := fun p hp => N p (by
  rcases List.mem_cons.mp hp with rfl | hp
  · exact .head _
  · exact .tail _ (.tail _ hp))
theorem dropB {h₀ h : Heap} {L : Addr} {a b c : Addr × Obj} {news : List (Addr × Obj)} (N : News h₀ L h (a :: b :: c :: news)) : News h₀ L h (a :: news) := drop2 (drop2 N)
theorem lt_tail {d x : Addr} {l : List (Addr × Obj)} (h : @LT.lt Nat _ x d ∧ AllLt d l) : ∀ p ∈ l, p.1 < d := ktn_ltOf h.2
theorem lt_tail2 {d x y : Addr} {l : List (Addr × Obj)} (h : @LT.lt Nat _ x d ∧ @LT.lt Nat _ y d ∧ AllLt d l) : ∀ p ∈ l, p.1 < d := ktn_ltOf h.2.2
section
variable {w : World} {mg mb : Str → Option Value} {p : Program} {loose : List Str} {mean : ExcName → Option Value} {news : List (Addr × Obj)}
  {dp un : Nat} {gd : Option (List Code)} {cn : Str} {cs : Scope} {a : Addr} {ccd : Value} {cl : List (Str × Addr)} {outer : List Env} {A₀ : Around} {base h₀ : Heap} {L : Addr} {m : Str → Option Value} {s : Shared} {Q E : Value → Shared → Prop}
theorem c_logto_gt {n d bp bq : Int} {x b : Addr} {t u t' u' : Tok} {k : Nat} (B : Below A₀ base outer h₀) (F : Fr h₀ L s.heap m) (X : (headT.heap_39 w.params).In h₀) (N : News h₀ L s.heap news) (T : Top p loose mean mg mb h₀) (hk : cs.kind = .function)
    (hdp : dp + 6 < recursionLimit) (hun : un + 200 < cLine) (hx : (x, tupO n d t u) ∈ news) (hb : (b, tupO bp bq t' u') ∈ news) (hn : n = bp ^ k) (hd : d = bq ^ k) (hk : k ≤ 4096) (hq : 1 ≤ bq) (hpq : bq < bp) (hp2 : bp < sml) (hq2 : bq < sml) (hd0 : 1 ≤ d) (hnd : d < n) (hn2 : n < big)
    (hret : (∀ (q : Addr) (t1 t2 : Tok) (h' : Heap) (tk' : Nat), Fr h₀ L h' m → News h₀ L h' ((q, tupO (k : Int) 1 t1 t2) :: news) → (∀ p ∈ news, p.1 < q) → Q (.ref q) { s with heap := h', toks := tk' })) :
    wpAny (model PySem.Challenge.rw_pq1398_01.row.prog w) (ktrTop dp un gd cn cs L a ccd cl outer) (call (.ref 141) [.ref x, .ref b]) Q E s := by
  revert X
  k_fill
  intro X
  refine wpAny_call ?_
  k_dflt cell_enter
  k_steps
  all_goals (refine' hret _ _ _ _ _ ?eF ?eN ?eL; (case eF => k_asm); (case eN => first | k_asm | exact drop2 (by assumption) | exact dropB (by assumption)); (case eL => first | assumption | exact lt_tail (by assumption) | exact lt_tail2 (by assumption)))
theorem c_logto_lt {n d bp bq : Int} {x b : Addr} {t u t' u' : Tok} {k : Nat} (B : Below A₀ base outer h₀) (F : Fr h₀ L s.heap m) (X : (headT.heap_39 w.params).In h₀) (N : News h₀ L s.heap news) (T : Top p loose mean mg mb h₀) (hk : cs.kind = .function)
    (hdp : dp + 6 < recursionLimit) (hun : un + 200 < cLine) (hx : (x, tupO n d t u) ∈ news) (hb : (b, tupO bp bq t' u') ∈ news) (hd : d = bp ^ k) (hn : n = bq ^ k) (hk : k ≤ 4096) (hq : 1 ≤ bq) (hpq : bq < bp) (hp2 : bp < sml) (hq2 : bq < sml) (hn0 : 1 ≤ n) (hnd : n < d) (hd2 : d < big) (hn2 : n < big) (hg : Int.gcd n d = 1)
    (hret : (∀ (q : Addr) (t1 t2 : Tok) (h' : Heap) (tk' : Nat), Fr h₀ L h' m → News h₀ L h' ((q, tupO (0 - (k : Int)) 1 t1 t2) :: news) → (∀ p ∈ news, p.1 < q) → Q (.ref q) { s with heap := h', toks := tk' })) :
    wpAny (model PySem.Challenge.rw_pq1398_01.row.prog w) (ktrTop dp un gd cn cs L a ccd cl outer) (call (.ref 141) [.ref x, .ref b]) Q E s := by
  revert X
  k_fill
  intro X
  refine wpAny_call ?_
  k_dflt cell_enter
  k_steps
  all_goals (refine' hret _ _ _ _ _ ?eF ?eN ?eL; (case eF => k_asm); (case eN => first | k_asm | exact drop2 (by assumption) | exact dropB (by assumption)); (case eL => first | assumption | exact lt_tail (by assumption) | exact lt_tail2 (by assumption)))
theorem c_logto_one {bp bq : Int} {x b : Addr} {t u t' u' : Tok} (B : Below A₀ base outer h₀) (F : Fr h₀ L s.heap m) (X : (headT.heap_39 w.params).In h₀) (N : News h₀ L s.heap news) (T : Top p loose mean mg mb h₀) (hk : cs.kind = .function)
    (hdp : dp + 6 < recursionLimit) (hun : un + 200 < cLine) (hx : (x, tupO 1 1 t u) ∈ news) (hb : (b, tupO bp bq t' u') ∈ news) (hq : 1 ≤ bq) (hpq : bq < bp)
    (hret : (∀  (h' : Heap) (tk' : Nat), Fr h₀ L h' m → News h₀ L h' news → Q (.ref 49) { s with heap := h', toks := tk' })) :
    wpAny (model PySem.Challenge.rw_pq1398_01.row.prog w) (ktrTop dp un gd cn cs L a ccd cl outer) (call (.ref 141) [.ref x, .ref b]) Q E s := by
  revert X
  k_fill
  intro X
  refine wpAny_call ?_
  k_dflt cell_enter
  k_steps
  all_goals exact hret _ _ (by k_asm) (by k_asm)
end
section
open PySem PySem.W PyProof.Rows PySem.Calls
theorem exc_inst {h₀ h : Heap} {L e dx C : Addr} {oe od : Obj} {ws : Array Value} {news : List (Addr × Obj)} (N : News h₀ L h ((e, oe) :: (dx, od) :: news)) (hc : oe.cls = .ref C) (hd : oe.dict = some dx) (hw : oe.data = .fields ws) :
    InstAt h e oe C (some od) := ⟨(N _ (.head _)).1, hc, by unfold notCls; rw [hw], by rw [hd]; exact (N _ (.tail _ (.head _))).1⟩
theorem no_d {bp bq n d u c : Int} (hno : ∀ k : Nat, ¬ (n = bp ^ k ∧ d = bq ^ k)) (hu : u = bp ^ c.toNat) (hn : u = n) : ¬ bq ^ c.toNat = d := fun e => hno c.toNat ⟨hn.symm.trans hu, e.symm⟩
theorem drop20 {h₀ h : Heap} {L : Addr} {a b : Addr × Obj} {news : List (Addr × Obj)} (N : News h₀ L h (a :: b :: news)) : News h₀ L h news := fun p hp => N p (.tail _ (.tail _ hp))
section
variable {w : World} {mg mb : Str → Option Value} {p : Program} {loose : List Str} {mean : ExcName → Option Value} {news : List (Addr × Obj)}
  {dp un : Nat} {gd : Option (List Code)} {cn : Str} {cs : Scope} {a : Addr} {ccd : Value} {cl : List (Str × Addr)} {outer : List Env} {A₀ : Around} {base h₀ : Heap} {L : Addr} {m : Str → Option Value} {s : Shared} {Q E : Value → Shared → Prop}
local macro_rules | `(tactic| walk_at "binaryOp Mult int int") => `(tactic| (k_here; (with_reducible refine' mul_int ?_ (mulOk_bs ?a1 ?a2 ?a3 ?a4)); (case a1 => omega); (case a2 => omega); (case a3 => omega); (case a4 => omega)))
local macro_rules | `(tactic| walk_at "binaryOp Pow int int") => `(tactic| (k_here; (with_reducible refine' pow_int ?a1 (powOk_sml ?a2 ?a3 ?a1 ?a4) ?_); (case a1 => omega); (case a2 => omega); (case a3 => omega); (case a4 => omega)))
local macro_rules | `(tactic| walk_at "MD") => `(tactic| ((simp only [bne_iff_ne, ne_eq]); exact no_d (by assumption) (by assumption) (by assumption)))
local macro_rules | `(tactic| walk_at "call ref") => `(tactic| (k_here; (with_reducible show wpAny _ _ (call (Value.ref 44) _) _ _ _); k_dflt (refine' c_refusal ?k1 ?k2 ?k3 ?k4 ?k5 ?kK ?kd ?ku  ?_; (case k1 => k_asm); (case k2 => k_asm); (case k3 => k_asm); (case k4 => k_asm); (case k5 => k_asm); (case kK => first | exact rfl | assumption); (case kd => k_room); (case ku => k_units); skip; k_whole; intro e9 tt9 dx9 tk9 h9 tk9' F9 N9 ne9 l9; (try k_sweep); (try dsimp only); (try k_fold))))
local macro_rules | `(tactic| walk_at "exec Raise some none") => `(tactic| (k_here; k_dflt (refine' raise_exc (C := 44) ?X ?hh ?hC ?hb ?_; (case X => k_asm); (case hh => rfl); (case hC => k_is); (case hb => decide +kernel))))
local macro_rules | `(tactic| walk_at "RaisePost") => `(tactic| (k_dflt (refine' raisePost_ ?F ?X ?N ?_; (case F => k_asm); (case X => k_asm); (case N => k_asm))))
local macro_rules | `(tactic| walk_at "leaving ref") => `(tactic| (k_here; first
  | (refine' leave_onD ?k1 ?k2 ?k3 ?k4 ?_; (case k3 => assumption); (case k2 => assumption); (case k1 => assumption); (case k4 => assumption); k_whole; intro h' R' U'; (try dsimp only at R' U' ⊢))
  | (refine' leave_firstD ?k1 ?k2 ?k3 ?k4 ?_; (case k3 => assumption); (case k2 => assumption); (case k1 => assumption); (case k4 => assumption); k_whole; intro h' R' U'; (try dsimp only at R' U' ⊢))))
local macro_rules | `(tactic| walk_at "noteFrame ref") => `(tactic| (k_here; (rename RaisedD _ _ _ _ _ _ _ _ => rsX); k_dflt (refine' caught_D ?R ?F ?K ?U ?XB ?TB ?D ?T0 ?ex ?q ?_; (case R => exact rsX); (case F => assumption); (case K => assumption); (case U => assumption); (case XB => assumption); (case TB => assumption); (case D => assumption); (case T0 => first | assumption | exact KtsTurn.refl); (case ex => k_is); (case q => kts_isx); k_whole); intro h' g' oe' ws' tk' T' F' N' oc' od' odd' K' X' P' D'; (try k_lift K'); (try k_sweep)))
local macro_rules | `(tactic| walk_at "getAttr ref") => `(tactic| (k_here; k_dflt (refine' get_exc ?X ?I ?ga ?g ?c ?m ?f ?hh ?_; (case X => k_in); (case I => walk_at "EXINST"); (case ga => k_is); (case g => k_is); (case c => k_is); (case m => rfl); (case f => walk_at "EXFIND"); (case hh => k_handed); k_whole)))
local macro_rules | `(tactic| walk_at "EXINST") => `(tactic| exact exc_inst (by k_asm) (by assumption) (by assumption) (by assumption))
local macro_rules | `(tactic| walk_at "EXFIND") => `(tactic| (refine' findObj_own ?a ?b ?c ?d; (case a => k_is); (case b => k_is); (case c => k_is); (case d => rfl)))
theorem any_start {bp : Int} : 0 ≤ (1 : Int) ∧ 0 ≤ (0 : Int) ∧ (0 : Int) ≤ 4096 ∧ (1 : Int) = bp ^ (0 : Int).toNat := ⟨by decide, by decide, by decide, by rw [show (0 : Int).toNat = 0 from rfl, Int.pow_zero]⟩
theorem any_next {bp u c : Int} (hp : 0 ≤ bp) (hu : 0 ≤ u) (h0 : 0 ≤ c) (h : u = bp ^ c.toNat) (h4 : c < 4096) : 0 ≤ u * bp ∧ 0 ≤ c + 1 ∧ c + 1 ≤ 4096 ∧ u * bp = bp ^ (c + 1).toNat :=
  ⟨Int.mul_nonneg hu hp, by omega, by omega, (any_turn ⟨h0, h⟩).2⟩
theorem t_raise {n d bp bq : Int} {x b : Addr} {t u t' u' : Tok} (B : Below A₀ base [] h₀) (F : Fr h₀ L s.heap m) (X : (headT.heap_39 w.params).In h₀) (N : News h₀ L s.heap news) (T : Top p loose mean mg mb h₀) (hk : cs.kind = .function)
    (XB : (headT.heap_39 w.params).In base) (TB : Top p loose mean mg mb base)
    (hdp : dp + 8 < recursionLimit) (hun : un + 220 < cLine) (hx : (x, tupO n d t u) ∈ news) (hb : (b, tupO bp bq t' u') ∈ news) (hno : ∀ k : Nat, ¬ (n = bp ^ k ∧ d = bq ^ k)) (hq : 1 ≤ bq) (hpq : bq < bp) (hp2 : bp < sml) (hq2 : bq < sml) (hd0 : 1 ≤ d) (hnd : d < n) (hn2 : n < big)
    (hret : (∀ (tk : Tok) (h' : Heap) (tk' : Nat), Fr h₀ L h' m → News h₀ L h' news → Q (.str (Str.ofString "result is not exact") tk) { s with heap := h', toks := tk' })) :
    wpAny (model PySem.Challenge.rw_pq1398_01.row.prog w) (ktrTop dp un gd cn cs L a ccd [] []) (call (.ref 169) [.ref x, .ref b]) Q E s := by
  have hp0 : 0 ≤ bp := by omega
  have hq0 : 0 ≤ bq := by omega
  revert X
  k_fill
  intro X
  refine wpAny_call ?_
  k_dflt (refine' code_defS0 ?k1 ?k2 ?k3 ?k4 ?k5 ?kA ?k6 ?k7 ?k8 ?k9 ?kB ?_ ?cK ?c2 ?c3 ?c4 ?c5; (case kA => exact rfl); (case k2 => k_asm); (case k1 => k_asm); (case k3 => k_asm); (case k4 => k_asm); (case k5 => k_asm); (case k6 => k_is); (case k7 => k_is); (case k8 => k_room); (case k9 => exact BindsTo.of_eq rfl); (case kB => exact locs rfl); (case cK => assumption); (case c2 => exact rfl); (case c3 => exact rfl); (case c4 => exact rfl); (case c5 => decide); k_whole; intro g' L' h' FG' F' N' B' X' T' D'; (try dsimp only); (try k_lift B'); (try k_fold))
  k_with "exec While BoolOp" => k_while (fun _ upper count => 0 ≤ upper ∧ 0 ≤ count ∧ count ≤ 4096 ∧ upper = bp ^ count.toNat) (fun _ _ count => 4096 - count.toNat) "upper" "count"
  k_with "state" => first | exact any_start | exact any_next (by assumption) (by assumption) (by assumption) (by assumption) (by assumption)
  k_steps
  all_goals exact hret _ _ _ (by k_asm) (drop20 (by assumption))
end
end
open PySem PySem.W PyProof.Rows PySem.Calls
local macro_rules | `(tactic| walk_at "call ref") => `(tactic| (k_here; (with_reducible show wpAny _ _ (call (Value.ref 141) _) _ _ _); k_dflt (refine' c_logto_one ?k1 ?k2 ?k3 ?k4 ?k5 ?kK ?kd ?ku ?h1 ?h2 ?h3 ?h4 ?_; (case k1 => k_asm); (case k2 => k_asm); (case k3 => k_asm); (case k4 => k_asm); (case k5 => k_asm); (case kK => first | exact rfl | assumption); (case kd => k_room); (case ku => k_units); (case h1 => k_mem); (case h2 => k_mem); (case h3 => first | assumption | omega); (case h4 => first | assumption | omega); k_whole; intro h9 tk9 F9 N9; (try dsimp only); (try k_fold))))
local macro_rules | `(tactic| walk_at "call ref") => `(tactic| (k_here; (with_reducible show wpAny _ _ (call (Value.ref 141) _) _ _ _); k_dflt (refine' c_logto_lt ?k1 ?k2 ?k3 ?k4 ?k5 ?kK ?kd ?ku ?h1 ?h2 ?h3 ?h4 ?h5 ?h6 ?h7 ?h8 ?h9 ?h10 ?h11 ?h12 ?h13 ?h14 ?_; (case k1 => k_asm); (case k2 => k_asm); (case k3 => k_asm); (case k4 => k_asm); (case k5 => k_asm); (case kK => first | exact rfl | assumption); (case kd => k_room); (case ku => k_units); (case h1 => k_mem); (case h2 => k_mem); (case h3 => assumption); (case h4 => assumption); (case h5 => assumption); (case h6 => assumption); (case h7 => assumption); (case h8 => assumption); (case h9 => assumption); (case h10 => first | assumption | omega); (case h11 => assumption); (case h12 => assumption); (case h13 => assumption); (case h14 => assumption); k_whole; intro q9 ta9 tb9 h9 tk9 F9 N9 l9; (try k_lt l9); (try dsimp only); (try k_fold))))
local macro_rules | `(tactic| walk_at "call ref") => `(tactic| (k_here; (with_reducible show wpAny _ _ (call (Value.ref 141) _) _ _ _); k_dflt (refine' c_logto_gt ?k1 ?k2 ?k3 ?k4 ?k5 ?kK ?kd ?ku ?h1 ?h2 ?h3 ?h4 ?h5 ?h6 ?h7 ?h8 ?h9 ?h10 ?h11 ?h12 ?_; (case k1 => k_asm); (case k2 => k_asm); (case k3 => k_asm); (case k4 => k_asm); (case k5 => k_asm); (case kK => first | exact rfl | assumption); (case kd => k_room); (case ku => k_units); (case h1 => k_mem); (case h2 => k_mem); (case h3 => assumption); (case h4 => assumption); (case h5 => assumption); (case h6 => assumption); (case h7 => assumption); (case h8 => assumption); (case h9 => assumption); (case h10 => first | assumption | omega); (case h11 => assumption); (case h12 => assumption); k_whole; intro q9 ta9 tb9 h9 tk9 F9 N9 l9; (try k_lt l9); (try dsimp only); (try k_fold))))
open PySem PySem.W PyProof.Rows PySem.Calls
theorem lt_big {p : Int} (h : p < sml) : p < big := by
  have e : sml ≤ big := by
    rw [sml_is, big_is]
    exact Int.ofNat_le.mpr (by decide +kernel)
  omega
section
variable {w : World} {mg mb : Str → Option Value} {p : Program} {loose : List Str} {mean : ExcName → Option Value} {news : List (Addr × Obj)}
  {dp un : Nat} {gd : Option (List Code)} {cn : Str} {cs : Scope} {a : Addr} {ccd : Value} {cl : List (Str × Addr)} {outer : List Env} {A₀ : Around} {base h₀ : Heap} {L : Addr} {m : Str → Option Value} {s : Shared} {Q E : Value → Shared → Prop}
theorem c_inv_gt {n d bp bq : Int} {x b : Addr} {t u t' u' : Tok} {k : Nat} (B : Below A₀ base outer h₀) (F : Fr h₀ L s.heap m) (X : (headT.heap_39 w.params).In h₀) (N : News h₀ L s.heap news) (T : Top p loose mean mg mb h₀) (hk : cs.kind = .function)
    (hdp : dp + 7 < recursionLimit) (hun : un + 210 < cLine) (hx : (x, tupO n d t u) ∈ news) (hb : (b, tupO bq bp t' u') ∈ news) (hn : n = bp ^ k) (hd : d = bq ^ k) (hk : k ≤ 4096) (hq : 1 ≤ bq) (hpq : bq < bp) (hp2 : bp < sml) (hq2 : bq < sml) (hd0 : 1 ≤ d) (hnd : d < n) (hn2 : n < big) (hg : Int.gcd bp bq = 1)
    (hret : (∀ (q : Addr) (t1 t2 : Tok) (h' : Heap) (tk' : Nat), Fr h₀ L h' m → News h₀ L h' ((q, tupO (0 - (k : Int)) 1 t1 t2) :: news) → (∀ p ∈ news, p.1 < q) → Q (.ref q) { s with heap := h', toks := tk' })) :
    wpAny (model PySem.Challenge.rw_pq1398_01.row.prog w) (ktrTop dp un gd cn cs L a ccd cl outer) (call (.ref 141) [.ref x, .ref b]) Q E s := by
  have hp3 := lt_big hp2
  have hq3 := lt_big hq2
  revert X
  k_fill
  intro X
  refine wpAny_call ?_
  k_dflt cell_enter
  k_steps
  all_goals (refine' hret _ _ _ _ _ ?eF ?eN ?eL; (case eF => k_asm); (case eN => first | k_asm | exact drop2 (by assumption) | exact dropB (by assumption)); (case eL => first | assumption | exact lt_tail (by assumption) | exact lt_tail2 (by assumption)))
theorem c_inv_lt {n d bp bq : Int} {x b : Addr} {t u t' u' : Tok} {k : Nat} (B : Below A₀ base outer h₀) (F : Fr h₀ L s.heap m) (X : (headT.heap_39 w.params).In h₀) (N : News h₀ L s.heap news) (T : Top p loose mean mg mb h₀) (hk : cs.kind = .function)
    (hdp : dp + 7 < recursionLimit) (hun : un + 210 < cLine) (hx : (x, tupO n d t u) ∈ news) (hb : (b, tupO bq bp t' u') ∈ news) (hd : d = bp ^ k) (hn : n = bq ^ k) (hk : k ≤ 4096) (hq : 1 ≤ bq) (hpq : bq < bp) (hp2 : bp < sml) (hq2 : bq < sml) (hn0 : 1 ≤ n) (hnd : n < d) (hd2 : d < big) (hn2 : n < big) (hgx : Int.gcd n d = 1) (hg : Int.gcd bp bq = 1)
    (hret : (∀ (q : Addr) (t1 t2 : Tok) (h' : Heap) (tk' : Nat), Fr h₀ L h' m → News h₀ L h' ((q, tupO (0 - (0 - (k : Int))) 1 t1 t2) :: news) → (∀ p ∈ news, p.1 < q) → Q (.ref q) { s with heap := h', toks := tk' })) :
    wpAny (model PySem.Challenge.rw_pq1398_01.row.prog w) (ktrTop dp un gd cn cs L a ccd cl outer) (call (.ref 141) [.ref x, .ref b]) Q E s := by
  have hp3 := lt_big hp2
  have hq3 := lt_big hq2
  revert X
  k_fill
  intro X
  refine wpAny_call ?_
  k_dflt cell_enter
  k_steps
  all_goals (refine' hret _ _ _ _ _ ?eF ?eN ?eL; (case eF => k_asm); (case eN => first | k_asm | exact drop2 (by assumption) | exact dropB (by assumption)); (case eL => first | assumption | exact lt_tail (by assumption) | exact lt_tail2 (by assumption)))
theorem c_inv_one {bp bq : Int} {x b : Addr} {t u t' u' : Tok} (B : Below A₀ base outer h₀) (F : Fr h₀ L s.heap m) (X : (headT.heap_39 w.params).In h₀) (N : News h₀ L s.heap news) (T : Top p loose mean mg mb h₀) (hk : cs.kind = .function)
    (hdp : dp + 7 < recursionLimit) (hun : un + 210 < cLine) (hx : (x, tupO 1 1 t u) ∈ news) (hb : (b, tupO bq bp t' u') ∈ news) (hq : 1 ≤ bq) (hpq : bq < bp) (hp2 : bp < sml) (hq2 : bq < sml) (hg : Int.gcd bp bq = 1)
    (hret : (∀ (q : Addr) (t1 t2 : Tok) (h' : Heap) (tk' : Nat), Fr h₀ L h' m → News h₀ L h' ((q, tupO (0 - 0) 1 t1 t2) :: news) → (∀ p ∈ news, p.1 < q) → Q (.ref q) { s with heap := h', toks := tk' })) :
    wpAny (model PySem.Challenge.rw_pq1398_01.row.prog w) (ktrTop dp un gd cn cs L a ccd cl outer) (call (.ref 141) [.ref x, .ref b]) Q E s := by
  have hp3 := lt_big hp2
  have hq3 := lt_big hq2
  revert X
  k_fill
  intro X
  refine wpAny_call ?_
  k_dflt cell_enter
  k_steps
  all_goals (refine' hret _ _ _ _ _ ?eF ?eN ?eL; (case eF => k_asm); (case eN => first | k_asm | exact drop2 (by assumption) | exact dropB (by assumption)); (case eL => first | assumption | exact lt_tail (by assumption) | exact lt_tail2 (by assumption)))
end
open PySem PySem.W PyProof.Rows PySem.Calls
local macro_rules | `(tactic| walk_at "call ref") => `(tactic| (k_here; (with_reducible show wpAny _ _ (call (Value.ref 141) _) _ _ _); k_dflt (refine' c_inv_one ?k1 ?k2 ?k3 ?k4 ?k5 ?kK ?kd ?ku ?h1 ?h2 ?h3 ?h4 ?h5 ?h6 ?h7 ?_; (case k1 => k_asm); (case k2 => k_asm); (case k3 => k_asm); (case k4 => k_asm); (case k5 => k_asm); (case kK => first | exact rfl | assumption); (case kd => k_room); (case ku => k_units); (case h1 => k_mem); (case h2 => k_mem); (case h3 => first | assumption | omega); (case h4 => first | assumption | omega); (case h5 => assumption); (case h6 => assumption); (case h7 => assumption); k_whole; intro q9 ta9 tb9 h9 tk9 F9 N9 l9; (try k_lt l9); (try dsimp only); (try k_fold))))
local macro_rules | `(tactic| walk_at "call ref") => `(tactic| (k_here; (with_reducible show wpAny _ _ (call (Value.ref 141) _) _ _ _); k_dflt (refine' c_inv_lt ?k1 ?k2 ?k3 ?k4 ?k5 ?kK ?kd ?ku ?h1 ?h2 ?h3 ?h4 ?h5 ?h6 ?h7 ?h8 ?h9 ?h10 ?h11 ?h12 ?h13 ?h14 ?h15 ?_; (case k1 => k_asm); (case k2 => k_asm); (case k3 => k_asm); (case k4 => k_asm); (case k5 => k_asm); (case kK => first | exact rfl | assumption); (case kd => k_room); (case ku => k_units); (case h1 => k_mem); (case h2 => k_mem); (case h3 => assumption); (case h4 => assumption); (case h5 => assumption); (case h6 => assumption); (case h7 => assumption); (case h8 => assumption); (case h9 => assumption); (case h10 => first | assumption | omega); (case h11 => assumption); (case h12 => assumption); (case h13 => assumption); (case h14 => assumption); (case h15 => assumption); k_whole; intro q9 ta9 tb9 h9 tk9 F9 N9 l9; (try k_lt l9); (try dsimp only); (try k_fold))))
local macro_rules | `(tactic| walk_at "call ref") => `(tactic| (k_here; (with_reducible show wpAny _ _ (call (Value.ref 141) _) _ _ _); k_dflt (refine' c_inv_gt ?k1 ?k2 ?k3 ?k4 ?k5 ?kK ?kd ?ku ?h1 ?h2 ?h3 ?h4 ?h5 ?h6 ?h7 ?h8 ?h9 ?h10 ?h11 ?h12 ?h13 ?_; (case k1 => k_asm); (case k2 => k_asm); (case k3 => k_asm); (case k4 => k_asm); (case k5 => k_asm); (case kK => first | exact rfl | assumption); (case kd => k_room); (case ku => k_units); (case h1 => k_mem); (case h2 => k_mem); (case h3 => assumption); (case h4 => assumption); (case h5 => assumption); (case h6 => assumption); (case h7 => assumption); (case h8 => assumption); (case h9 => assumption); (case h10 => first | assumption | omega); (case h11 => assumption); (case h12 => assumption); (case h13 => assumption); k_whole; intro q9 ta9 tb9 h9 tk9 F9 N9 l9; (try k_lt l9); (try dsimp only); (try k_fold))))
open PySem PySem.W PyProof.Rows PySem.Calls
section
variable {w : World} {mg mb : Str → Option Value} {p : Program} {loose : List Str} {mean : ExcName → Option Value} {news : List (Addr × Obj)}
  {dp un : Nat} {gd : Option (List Code)} {cn : Str} {cs : Scope} {a : Addr} {ccd : Value} {cl : List (Str × Addr)} {outer : List Env} {A₀ : Around} {base h₀ : Heap} {L : Addr} {m : Str → Option Value} {s : Shared} {Q E : Value → Shared → Prop}
theorem t_gt {n d bp bq : Int} {x b : Addr} {t u t' u' : Tok} {k : Nat} (B : Below A₀ base outer h₀) (F : Fr h₀ L s.heap m) (X : (headT.heap_39 w.params).In h₀) (N : News h₀ L s.heap news) (T : Top p loose mean mg mb h₀) (hk : cs.kind = .function)
    (hdp : dp + 8 < recursionLimit) (hun : un + 220 < cLine) (hx : (x, tupO n d t u) ∈ news) (hb : (b, tupO bp bq t' u') ∈ news) (hn : n = bp ^ k) (hd : d = bq ^ k) (hk : k ≤ 4096) (hq : 1 ≤ bq) (hpq : bq < bp) (hp2 : bp < sml) (hq2 : bq < sml) (hd0 : 1 ≤ d) (hnd : d < n) (hn2 : n < big)
    (hret : (∀ (q : Addr) (t1 t2 : Tok) (h' : Heap) (tk' : Nat), Fr h₀ L h' m → News h₀ L h' ((q, tupO (k : Int) 1 t1 t2) :: news) → (∀ p ∈ news, p.1 < q) → Q (.ref q) { s with heap := h', toks := tk' })) :
    wpAny (model PySem.Challenge.rw_pq1398_01.row.prog w) (ktrTop dp un gd cn cs L a ccd cl outer) (call (.ref 169) [.ref x, .ref b]) Q E s := by
  revert X
  k_fill
  intro X
  refine wpAny_call ?_
  k_dflt cell_enter
  k_steps
  all_goals (refine' hret _ _ _ _ _ ?eF ?eN ?eL; (case eF => k_asm); (case eN => first | k_asm | exact drop2 (by assumption) | exact dropB (by assumption)); (case eL => first | assumption | exact lt_tail (by assumption) | exact lt_tail2 (by assumption)))
theorem t_lt {n d bp bq : Int} {x b : Addr} {t u t' u' : Tok} {k : Nat} (B : Below A₀ base outer h₀) (F : Fr h₀ L s.heap m) (X : (headT.heap_39 w.params).In h₀) (N : News h₀ L s.heap news) (T : Top p loose mean mg mb h₀) (hk : cs.kind = .function)
    (hdp : dp + 8 < recursionLimit) (hun : un + 220 < cLine) (hx : (x, tupO n d t u) ∈ news) (hb : (b, tupO bp bq t' u') ∈ news) (hd : d = bp ^ k) (hn : n = bq ^ k) (hk : k ≤ 4096) (hq : 1 ≤ bq) (hpq : bq < bp) (hp2 : bp < sml) (hq2 : bq < sml) (hn0 : 1 ≤ n) (hnd : n < d) (hd2 : d < big) (hn2 : n < big) (hg : Int.gcd n d = 1)
    (hret : (∀ (q : Addr) (t1 t2 : Tok) (h' : Heap) (tk' : Nat), Fr h₀ L h' m → News h₀ L h' ((q, tupO (0 - (k : Int)) 1 t1 t2) :: news) → (∀ p ∈ news, p.1 < q) → Q (.ref q) { s with heap := h', toks := tk' })) :
    wpAny (model PySem.Challenge.rw_pq1398_01.row.prog w) (ktrTop dp un gd cn cs L a ccd cl outer) (call (.ref 169) [.ref x, .ref b]) Q E s := by
  revert X
  k_fill
  intro X
  refine wpAny_call ?_
  k_dflt cell_enter
  k_steps
  all_goals (refine' hret _ _ _ _ _ ?eF ?eN ?eL; (case eF => k_asm); (case eN => first | k_asm | exact drop2 (by assumption) | exact dropB (by assumption)); (case eL => first | assumption | exact lt_tail (by assumption) | exact lt_tail2 (by assumption)))
theorem t_one {bp bq : Int} {x b : Addr} {t u t' u' : Tok} (B : Below A₀ base outer h₀) (F : Fr h₀ L s.heap m) (X : (headT.heap_39 w.params).In h₀) (N : News h₀ L s.heap news) (T : Top p loose mean mg mb h₀) (hk : cs.kind = .function)
    (hdp : dp + 8 < recursionLimit) (hun : un + 220 < cLine) (hx : (x, tupO 1 1 t u) ∈ news) (hb : (b, tupO bp bq t' u') ∈ news) (hq : 1 ≤ bq) (hpq : bq < bp)
    (hret : (∀  (h' : Heap) (tk' : Nat), Fr h₀ L h' m → News h₀ L h' news → Q (.ref 49) { s with heap := h', toks := tk' })) :
    wpAny (model PySem.Challenge.rw_pq1398_01.row.prog w) (ktrTop dp un gd cn cs L a ccd cl outer) (call (.ref 169) [.ref x, .ref b]) Q E s := by
  revert X
  k_fill
  intro X
  refine wpAny_call ?_
  k_dflt cell_enter
  k_steps
  all_goals exact hret _ _ (by k_asm) (by k_asm)
theorem t_igt {n d bp bq : Int} {x b : Addr} {t u t' u' : Tok} {k : Nat} (B : Below A₀ base outer h₀) (F : Fr h₀ L s.heap m) (X : (headT.heap_39 w.params).In h₀) (N : News h₀ L s.heap news) (T : Top p loose mean mg mb h₀) (hk : cs.kind = .function)
    (hdp : dp + 8 < recursionLimit) (hun : un + 220 < cLine) (hx : (x, tupO n d t u) ∈ news) (hb : (b, tupO bq bp t' u') ∈ news) (hn : n = bp ^ k) (hd : d = bq ^ k) (hk : k ≤ 4096) (hq : 1 ≤ bq) (hpq : bq < bp) (hp2 : bp < sml) (hq2 : bq < sml) (hd0 : 1 ≤ d) (hnd : d < n) (hn2 : n < big) (hg : Int.gcd bp bq = 1)
    (hret : (∀ (q : Addr) (t1 t2 : Tok) (h' : Heap) (tk' : Nat), Fr h₀ L h' m → News h₀ L h' ((q, tupO (0 - (k : Int)) 1 t1 t2) :: news) → (∀ p ∈ news, p.1 < q) → Q (.ref q) { s with heap := h', toks := tk' })) :
    wpAny (model PySem.Challenge.rw_pq1398_01.row.prog w) (ktrTop dp un gd cn cs L a ccd cl outer) (call (.ref 169) [.ref x, .ref b]) Q E s := by
  revert X
  k_fill
  intro X
  refine wpAny_call ?_
  k_dflt cell_enter
  k_steps
  all_goals (refine' hret _ _ _ _ _ ?eF ?eN ?eL; (case eF => k_asm); (case eN => first | k_asm | exact drop2 (by assumption) | exact dropB (by assumption)); (case eL => first | assumption | exact lt_tail (by assumption) | exact lt_tail2 (by assumption)))
theorem t_ilt {n d bp bq : Int} {x b : Addr} {t u t' u' : Tok} {k : Nat} (B : Below A₀ base outer h₀) (F : Fr h₀ L s.heap m) (X : (headT.heap_39 w.params).In h₀) (N : News h₀ L s.heap news) (T : Top p loose mean mg mb h₀) (hk : cs.kind = .function)
    (hdp : dp + 8 < recursionLimit) (hun : un + 220 < cLine) (hx : (x, tupO n d t u) ∈ news) (hb : (b, tupO bq bp t' u') ∈ news) (hd : d = bp ^ k) (hn : n = bq ^ k) (hk : k ≤ 4096) (hq : 1 ≤ bq) (hpq : bq < bp) (hp2 : bp < sml) (hq2 : bq < sml) (hn0 : 1 ≤ n) (hnd : n < d) (hd2 : d < big) (hn2 : n < big) (hgx : Int.gcd n d = 1) (hg : Int.gcd bp bq = 1)
    (hret : (∀ (q : Addr) (t1 t2 : Tok) (h' : Heap) (tk' : Nat), Fr h₀ L h' m → News h₀ L h' ((q, tupO (0 - (0 - (k : Int))) 1 t1 t2) :: news) → (∀ p ∈ news, p.1 < q) → Q (.ref q) { s with heap := h', toks := tk' })) :
    wpAny (model PySem.Challenge.rw_pq1398_01.row.prog w) (ktrTop dp un gd cn cs L a ccd cl outer) (call (.ref 169) [.ref x, .ref b]) Q E s := by
  revert X
  k_fill
  intro X
  refine wpAny_call ?_
  k_dflt cell_enter
  k_steps
  all_goals (refine' hret _ _ _ _ _ ?eF ?eN ?eL; (case eF => k_asm); (case eN => first | k_asm | exact drop2 (by assumption) | exact dropB (by assumption)); (case eL => first | assumption | exact lt_tail (by assumption) | exact lt_tail2 (by assumption)))
theorem t_ione {bp bq : Int} {x b : Addr} {t u t' u' : Tok} (B : Below A₀ base outer h₀) (F : Fr h₀ L s.heap m) (X : (headT.heap_39 w.params).In h₀) (N : News h₀ L s.heap news) (T : Top p loose mean mg mb h₀) (hk : cs.kind = .function)
    (hdp : dp + 8 < recursionLimit) (hun : un + 220 < cLine) (hx : (x, tupO 1 1 t u) ∈ news) (hb : (b, tupO bq bp t' u') ∈ news) (hq : 1 ≤ bq) (hpq : bq < bp) (hp2 : bp < sml) (hq2 : bq < sml) (hg : Int.gcd bp bq = 1)
    (hret : (∀ (q : Addr) (t1 t2 : Tok) (h' : Heap) (tk' : Nat), Fr h₀ L h' m → News h₀ L h' ((q, tupO (0 - 0) 1 t1 t2) :: news) → (∀ p ∈ news, p.1 < q) → Q (.ref q) { s with heap := h', toks := tk' })) :
    wpAny (model PySem.Challenge.rw_pq1398_01.row.prog w) (ktrTop dp un gd cn cs L a ccd cl outer) (call (.ref 169) [.ref x, .ref b]) Q E s := by
  revert X
  k_fill
  intro X
  refine wpAny_call ?_
  k_dflt cell_enter
  k_steps
  all_goals (refine' hret _ _ _ _ _ ?eF ?eN ?eL; (case eF => k_asm); (case eN => first | k_asm | exact drop2 (by assumption) | exact dropB (by assumption)); (case eL => first | assumption | exact lt_tail (by assumption) | exact lt_tail2 (by assumption)))
end
end
section
open PySem PySem.W PyProof.Rows PySem.Calls
structure TmInv (bp bq n : Int) (c : Nat) (U V : Int) : Prop where
  u : U = bp ^ c
  v : V = bq ^ c
  u0 : 0 ≤ U
  v0 : 0 ≤ V
  vu : V ≤ U
  low : ∀ j : Nat, j < c → bp ^ j < n
theorem tm_start {bp bq n : Int} : TmInv bp bq n 0 1 1 := ⟨by rw [Int.pow_zero], by rw [Int.pow_zero], by decide, by decide, by decide, fun j hj => absurd hj (Nat.not_lt_zero _)⟩
theorem tm_turn {bp bq n U V : Int} {c : Nat} (hq : 1 ≤ bq) (hpq : bq < bp) (h : TmInv bp bq n c U V) (ht : U < n) : TmInv bp bq n (c + 1) (U * bp) (V * bq) := by
  refine ⟨by rw [h.u, Int.pow_succ], by rw [h.v, Int.pow_succ], Int.mul_nonneg h.u0 (by omega), Int.mul_nonneg h.v0 (by omega), ?_, fun j hj => ?_⟩
  · exact Int.mul_le_mul h.vu (by omega) (by omega) h.u0
  · by_cases e : j = c
    · rw [e, ← h.u]; exact ht
    · exact h.low j (by omega)
theorem tm_less {bp bq n U V : Int} {c : Nat} (hq : 1 ≤ bq) (hpq : bq < bp) (h : TmInv bp bq n c U V) (ht : U < n) : (n - U * bp).toNat < (n - U).toNat := by
  have := ipow_step (show 2 ≤ bp by omega) c
  rw [Int.pow_succ, ← h.u] at this
  omega
theorem tm_no {bp bq n d U V : Int} {c : Nat} (hq : 1 ≤ bq) (hpq : bq < bp) (h : TmInv bp bq n c U V) (ht : ¬ U < n) (hne : ¬ (U = n ∧ V = d)) : ∀ k : Nat, ¬ (n = bp ^ k ∧ d = bq ^ k) := fun k ⟨hn, hd⟩ => by
  have h2 : 2 ≤ bp := by omega
  have h3 : k ≤ c := ipow_le h2 (by rw [← hn, ← h.u]; omega)
  by_cases e : k = c
  · subst e
    exact hne ⟨h.u.trans hn.symm, h.v.trans hd.symm⟩
  · have := h.low k (by omega)
    omega
theorem dropA {h₀ h : Heap} {L : Addr} {a : Addr × Obj} {news : List (Addr × Obj)} (N : News h₀ L h (a :: news)) : News h₀ L h news := fun p hp => N p (.tail _ hp)
theorem drop_mem {a b : Addr × Obj} {l : List (Addr × Obj)} : ∀ p ∈ a :: l, p ∈ a :: b :: l := fun p hp => by
  rcases List.mem_cons.mp hp with rfl | hp
  · exact .head _
  · exact .tail _ (.tail _ hp)
section
variable {w : World} {mg mb : Str → Option Value} {p : Program} {loose : List Str} {mean : ExcName → Option Value} {news : List (Addr × Obj)}
  {dp un : Nat} {gd : Option (List Code)} {cn : Str} {cs : Scope} {a : Addr} {ccd : Value} {cl : List (Str × Addr)} {outer : List Env} {A₀ : Around} {base h₀ : Heap} {L : Addr} {m : Str → Option Value} {s : Shared} {Q E : Value → Shared → Prop}
local macro_rules | `(tactic| walk_at "binaryOp Mult int int") => `(tactic| (k_here; (with_reducible refine' mul_int ?_ (mulOk_bs ?a1 ?a2 ?a3 ?a4)); (case a1 => omega); (case a2 => omega); (case a3 => omega); (case a4 => omega)))
theorem c_times {n d bp bq : Int} {x b : Addr} {t u t' u' : Tok} (B : Below A₀ base outer h₀) (F : Fr h₀ L s.heap m) (X : (headT.heap_39 w.params).In h₀) (N : News h₀ L s.heap news) (T : Top p loose mean mg mb h₀) (hk : cs.kind = .function)
    (hdp : dp + 2 < recursionLimit) (hun : un + 100 < cLine) (hx : (x, tupO n d t u) ∈ news) (hb : (b, tupO bp bq t' u') ∈ news) (hq : 1 ≤ bq) (hpq : bq < bp) (hp2 : bp < sml) (hq2 : bq < sml) (hn2 : n < big)
    (hret : ∀ c : Nat, n = bp ^ c → d = bq ^ c → (∀ (q : Addr) (t1 t2 : Tok) (h' : Heap) (tk' : Nat), Fr h₀ L h' m → News h₀ L h' ((q, tupO (c : Int) 1 t1 t2) :: news) → (∀ p ∈ news, p.1 < q) → Q (.ref q) { s with heap := h', toks := tk' }))
    (hret2 : (∀ k : Nat, ¬ (n = bp ^ k ∧ d = bq ^ k)) → (∀ (tk : Tok) (h' : Heap) (tk' : Nat), Fr h₀ L h' m → News h₀ L h' news → Q (.str (Str.ofString "result is not exact") tk) { s with heap := h', toks := tk' })) :
    wpAny (model PySem.Challenge.rw_pq1398_01.row.prog w) (ktrTop dp un gd cn cs L a ccd cl outer) (call (.ref 176) [.ref x, .ref b]) Q E s := by
  revert X
  k_fill
  intro X
  refine wpAny_call ?_
  k_dflt cell_enter
  repeat' (first | (k_unfold; (try dsimp only)) | (k_end; wrow_close) | ((fail_if_success (with_reducible show wpAny _ _ (exec (Stmt.While _ _ _ _) _) _ _ _)); walk1) | (dsimp only; (fail_if_success (with_reducible show wpAny _ _ (exec (Stmt.While _ _ _ _) _) _ _ _)); walk1) | ((fail_if_success (with_reducible show wpAny _ _ (exec (Stmt.While _ _ _ _) _) _ _ _)); leave1; try dsimp only))
  rename Fr _ _ _ _ => lF
  rename News _ _ _ _ => lN
  with_unfolding_all refine' ksw_while (σ := Nat × Addr × Int × Int × Tok × Tok × Tok) (fun c => (c.2.1, tupO c.2.2.1 c.2.2.2.1 c.2.2.2.2.1 c.2.2.2.2.2.1) :: news) (fun c => [(Str.ofString "so_often", .int (c.1 : Int) c.2.2.2.2.2.2), (Str.ofString "power_now", .ref c.2.1)]) (fun c => ∀ p ∈ news, p.1 < c.2.1) [] (fun c => TmInv bp bq n c.1 c.2.2.1 c.2.2.2.1) (fun c => (n - c.2.2.1).toNat) (0, _, 1, 1, _, _, _) lF ?kn ?kf ?kk tm_start ?_ ?hE
  (case kn => with_unfolding_all exact lN)
  (case hE => first | passes_own | with_unfolding_all passes_own)
  (case kf => assumption)
  (case kk => (intro p hp; simp only [List.mem_cons, List.not_mem_nil, or_false] at hp; rcases hp with rfl | rfl <;> rfl))
  intro c u9 h9 tk9 hf9 hp9 F9 N9
  obtain ⟨cn, a9, U, V, t1, t2, tkk⟩ := c
  dsimp only [kstB] at hf9 hp9 F9 N9 ⊢
  have hu0 := hp9.u0
  have hv0 := hp9.v0
  have hvu := hp9.vu
  clear lF lN
  (try k_fold)
  repeat' (first | (k_unfold; (try dsimp only)) | (k_end; wrow_close) | ((fail_if_success (with_reducible show KswEnd _ _ _ _ _ _ _ _ _ _ _ _)); walk1) | (dsimp only; (fail_if_success (with_reducible show KswEnd _ _ _ _ _ _ _ _ _ _ _ _)); walk1) | ((fail_if_success (with_reducible show KswEnd _ _ _ _ _ _ _ _ _ _ _ _)); leave1; try dsimp only))
  · rename Fr _ _ _ _ => fE
    rename News _ _ _ _ => nE
    with_unfolding_all refine' ksw_end (cn + 1, _, U * bp, V * bq, _, _, _) fE nE ?e1 ?e2 ?e3 ?e4 ?e5 ?e6
    (case e1 => with_unfolding_all exact drop_mem)
    (case e2 => exact lt_tail (by assumption))
    (case e3 => (intro p hp; simp only [List.mem_cons, List.not_mem_nil, or_false] at hp; rcases hp with rfl | rfl <;> rfl))
    (case e4 => (intro z h2 h3; have h4 := h2 _ (.head _); have h5 := h2 _ (.tail _ (.head _)); dsimp only at h4 h5; simp only [h4, h5, if_false, kstB, List.contains_nil, Bool.false_eq_true]))
    (case e5 => exact tm_turn hq hpq hp9 (by assumption))
    (case e6 => exact tm_less hq hpq hp9 (by assumption))
  · refine' hret cn (Eq.trans (And.left (by assumption : U = n ∧ V = d)).symm hp9.u) (Eq.trans (And.right (by assumption : U = n ∧ V = d)).symm hp9.v) _ _ _ _ _ ?f1 ?f2 ?f3
    (case f1 => k_asm)
    (case f2 => exact drop2 (by assumption))
    (case f3 => exact lt_tail (by assumption))
  · refine' hret2 (tm_no hq hpq hp9 (by assumption) (by assumption)) _ _ _ ?g1 ?g2
    (case g1 => k_asm)
    (case g2 => exact dropA (by assumption))
end
end
section
open PySem PySem.W PyProof.Rows PySem.Calls
theorem none_ne {D : Addr} : ∀ p ∈ ([] : List (Addr × Obj)), p.1 ≠ D := fun _ h => nomatch h
theorem lt_sml {n : Int} (h : n < 1000) : n < sml := by
  rw [sml_is]
  omega
structure BaseOk (p q : Int) : Prop where
  q1 : 1 ≤ q
  pq : q < p
  p2 : p < sml
  q2 : q < sml
  g : Int.gcd p q = 1
theorem base_least {tv bv N D : Int} (h : Least tv bv N D) (h1 : bv < tv) (h2 : tv < 1000) : BaseOk N D :=
  ⟨h.d0, h.gt h1, lt_sml (Int.lt_of_le_of_lt h.n1 h2), lt_sml (Int.lt_of_le_of_lt h.d1 (Int.lt_trans h1 h2)), h.g⟩
theorem gcd_succ (q : Int) : Int.gcd (q + 1) q = 1 := by
  have := Int.gcd_add_self_left (m := q) (n := 1)
  rw [Int.add_comm]
  simp
theorem ten_pow {c : Nat} (h : c ≤ 60) : 1 ≤ (10 : Int) ^ c ∧ (10 : Int) ^ c + 1 < sml := by
  have h1 : 10 ^ c ≤ 10 ^ 60 := Nat.pow_le_pow_right (by decide) h
  have h2 : 1 ≤ 10 ^ c := Nat.one_le_pow _ _ (by decide)
  have h3 : (10 ^ 60 + 1 : Nat) < 2 ^ 200 := by decide +kernel
  have e : (10 : Int) ^ c = ((10 ^ c : Nat) : Int) := by rw [Int.natCast_pow]; rfl
  rw [e, sml_is]
  refine ⟨by omega, ?_⟩
  exact_mod_cast Nat.lt_of_le_of_lt (Nat.add_le_add_right h1 1) h3
theorem base_ten {c : Nat} (h : c ≤ 60) : BaseOk (10 ^ c + 1) (10 ^ c) := by
  obtain ⟨h1, h2⟩ := ten_pow h
  exact ⟨h1, by omega, h2, by omega, gcd_succ _⟩
/-- a cut: what a statement leaves behind -/
def CutEnd {σ : Type} (h₀ : Heap) (L : Addr) (s : Shared) (P : σ → Prop) (Led : σ → List (Addr × Obj)) (ps : σ → List (Str × Value)) (f : Flow) (s' : Shared) : Prop :=
  f = .next ∧ ∃ (c : σ) (h' : Heap) (tk : Nat) (m' : Str → Option Value), s' = { s with heap := h', toks := tk } ∧ P c ∧ Fr h₀ L h' (kstB m' (ps c)) ∧ News h₀ L h' (Led c)
section
variable {M : Model} {A : Around} {E : Value → Shared → Prop} {s : Shared} {h₀ : Heap} {L : Addr} {m : Str → Option Value} {news : List (Addr × Obj)}
theorem kst_self {m : Str → Option Value} : ∀ {ps : List (Str × Value)}, (∀ p ∈ ps, m p.1 = some p.2) → kstB m ps = m := fun h => by
  funext y
  exact kstB_eq h fun _ => rfl
theorem cut_end {σ : Type} {P : σ → Prop} {Led : σ → List (Addr × Obj)} {ps : σ → List (Str × Value)} {h' : Heap} {tk : Nat} {m' : Str → Option Value} {news' : List (Addr × Obj)} (c : σ) (F : Fr h₀ L h' m') (N : News h₀ L h' news') (hn : ∀ p ∈ Led c, p ∈ news')
    (hk : ∀ p ∈ ps c, m' p.1 = some p.2) (hp : P c) : CutEnd h₀ L s P Led ps .next { s with heap := h', toks := tk } :=
  ⟨rfl, c, h', tk, m', rfl, hp, by rw [kst_self hk]; exact F, fun p hp => N p (hn p hp)⟩
theorem cut_ {σ : Type} {t : Sem Flow} {Q : Flow → Shared → Prop} (_F : Fr h₀ L s.heap m) (P : σ → Prop) (Led : σ → List (Addr × Obj)) (ps : σ → List (Str × Value)) (piece : wpAny M A t (CutEnd h₀ L s P Led ps) E s)
    (rest : ∀ (c : σ) (h' : Heap) (tk : Nat) (m' : Str → Option Value), P c → Fr h₀ L h' (kstB m' (ps c)) → News h₀ L h' (Led c) → Q .next { s with heap := h', toks := tk }) : wpAny M A t Q E s :=
  wpAny_mono piece (fun f s' h => by
    obtain ⟨rfl, c, h', tk, m', rfl, hp, F, N⟩ := h
    exact rest c h' tk m' hp F N) fun _ _ h => h
end
theorem swap_mem {a b : Addr × Obj} : ∀ p ∈ [a, b], p ∈ [b, a] := fun p hp => by
  rcases List.mem_cons.mp hp with rfl | hp
  · exact .tail _ (.head _)
  · rw [List.mem_singleton.mp hp]
    exact .head _
theorem ne_l {D q : Addr} {o : Obj} (h : ∀ p ∈ [(D, o)], p.1 < q) : q ≠ D := Nat.ne_of_gt (h _ (.head _))
def SameEnd (h₀ : Heap) (L : Addr) (s : Shared) (m : Str → Option Value) (news : List (Addr × Obj)) (f : Flow) (s' : Shared) : Prop :=
  f = .next ∧ ∃ (h' : Heap) (tk : Nat), s' = { s with heap := h', toks := tk } ∧ Fr h₀ L h' m ∧ News h₀ L h' news
theorem same_end {h₀ : Heap} {L : Addr} {s : Shared} {m : Str → Option Value} {news news' : List (Addr × Obj)} {h' : Heap} {tk : Nat} (F : Fr h₀ L h' m) (N : News h₀ L h' news') (hn : ∀ p ∈ news, p ∈ news') :
    SameEnd h₀ L s m news .next { s with heap := h', toks := tk } := ⟨rfl, h', tk, rfl, F, fun p hp => N p (hn p hp)⟩
theorem cut_same {M : Model} {A : Around} {E : Value → Shared → Prop} {h₀ : Heap} {L : Addr} {s : Shared} {m : Str → Option Value} {news : List (Addr × Obj)} {t : Sem Flow} {Q : Flow → Shared → Prop} (_F : Fr h₀ L s.heap m) (_N : News h₀ L s.heap news) (piece : wpAny M A t (SameEnd h₀ L s m news) E s)
    (rest : ∀ (h' : Heap) (tk : Nat), Fr h₀ L h' m → News h₀ L h' news → Q .next { s with heap := h', toks := tk }) : wpAny M A t Q E s :=
  wpAny_mono piece (fun f s' h => by
    obtain ⟨rfl, h', tk, rfl, F, N⟩ := h
    exact rest h' tk F N) fun _ _ h => h
theorem nat_of {v : Int} (h : 0 ≤ v) : ∃ k : Nat, v = (k : Int) := ⟨v.toNat, (Int.toNat_of_nonneg h).symm⟩
theorem nat_lt {k : Nat} (h : (k : Int) < 21) : k ≤ 20 := by omega
theorem toNat_add {k j : Nat} : ((k : Int) + (j : Int)).toNat = k + j := by omega
theorem pow_big {p : Int} {k : Nat} (h0 : 0 ≤ p) (h : p < sml) (hk : k ≤ 40) : p ^ k < big := by
  rw [sml_is] at h
  have e : p = ((p.toNat : Nat) : Int) := (Int.toNat_of_nonneg h0).symm
  have h1 : p.toNat < 2 ^ 200 := by omega
  have h2 : p.toNat ^ k ≤ (2 ^ 200) ^ k := Nat.pow_le_pow_left (Nat.le_of_lt h1) k
  have h3 : (2 ^ 200) ^ k ≤ (2 ^ 200) ^ 40 := Nat.pow_le_pow_right (by decide) hk
  have h4 : ((2 ^ 200) ^ 40 : Nat) < 2 ^ 8900 := by
    rw [← Nat.pow_mul]
    exact Nat.pow_lt_pow_right (by decide) (by decide)
  rw [big_is, e, ← Int.natCast_pow]
  exact Int.ofNat_lt.mpr (Nat.lt_of_le_of_lt (Nat.le_trans h2 h3) h4)
theorem ipow_less {p q : Int} (hq : 1 ≤ q) (hpq : q < p) : ∀ k : Nat, q ^ (k + 1) < p ^ (k + 1)
  | 0 => by rw [Int.pow_succ, Int.pow_succ, Int.pow_zero, Int.pow_zero]; omega
  | k + 1 => by
    have h := ipow_less hq hpq k
    have h1 := ipow_pos hq (k + 1)
    rw [Int.pow_succ q (k + 1), Int.pow_succ p (k + 1)]
    have h2 : q ^ (k + 1) * q < q ^ (k + 1) * p := Int.mul_lt_mul_of_pos_left hpq (by omega)
    have h3 : q ^ (k + 1) * p ≤ p ^ (k + 1) * p := Int.mul_le_mul_of_nonneg_right (by omega) (by omega)
    omega
theorem pw_facts {p q n d : Int} {k : Nat} (h : BaseOk p q) (hk : k ≤ 40) (hn : n = p ^ k) (hd : d = q ^ k) :
    k ≤ 4096 ∧ 1 ≤ n ∧ 1 ≤ d ∧ n < big ∧ d < big ∧ Int.gcd n d = 1 ∧ Int.gcd d n = 1 ∧ (k ≠ 0 → d < n) := by
  have h1 := h.q1
  have h2 := h.pq
  have g1 : Int.gcd n d = 1 := by rw [hn, hd]; exact gcd_pow h.g k
  refine ⟨by omega, by rw [hn]; exact ipow_pos (by omega) k, by rw [hd]; exact ipow_pos h1 k, by rw [hn]; exact pow_big (by omega) h.p2 hk, by rw [hd]; exact pow_big (by omega) h.q2 hk, g1, by rw [Int.gcd_comm]; exact g1, fun hk0 => ?_⟩
  obtain ⟨j, rfl⟩ := Nat.exists_eq_succ_of_ne_zero hk0
  rw [hn, hd]
  exact ipow_less h1 h2 j
theorem reord {h₀ h : Heap} {L D b x y : Addr} {oc ob ox oy : Obj} (N : News h₀ L h [(y, oy), (x, ox), (D, oc), (b, ob)]) (h0 : b ≠ D) (h1 : @LT.lt Nat _ D x ∧ @LT.lt Nat _ b x) (h2 : @LT.lt Nat _ x y ∧ @LT.lt Nat _ D y ∧ @LT.lt Nat _ b y) :
    News h₀ L h [(D, oc), (b, ob), (x, ox), (y, oy)] ∧ ∀ p ∈ [(b, ob), (x, ox), (y, oy)], p.1 ≠ D := by
  refine ⟨fun p hp => N p ?_, fun p hp => ?_⟩
  · simp only [List.mem_cons, List.not_mem_nil, or_false] at hp ⊢
    rcases hp with h | h | h | h
    · exact .inr (.inr (.inl h))
    · exact .inr (.inr (.inr h))
    · exact .inr (.inl h)
    · exact .inl h
  · simp only [List.mem_cons, List.not_mem_nil, or_false] at hp
    rcases hp with h | h | h
    · rw [h]; exact h0
    · rw [h]; exact Nat.ne_of_gt h1.1
    · rw [h]; exact Nat.ne_of_gt h2.2.1
theorem mid_all : ∃ b : Int, b = ((2 ^ 4096 : Nat) : Int) := ⟨_, rfl⟩
/-- a bound for the parts of what stands aside -/
noncomputable def mid : Int := mid_all.choose
theorem mid_is : mid = ((2 ^ 4096 : Nat) : Int) := mid_all.choose_spec
theorem mid_le : mid ≤ big := by
  rw [mid_is, big_is]
  exact Int.ofNat_le.mpr (Nat.pow_le_pow_right (by decide) (by decide))
theorem mid_big {n : Int} (h : n < mid) : n < big := Int.lt_of_lt_of_le h mid_le
theorem least_facts {tv bv N D : Int} (h : Least tv bv N D) (ht : tv < mid) (hb : bv < mid) : N < big ∧ D < big ∧ 1 ≤ D ∧ Int.gcd N D = 1 ∧ Int.gcd D N = 1 ∧ N < mid := by
  have h1 := h.n1
  have h2 := h.d1
  exact ⟨mid_big (Int.lt_of_le_of_lt h1 ht), mid_big (Int.lt_of_le_of_lt h2 hb), h.d0, h.g, by rw [Int.gcd_comm]; exact h.g, Int.lt_of_le_of_lt h1 ht⟩
theorem exp_le {p N : Int} {c : Nat} (hn : N = p ^ c) (hp : 2 ≤ p) (h : N < mid) : c ≤ 4096 := by
  have h1 : (2 : Int) ^ c ≤ p ^ c := by
    have e : p = ((p.toNat : Nat) : Int) := (Int.toNat_of_nonneg (by omega)).symm
    have h2 : 2 ≤ p.toNat := by omega
    have h3 : 2 ^ c ≤ p.toNat ^ c := Nat.pow_le_pow_left h2 c
    rw [e, ← Int.natCast_pow]
    have e2 : ((2 : Int) ^ c) = ((2 ^ c : Nat) : Int) := by rw [Int.natCast_pow]; rfl
    rw [e2]
    exact Int.ofNat_le.mpr h3
  have e2 : ((2 : Int) ^ c) = ((2 ^ c : Nat) : Int) := by rw [Int.natCast_pow]; rfl
  rw [e2, ← hn] at h1
  rw [mid_is] at h
  have h4 : 2 ^ c < 2 ^ 4096 := Int.ofNat_lt.mp (Int.lt_of_le_of_lt h1 h)
  exact Nat.le_of_lt ((Nat.pow_lt_pow_iff_right (by decide)).mp h4)
def TurnEnd (h₀ : Heap) (L : Addr) (s : Shared) (ps : List (Str × Value)) (news : List (Addr × Obj)) (f : Flow) (s' : Shared) : Prop :=
  f = .next ∧ ∃ (h' : Heap) (tk : Nat) (m' : Str → Option Value), s' = { s with heap := h', toks := tk } ∧ Fr h₀ L h' (kstB m' ps) ∧ News h₀ L h' news
theorem turn_end {h₀ : Heap} {L : Addr} {s : Shared} {m : Str → Option Value} {ps : List (Str × Value)} {news news' : List (Addr × Obj)} {h' : Heap} {tk : Nat} (F : Fr h₀ L h' m) (N : News h₀ L h' news') (hn : ∀ p ∈ news, p ∈ news') (hk : ∀ p ∈ ps, m p.1 = some p.2) :
    TurnEnd h₀ L s ps news .next { s with heap := h', toks := tk } := ⟨rfl, h', tk, m, rfl, by rw [kst_self hk]; exact F, fun p hp => N p (hn p hp)⟩
theorem cut_turn {M : Model} {A : Around} {E : Value → Shared → Prop} {h₀ : Heap} {L : Addr} {s : Shared} {ps : List (Str × Value)} {news : List (Addr × Obj)} {t : Sem Flow} {Q : Flow → Shared → Prop} (piece : wpAny M A t (TurnEnd h₀ L s ps news) E s)
    (rest : ∀ (h' : Heap) (tk : Nat) (m' : Str → Option Value), Fr h₀ L h' (kstB m' ps) → News h₀ L h' news → Q .next { s with heap := h', toks := tk }) : wpAny M A t Q E s :=
  wpAny_mono piece (fun f s' h => by
    obtain ⟨rfl, h', tk, m', rfl, F, N⟩ := h
    exact rest h' tk m' F N) fun _ _ h => h
theorem turn_intro {M : Model} {A : Around} {E : Value → Shared → Prop} {h₀ : Heap} {L : Addr} {s : Shared} {m : Str → Option Value} {t : Sem Flow} {Q : Flow → Shared → Prop} (_F : Fr h₀ L s.heap m) (C : Heap → Addr → Model → Around → Sem Flow → (Value → Shared → Prop) → Prop)
    (turn : C h₀ L M A t E) (rest : C h₀ L M A t E → wpAny M A t Q E s) : wpAny M A t Q E s := rest turn
theorem fr_ob {h₀ h : Heap} {L o b : Addr} {m : Str → Option Value} (F : Fr h₀ L h m) (h1 : m (Str.ofString "other") = some (.ref o)) (h2 : m (Str.ofString "base") = some (.ref b)) :
    Fr h₀ L h (fun y => if y = Str.ofString "other" then some (.ref o) else if y = Str.ofString "base" then some (.ref b) else m y) := by
  have e : (fun y => if y = Str.ofString "other" then some (.ref o) else if y = Str.ofString "base" then some (.ref b) else m y) = m := by
    funext y
    by_cases e1 : y = Str.ofString "other"
    · rw [if_pos e1, e1, h1]
    · rw [if_neg e1]
      by_cases e2 : y = Str.ofString "base"
      · rw [if_pos e2, e2, h2]
      · rw [if_neg e2]
  rw [e]
  exact F
theorem step_facts {v d : Int} (h0 : 0 ≤ v) (h3 : v < 3) (hd : 1 ≤ d) : (1 + v) * d ≤ 3 * d ∧ 0 ≤ (1 + v) * d :=
  ⟨Int.mul_le_mul_of_nonneg_right (by omega) (by omega), Int.mul_nonneg (by omega) (by omega)⟩
theorem side_facts {p q n d : Int} {k : Nat} (h : BaseOk p q) (hk : k ≤ 20) (hn : n = p ^ k) (hd : d = q ^ k) : 8 * n < mid ∧ d ≤ n := by
  have h1 := h.q1
  have h2 := h.pq
  have h0 := h.p2
  constructor
  · rw [sml_is] at h0
    have e : p = ((p.toNat : Nat) : Int) := (Int.toNat_of_nonneg (by omega)).symm
    have g1 : p.toNat < 2 ^ 200 := by omega
    have g2 : p.toNat ^ k ≤ (2 ^ 200) ^ k := Nat.pow_le_pow_left (Nat.le_of_lt g1) k
    have g3 : (2 ^ 200) ^ k ≤ (2 ^ 200) ^ 20 := Nat.pow_le_pow_right (by decide) hk
    have g4 : (8 * (2 ^ 200) ^ 20 : Nat) < 2 ^ 4096 := by
      rw [← Nat.pow_mul, show (8 : Nat) = 2 ^ 3 from rfl, ← Nat.pow_add]
      exact Nat.pow_lt_pow_right (by decide) (by decide)
    have g5 : 8 * p.toNat ^ k < 2 ^ 4096 := Nat.lt_of_le_of_lt (Nat.mul_le_mul_left 8 (Nat.le_trans g2 g3)) g4
    rw [hn, mid_is, e, ← Int.natCast_pow]
    exact_mod_cast g5
  · rw [hn, hd]
    cases k with
    | zero => rw [Int.pow_zero, Int.pow_zero]; exact Int.le_refl _
    | succ j => exact Int.le_of_lt (ipow_less h1 h2 j)
theorem ne_one {D b : Addr} {o : Obj} (h : b ≠ D) : ∀ p ∈ [(b, o)], p.1 ≠ D := fun p hp => by
  rw [List.mem_singleton.mp hp]
  exact h
local macro_rules | `(tactic| walk_at "call ref") => `(tactic| (k_here; (with_reducible show wpAny _ _ (call (Value.ref 148) [Value.ref _]) _ _ _); k_dflt (refine' c_coins ?k1 ?k2 ?k3 ?k4 ?k5 ?kK ?hl ?hi ?hn ?kd ?ku ?_; (case k1 => k_asm); (case k2 => k_asm); (case k3 => k_asm); (case k4 => k_asm); (case k5 => k_asm); (case kK => first | exact rfl | assumption); (case hl => assumption); (case hi => assumption); (case hn => omega); (case kd => k_room); (case ku => k_units); k_whole; intro us9 ks9 n9 i9 z9 D9 h9 tk9 F9 N9 l9; (try dsimp only); (try k_fold))))
local macro_rules | `(tactic| walk_at "call ref") => `(tactic| (k_here; (with_reducible show wpAny _ _ (call (Value.ref 155) [Value.ref _, Value.int _ _]) _ _ _); k_dflt (refine' c_coin ?k1 ?k2 ?k3 ?k4 ?k5 ?kK ?kd ?ku ?h1 ?h2 ?h3 ?h4 ?_; (case k1 => k_asm); (case k2 => k_asm); (case k3 => k_asm); (case k4 => k_asm); (case k5 => k_asm); (case kK => first | exact rfl | assumption); (case kd => k_room); (case ku => k_units); (case h1 => assumption); (case h2 => assumption); (case h3 => first | assumption | exact none_ne); (case h4 => decide); k_whole; intro v9 us9 ks9 n9 lo9 hi9 i9 z9 t9 h9 tk9 F9 N9; (try dsimp only); (try k_fold))))
local macro_rules | `(tactic| walk_at "call ref") => `(tactic| (k_here; (with_reducible show wpAny _ _ (call (Value.ref 162) [Value.int _ _, Value.int _ _]) _ _ _); k_dflt (refine' c_least ?k1 ?k2 ?k3 ?k4 ?k5 ?kK ?kd ?ku ?h1 ?h2 ?h3 ?_; (case k1 => k_asm); (case k2 => k_asm); (case k3 => k_asm); (case k4 => k_asm); (case k5 => k_asm); (case kK => first | exact rfl | assumption); (case kd => k_room); (case ku => k_units); (case h1 => omega); (case h2 => omega); (case h3 => first | assumption | exact lt_big (lt_sml (by omega))); k_whole; intro N9 D9 least9 q9 ta9 tb9 h9 tk9 F9 N9 l9; (try dsimp only); (try k_fold))))
local macro_rules | `(tactic| walk_at "call ref") => `(tactic| (k_here; (with_reducible show wpAny _ _ (call (Value.ref 169) _) _ _ _); k_dflt (refine' t_one ?k1 ?k2 ?k3 ?k4 ?k5 ?kK ?kd ?ku ?h1 ?h2 ?h3 ?h4 ?_; (case k1 => k_asm); (case k2 => k_asm); (case k3 => k_asm); (case k4 => k_asm); (case k5 => k_asm); (case kK => first | exact rfl | assumption); (case kd => k_room); (case ku => k_units); (case h1 => k_mem); (case h2 => k_mem); (case h3 => assumption); (case h4 => assumption); k_whole; intro h9 tk9 F9 N9; (try dsimp only); (try k_fold))))
local macro_rules | `(tactic| walk_at "call ref") => `(tactic| (k_here; (with_reducible show wpAny _ _ (call (Value.ref 169) _) _ _ _); k_dflt (refine' t_gt ?k1 ?k2 ?k3 ?k4 ?k5 ?kK ?kd ?ku ?h1 ?h2 ?h3 ?h4 ?h5 ?h6 ?h7 ?h8 ?h9 ?h10 ?h11 ?h12 ?_; (case k1 => k_asm); (case k2 => k_asm); (case k3 => k_asm); (case k4 => k_asm); (case k5 => k_asm); (case kK => first | exact rfl | assumption); (case kd => k_room); (case ku => k_units); (case h1 => k_mem); (case h2 => k_mem); (case h3 => assumption); (case h4 => assumption); (case h5 => assumption); (case h6 => assumption); (case h7 => assumption); (case h8 => assumption); (case h9 => assumption); (case h10 => assumption); (case h11 => assumption); (case h12 => assumption); k_whole; intro q9 ta9 tb9 h9 tk9 F9 N9 l9; (try k_lt l9); (try dsimp only); (try k_fold))))
local macro_rules | `(tactic| walk_at "call ref") => `(tactic| (k_here; (with_reducible show wpAny _ _ (call (Value.ref 169) _) _ _ _); k_dflt (refine' t_lt ?k1 ?k2 ?k3 ?k4 ?k5 ?kK ?kd ?ku ?h1 ?h2 ?h3 ?h4 ?h5 ?h6 ?h7 ?h8 ?h9 ?h10 ?h11 ?h12 ?h13 ?h14 ?_; (case k1 => k_asm); (case k2 => k_asm); (case k3 => k_asm); (case k4 => k_asm); (case k5 => k_asm); (case kK => first | exact rfl | assumption); (case kd => k_room); (case ku => k_units); (case h1 => k_mem); (case h2 => k_mem); (case h3 => assumption); (case h4 => assumption); (case h5 => assumption); (case h6 => assumption); (case h7 => assumption); (case h8 => assumption); (case h9 => assumption); (case h10 => assumption); (case h11 => assumption); (case h12 => assumption); (case h13 => assumption); (case h14 => assumption); k_whole; intro q9 ta9 tb9 h9 tk9 F9 N9 l9; (try k_lt l9); (try dsimp only); (try k_fold))))
local macro_rules | `(tactic| walk_at "call ref") => `(tactic| (k_here; (with_reducible show wpAny _ _ (call (Value.ref 169) _) _ _ _); k_dflt (refine' t_ione ?k1 ?k2 ?k3 ?k4 ?k5 ?kK ?kd ?ku ?h1 ?h2 ?h3 ?h4 ?h5 ?h6 ?h7 ?_; (case k1 => k_asm); (case k2 => k_asm); (case k3 => k_asm); (case k4 => k_asm); (case k5 => k_asm); (case kK => first | exact rfl | assumption); (case kd => k_room); (case ku => k_units); (case h1 => k_mem); (case h2 => k_mem); (case h3 => assumption); (case h4 => assumption); (case h5 => assumption); (case h6 => assumption); (case h7 => assumption); k_whole; intro q9 ta9 tb9 h9 tk9 F9 N9 l9; (try k_lt l9); (try dsimp only); (try k_fold))))
local macro_rules | `(tactic| walk_at "call ref") => `(tactic| (k_here; (with_reducible show wpAny _ _ (call (Value.ref 169) _) _ _ _); k_dflt (refine' t_igt ?k1 ?k2 ?k3 ?k4 ?k5 ?kK ?kd ?ku ?h1 ?h2 ?h3 ?h4 ?h5 ?h6 ?h7 ?h8 ?h9 ?h10 ?h11 ?h12 ?h13 ?_; (case k1 => k_asm); (case k2 => k_asm); (case k3 => k_asm); (case k4 => k_asm); (case k5 => k_asm); (case kK => first | exact rfl | assumption); (case kd => k_room); (case ku => k_units); (case h1 => k_mem); (case h2 => k_mem); (case h3 => assumption); (case h4 => assumption); (case h5 => assumption); (case h6 => assumption); (case h7 => assumption); (case h8 => assumption); (case h9 => assumption); (case h10 => assumption); (case h11 => assumption); (case h12 => assumption); (case h13 => assumption); k_whole; intro q9 ta9 tb9 h9 tk9 F9 N9 l9; (try k_lt l9); (try dsimp only); (try k_fold))))
local macro_rules | `(tactic| walk_at "call ref") => `(tactic| (k_here; (with_reducible show wpAny _ _ (call (Value.ref 169) _) _ _ _); k_dflt (refine' t_ilt ?k1 ?k2 ?k3 ?k4 ?k5 ?kK ?kd ?ku ?h1 ?h2 ?h3 ?h4 ?h5 ?h6 ?h7 ?h8 ?h9 ?h10 ?h11 ?h12 ?h13 ?h14 ?h15 ?_; (case k1 => k_asm); (case k2 => k_asm); (case k3 => k_asm); (case k4 => k_asm); (case k5 => k_asm); (case kK => first | exact rfl | assumption); (case kd => k_room); (case ku => k_units); (case h1 => k_mem); (case h2 => k_mem); (case h3 => assumption); (case h4 => assumption); (case h5 => assumption); (case h6 => assumption); (case h7 => assumption); (case h8 => assumption); (case h9 => assumption); (case h10 => assumption); (case h11 => assumption); (case h12 => assumption); (case h13 => assumption); (case h14 => assumption); (case h15 => assumption); k_whole; intro q9 ta9 tb9 h9 tk9 F9 N9 l9; (try k_lt l9); (try dsimp only); (try k_fold))))
local macro_rules | `(tactic| walk_at "call ref") => `(tactic| (k_here; (with_reducible show wpAny _ _ (call (Value.ref 162) [Value.int _ _, Value.int _ _]) _ _ _); k_dflt (refine' c_least ?k1 ?k2 ?k3 ?k4 ?k5 ?kK ?kd ?ku ?h1 ?h2 ?h3 ?_; (case k1 => k_asm); (case k2 => k_asm); (case k3 => k_asm); (case k4 => k_asm); (case k5 => k_asm); (case kK => first | exact rfl | assumption); (case kd => k_room); (case ku => k_units); (case h1 => assumption); (case h2 => assumption); (case h3 => exact mid_big (by assumption)); k_whole; intro N9 D9 least9 q9 ta9 tb9 h9 tk9 F9 N9 l9; (obtain ⟨f1, f2, f3, f4, f5, f6⟩ := least_facts least9 (by assumption) (by assumption)); (try k_lt l9); (try dsimp only); (try k_fold))))
local macro_rules | `(tactic| walk_at "call ref") => `(tactic| (k_here; (with_reducible show wpAny _ _ (call (Value.ref 176) [Value.ref _, Value.ref _]) _ _ _); k_dflt (refine' c_times ?k1 ?k2 ?k3 ?k4 ?k5 ?kK ?kd ?ku ?h1 ?h2 ?h3 ?h4 ?h5 ?h6 ?h7 ?_ ?_; (case k1 => k_asm); (case k2 => k_asm); (case k3 => k_asm); (case k4 => k_asm); (case k5 => k_asm); (case kK => first | exact rfl | assumption); (case kd => k_room); (case ku => k_units); (case h1 => k_mem); (case h2 => k_mem); (case h3 => assumption); (case h4 => assumption); (case h5 => assumption); (case h6 => assumption); (case h7 => assumption); k_whole; first
  | (intro c9 hn9 hd9 q9 ta9 tb9 h9 tk9 F9 N9 l9; (have e9 := exp_le hn9 (by assumption) (by assumption)); (try k_lt l9); (try dsimp only); (try k_fold))
  | (intro hno9 t9 h9 tk9 F9 N9; (try dsimp only); (try k_fold)))))
local macro_rules | `(tactic| walk_at "call ref") => `(tactic| (k_here; (with_reducible show wpAny _ _ (call (Value.ref 169) [Value.ref _, Value.ref _]) _ _ _); k_dflt (refine' t_raise ?k1 ?k2 ?k3 ?k4 ?k5 ?kK ?kX ?kT ?kd ?ku ?h1 ?h2 ?h3 ?h4 ?h5 ?h6 ?h7 ?h8 ?h9 ?h10 ?_; (case k1 => k_asm); (case k2 => k_asm); (case k3 => k_asm); (case k4 => k_asm); (case k5 => k_asm); (case kK => first | exact rfl | assumption); (case kX => k_asm); (case kT => k_asm); (case kd => k_room); (case ku => k_units); (case h1 => k_mem); (case h2 => k_mem); (case h3 => assumption); (case h4 => assumption); (case h5 => assumption); (case h6 => assumption); (case h7 => assumption); (case h8 => assumption); (case h9 => assumption); (case h10 => assumption); k_whole; intro t9 h9 tk9 F9 N9; (try dsimp only); (try k_fold))))
local macro_rules | `(tactic| walk_at "binaryOp Pow int int") => `(tactic| (k_here; (with_reducible refine' pow_int ?a1 (powOk_sml ?a2 ?a3 ?a1 ?a4) ?_); (case a1 => omega); (case a2 => omega); (case a3 => first | assumption | exact lt_sml (by omega)); (case a4 => omega)))
theorem md_no {a b c d : Int} (h1 : a = c) (h2 : b = d) : ¬ (decide (¬ (a = c ∧ b = d)) = true) := by
  rw [decide_eq_true_eq]
  exact fun h => h ⟨h1, h2⟩
local macro_rules | `(tactic| walk_at "MD") => `(tactic| exact md_no (by first | rfl | omega) (by first | rfl | omega))
theorem walked : PySem.Challenge.rw_pq1398_01.Holds := Mine.headT (by
  k_go0
  all_goals (try k_fold)
  repeat' (first | (k_unfold; (try dsimp only)) | (k_end; wrow_close) | ((fail_if_success (with_reducible show wpAny _ _ (exec (Stmt.If _ _ _ _) _) _ _ _)); walk1) | (dsimp only; (fail_if_success (with_reducible show wpAny _ _ (exec (Stmt.If _ _ _ _) _) _ _ _)); walk1) | ((fail_if_success (with_reducible show wpAny _ _ (exec (Stmt.If _ _ _ _) _) _ _ _)); leave1; try dsimp only))
  rename Fr _ _ _ _ => lF
  with_unfolding_all refine' cut_ (σ := Addr × List Value × List Int × Nat × Addr × Int × Int × Tok × Tok) lF (fun c => IntsAre c.2.1 c.2.2.1 ∧ c.2.1.length ≤ 60 ∧ c.2.2.2.2.1 ≠ c.1 ∧ BaseOk c.2.2.2.2.2.1 c.2.2.2.2.2.2.1) (fun c => [(c.1, listOf c.2.1.toArray c.2.2.2.1), (c.2.2.2.2.1, tupO c.2.2.2.2.2.1 c.2.2.2.2.2.2.1 c.2.2.2.2.2.2.2.1 c.2.2.2.2.2.2.2.2)]) (fun c => [(Str.ofString "coins", .ref c.1), (Str.ofString "base", .ref c.2.2.2.2.1)]) ?_ ?_
  · k_steps
    · rename Fr _ _ _ _ => fE
      rename News _ _ _ _ => nE
      with_unfolding_all refine' cut_end (_, _, _, _, _, _, _, _, _) fE nE swap_mem ?ek ⟨?e1, ?e2, ?e3, base_least (by assumption) ?e5 ?e6⟩
      (case ek => (intro p hp; simp only [List.mem_cons, List.not_mem_nil, or_false] at hp; rcases hp with rfl | rfl <;> rfl))
      (case e1 => assumption)
      (case e2 => assumption)
      (case e3 => exact ne_l (by assumption))
      (case e5 => omega)
      (case e6 => omega)
    · rename Fr _ _ _ _ => fE
      rename News _ _ _ _ => nE
      with_unfolding_all refine' cut_end (_, _, _, _, _, _, _, _, _) fE nE swap_mem ?ek ⟨?e1, ?e2, ?e3, base_ten ?e4⟩
      (case ek => (intro p hp; simp only [List.mem_cons, List.not_mem_nil, or_false] at hp; rcases hp with rfl | rfl <;> rfl))
      (case e1 => assumption)
      (case e2 => assumption)
      (case e3 => exact Nat.ne_of_gt (by assumption))
      (case e4 => omega)
  · intro c h9 tk9 m9 hp F9 N9
    obtain ⟨D, us, ks, n, b, p, q, t1, t2⟩ := c
    dsimp only [kstB] at hp F9 N9
    obtain ⟨hI, hz, hDb, hB⟩ := hp
    have hne := ne_one (o := tupO p q t1 t2) hDb
    have hp2 := hB.p2
    have hq2 := hB.q2
    have hq1 := hB.q1
    have hpq := hB.pq
    have hp_two : 2 ≤ p := by omega
    clear lF
    (try k_fold)
    walk1
    walk1
    repeat' (first | (k_unfold; (try dsimp only)) | (k_end; wrow_close) | ((fail_if_success (with_reducible show wpAny _ _ (exec (Stmt.Assign _ _ _) _) _ _ _)); walk1) | (dsimp only; (fail_if_success (with_reducible show wpAny _ _ (exec (Stmt.Assign _ _ _) _) _ _ _)); walk1) | ((fail_if_success (with_reducible show wpAny _ _ (exec (Stmt.Assign _ _ _) _) _ _ _)); leave1; try dsimp only))
    rename Int => v1
    obtain ⟨k, rfl⟩ := nat_of (v := v1) (by assumption)
    have hk20 := nat_lt (k := k) (by assumption)
    walk1
    repeat' (first | (k_unfold; (try dsimp only)) | (k_end; wrow_close) | ((fail_if_success (with_reducible show wpAny _ _ (exec (Stmt.Assign _ _ _) _) _ _ _)); walk1) | (dsimp only; (fail_if_success (with_reducible show wpAny _ _ (exec (Stmt.Assign _ _ _) _) _ _ _)); walk1) | ((fail_if_success (with_reducible show wpAny _ _ (exec (Stmt.Assign _ _ _) _) _ _ _)); leave1; try dsimp only))
    rename Int => v2
    obtain ⟨j, rfl⟩ := nat_of (v := v2) (by assumption)
    have hj20 := nat_lt (k := j) (by assumption)
    walk1
    repeat' (first | (k_unfold; (try dsimp only)) | (k_end; wrow_close) | ((fail_if_success (with_reducible show wpAny _ _ (exec (Stmt.If _ _ _ _) _) _ _ _)); walk1) | (dsimp only; (fail_if_success (with_reducible show wpAny _ _ (exec (Stmt.If _ _ _ _) _) _ _ _)); walk1) | ((fail_if_success (with_reducible show wpAny _ _ (exec (Stmt.If _ _ _ _) _) _ _ _)); leave1; try dsimp only))
    rename Fr _ _ _ _ => fB
    rename News _ _ _ _ => nB
    simp only [Int.toNat_natCast, toNat_add] at nB
    obtain ⟨n, hn⟩ : ∃ n : Int, n = p ^ k := ⟨_, rfl⟩
    obtain ⟨d, hd⟩ : ∃ n : Int, n = q ^ k := ⟨_, rfl⟩
    obtain ⟨ny, hny⟩ : ∃ n : Int, n = p ^ (k + j) := ⟨_, rfl⟩
    obtain ⟨dy, hdy⟩ : ∃ n : Int, n = q ^ (k + j) := ⟨_, rfl⟩
    rw [← hn, ← hd, ← hny, ← hdy] at nB
    obtain ⟨nC, hne3⟩ := reord nB hDb (by assumption) (by assumption)
    clear nB
    rename News _ _ _ _ => nB
    obtain ⟨hk4, hn1, hd1, hn2, hd2, hgn, hgd, hlt⟩ := pw_facts hB (show k ≤ 40 by omega) hn hd
    obtain ⟨hk4y, hny1, hdy1, hny2, hdy2, hgny, hgdy, hlty⟩ := pw_facts hB (show k + j ≤ 40 by omega) hny hdy
    have hgB := hB.g
-- told(x, base), told(1/x, base)
    with_unfolding_all refine' cut_same fB nB ?_ ?_
    · by_cases hk0 : k = 0
      · obtain rfl : n = 1 := by rw [hn, hk0, Int.pow_zero]
        obtain rfl : d = 1 := by rw [hd, hk0, Int.pow_zero]
        k_steps
        all_goals (rename Fr _ _ _ _ => fE; rename News _ _ _ _ => nE; with_unfolding_all refine' same_end fE nE ?eS; (case eS => (intro p hp; repeat (first | exact hp | refine List.Mem.tail _ ?_))))
      · have hdn := hlt hk0
        k_steps
        all_goals (rename Fr _ _ _ _ => fE; rename News _ _ _ _ => nE; with_unfolding_all refine' same_end fE nE ?eS; (case eS => (intro p hp; repeat (first | exact hp | refine List.Mem.tail _ ?_))))
    · clear fB nB
      intro h9 tk9 fB nB
      (try dsimp only)
      (try k_fold)
      repeat' (first | (k_unfold; (try dsimp only)) | (k_end; wrow_close) | ((fail_if_success (with_reducible show wpAny _ _ (exec (Stmt.If _ _ _ _) _) _ _ _)); walk1) | (dsimp only; (fail_if_success (with_reducible show wpAny _ _ (exec (Stmt.If _ _ _ _) _) _ _ _)); walk1) | ((fail_if_success (with_reducible show wpAny _ _ (exec (Stmt.If _ _ _ _) _) _ _ _)); leave1; try dsimp only))
      -- to the base turned
      with_unfolding_all refine' cut_same fB nB ?_ ?_
      · by_cases hk0 : k = 0
        · obtain rfl : n = 1 := by rw [hn, hk0, Int.pow_zero]
          obtain rfl : d = 1 := by rw [hd, hk0, Int.pow_zero]
          k_steps
          all_goals (rename Fr _ _ _ _ => fE; rename News _ _ _ _ => nE; with_unfolding_all refine' same_end fE nE ?eS; (case eS => (intro p hp; repeat (first | exact hp | refine List.Mem.tail _ ?_))))
        · have hdn := hlt hk0
          k_steps
          all_goals (rename Fr _ _ _ _ => fE; rename News _ _ _ _ => nE; with_unfolding_all refine' same_end fE nE ?eS; (case eS => (intro p hp; repeat (first | exact hp | refine List.Mem.tail _ ?_))))
      · clear fB nB
        intro h9 tk9 fB nB
        (try dsimp only)
        (try k_fold)
        repeat' (first | (k_unfold; (try dsimp only)) | (k_end; wrow_close) | ((fail_if_success (with_reducible show wpAny _ _ (exec (Stmt.If _ _ _ _) _) _ _ _)); walk1) | (dsimp only; (fail_if_success (with_reducible show wpAny _ _ (exec (Stmt.If _ _ _ _) _) _ _ _)); walk1) | ((fail_if_success (with_reducible show wpAny _ _ (exec (Stmt.If _ _ _ _) _) _ _ _)); leave1; try dsimp only))
        -- told(y, base)
        with_unfolding_all refine' cut_same fB nB ?_ ?_
        · by_cases hk0 : k + j = 0
          · obtain rfl : ny = 1 := by rw [hny, hk0, Int.pow_zero]
            obtain rfl : dy = 1 := by rw [hdy, hk0, Int.pow_zero]
            k_steps
            all_goals (rename Fr _ _ _ _ => fE; rename News _ _ _ _ => nE; with_unfolding_all refine' same_end fE nE ?eS; (case eS => (intro p hp; repeat (first | exact hp | refine List.Mem.tail _ ?_))))
          · have hdn := hlty hk0
            k_steps
            all_goals (rename Fr _ _ _ _ => fE; rename News _ _ _ _ => nE; with_unfolding_all refine' same_end fE nE ?eS; (case eS => (intro p hp; repeat (first | exact hp | refine List.Mem.tail _ ?_))))
        · clear fB nB
          intro h9 tk9 fB nB
          (try dsimp only)
          (try k_fold)
          repeat' (first | (k_unfold; (try dsimp only)) | (k_end; wrow_close) | ((fail_if_success (with_reducible show wpAny _ _ (exec (Stmt.For _ _ _ _ _) _) _ _ _)); walk1) | (dsimp only; (fail_if_success (with_reducible show wpAny _ _ (exec (Stmt.For _ _ _ _ _) _) _ _ _)); walk1) | ((fail_if_success (with_reducible show wpAny _ _ (exec (Stmt.For _ _ _ _ _) _) _ _ _)); leave1; try dsimp only))
          repeat' (first | (k_unfold; (try dsimp only)) | (k_end; wrow_close) | ((fail_if_success (with_reducible show wpAny _ _ (execs (Stmt.Assign _ _ _ :: _) _) _ _ _)); walk1) | (dsimp only; (fail_if_success (with_reducible show wpAny _ _ (execs (Stmt.Assign _ _ _ :: _) _) _ _ _)); walk1) | ((fail_if_success (with_reducible show wpAny _ _ (execs (Stmt.Assign _ _ _ :: _) _) _ _ _)); leave1; try dsimp only))
          rename Fr _ _ _ _ => fT
          rename News _ _ _ _ => nT
          try clear fB
          try clear nB
          refine turn_intro fT (fun h₀ L M A t E => ∀ (s : Shared) (m : Str → Option Value) (news : List (Addr × Obj)) (o : Addr) (tv bv : Int) (u1 u2 : Tok),
            Fr h₀ L s.heap (fun y => if y = Str.ofString "other" then some (.ref o) else if y = Str.ofString "base" then some (.ref b) else m y) → News h₀ L s.heap news → (o, tupO tv bv u1 u2) ∈ news → (b, tupO p q t1 t2) ∈ news → 0 ≤ tv → 1 ≤ bv → tv < mid → bv < mid →
            wpAny M A t (TurnEnd h₀ L s [(Str.ofString "base", .ref b)] news) E s) ?_ ?_
          · clear fT nT
            intro sT mT news o tv bv u1 u2 fT nT ho hb htv0 hbv1 htv hbv
            (try k_fold)
            repeat' (first | (k_unfold; (try dsimp only)) | (k_end; wrow_close) | ((fail_if_success (with_reducible show wpAny _ _ (exec (Stmt.If _ _ _ _) _) _ _ _)); walk1) | (dsimp only; (fail_if_success (with_reducible show wpAny _ _ (exec (Stmt.If _ _ _ _) _) _ _ _)); walk1) | ((fail_if_success (with_reducible show wpAny _ _ (exec (Stmt.If _ _ _ _) _) _ _ _)); leave1; try dsimp only))
            walk1
            repeat' (first | (k_unfold; (try dsimp only)) | (k_end; wrow_close) | ((fail_if_success (with_reducible show wpAny _ _ (exec (Stmt.Assign _ _ _) _) _ _ _)); walk1) | (dsimp only; (fail_if_success (with_reducible show wpAny _ _ (exec (Stmt.Assign _ _ _) _) _ _ _)); walk1) | ((fail_if_success (with_reducible show wpAny _ _ (exec (Stmt.Assign _ _ _) _) _ _ _)); leave1; try dsimp only))
            · walk1
              repeat' (first | (k_unfold; (try dsimp only)) | (k_end; wrow_close) | ((fail_if_success (with_reducible show wpAny _ _ (exec (Stmt.If _ _ _ _) _) _ _ _)); walk1) | (dsimp only; (fail_if_success (with_reducible show wpAny _ _ (exec (Stmt.If _ _ _ _) _) _ _ _)); walk1) | ((fail_if_success (with_reducible show wpAny _ _ (exec (Stmt.If _ _ _ _) _) _ _ _)); leave1; try dsimp only))
              · walk1
                repeat' (first | (k_unfold; (try dsimp only)) | (k_end; wrow_close) | ((fail_if_success (with_reducible show wpAny _ _ (exec (Stmt.If _ _ _ _) _) _ _ _)); walk1) | (dsimp only; (fail_if_success (with_reducible show wpAny _ _ (exec (Stmt.If _ _ _ _) _) _ _ _)); walk1) | ((fail_if_success (with_reducible show wpAny _ _ (exec (Stmt.If _ _ _ _) _) _ _ _)); leave1; try dsimp only))
                walk1
                k_steps
                all_goals (rename Fr _ _ _ _ => fE; rename News _ _ _ _ => nE; with_unfolding_all refine' turn_end fE nE ?eS ?eK; (case eS => (intro p hp; repeat (first | exact hp | refine List.Mem.tail _ ?_))); (case eK => (intro p hp; rw [List.mem_singleton.mp hp]; rfl)))
              · walk1
                repeat' (first | (k_unfold; (try dsimp only)) | (k_end; wrow_close) | ((fail_if_success (with_reducible show wpAny _ _ (exec (Stmt.If _ _ _ _) _) _ _ _)); walk1) | (dsimp only; (fail_if_success (with_reducible show wpAny _ _ (exec (Stmt.If _ _ _ _) _) _ _ _)); walk1) | ((fail_if_success (with_reducible show wpAny _ _ (exec (Stmt.If _ _ _ _) _) _ _ _)); leave1; try dsimp only))
                walk1
                k_steps
                all_goals (rename Fr _ _ _ _ => fE; rename News _ _ _ _ => nE; with_unfolding_all refine' turn_end fE nE ?eS ?eK; (case eS => (intro p hp; repeat (first | exact hp | refine List.Mem.tail _ ?_))); (case eK => (intro p hp; rw [List.mem_singleton.mp hp]; rfl)))
            · all_goals (rename Fr _ _ _ _ => fE; rename News _ _ _ _ => nE; with_unfolding_all refine' turn_end fE nE ?eS ?eK; (case eS => (intro p hp; repeat (first | exact hp | refine List.Mem.tail _ ?_))); (case eK => (intro p hp; rw [List.mem_singleton.mp hp]; rfl)))
          · intro turn
            rename Int => v3
            obtain ⟨hv3, hv4⟩ := step_facts (v := v3) (d := d) (by assumption) (by assumption) hd1
            obtain ⟨hm8, hdn8⟩ := side_facts hB hk20 hn hd
            with_unfolding_all refine' cut_turn (turn _ _ _ _ _ _ _ _ (fr_ob fT ?a1 ?a2) nT ?a3 ?a4 ?a5 ?a6 ?a7 ?a8) ?_
            (case a1 => rfl)
            (case a2 => rfl)
            (case a3 => k_mem)
            (case a4 => k_mem)
            (case a5 => omega)
            (case a6 => omega)
            (case a7 => omega)
            (case a8 => omega)
            intro h9 tk9 m9 F9 N9
            dsimp only [kstB] at F9
            clear fT nT
            (try dsimp only)
            (try k_fold)
            repeat' (first | (k_unfold; (try dsimp only)) | (k_end; wrow_close) | ((fail_if_success (with_reducible show wpAny _ _ (execs (Stmt.Assign _ _ _ :: _) _) _ _ _)); walk1) | (dsimp only; (fail_if_success (with_reducible show wpAny _ _ (execs (Stmt.Assign _ _ _ :: _) _) _ _ _)); walk1) | ((fail_if_success (with_reducible show wpAny _ _ (execs (Stmt.Assign _ _ _ :: _) _) _ _ _)); leave1; try dsimp only))
            rename Fr _ _ _ _ => fT
            rename News _ _ _ _ => nT
            with_unfolding_all refine' cut_turn (turn _ _ _ _ _ _ _ _ (fr_ob fT ?a1 ?a2) nT ?a3 ?a4 ?a5 ?a6 ?a7 ?a8) ?_
            (case a1 => rfl)
            (case a2 => rfl)
            (case a3 => k_mem)
            (case a4 => k_mem)
            (case a5 => omega)
            (case a6 => omega)
            (case a7 => omega)
            (case a8 => omega)
            intro h9 tk9 m9 F9 N9
            dsimp only [kstB] at F9
            clear fT nT
            (try dsimp only)
            (try k_fold)
            repeat' (first | (k_unfold; (try dsimp only)) | (k_end; wrow_close) | ((fail_if_success (with_reducible show wpAny _ _ (execs (Stmt.Assign _ _ _ :: _) _) _ _ _)); walk1) | (dsimp only; (fail_if_success (with_reducible show wpAny _ _ (execs (Stmt.Assign _ _ _ :: _) _) _ _ _)); walk1) | ((fail_if_success (with_reducible show wpAny _ _ (execs (Stmt.Assign _ _ _ :: _) _) _ _ _)); leave1; try dsimp only))
            rename Fr _ _ _ _ => fT
            rename News _ _ _ _ => nT
            with_unfolding_all refine' cut_turn (turn _ _ _ _ _ _ _ _ (fr_ob fT ?a1 ?a2) nT ?a3 ?a4 ?a5 ?a6 ?a7 ?a8) ?_
            (case a1 => rfl)
            (case a2 => rfl)
            (case a3 => k_mem)
            (case a4 => k_mem)
            (case a5 => omega)
            (case a6 => omega)
            (case a7 => omega)
            (case a8 => omega)
            intro h9 tk9 m9 F9 N9
            dsimp only [kstB] at F9
            clear fT nT
            (try dsimp only)
            (try k_fold)
            k_steps)
end
end
end
end Mine
theorem PySem.Challenge.cw_pq1398_01_holds : PySem.Challenge.rw_pq1398_01.Holds :=
  Mine.walked
