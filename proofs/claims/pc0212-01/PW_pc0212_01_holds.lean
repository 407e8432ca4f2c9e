import PyProof.Rows.All
import Wide.All
import OpenK.AllK
import Wide.FinOn
import PyProof.ZipIter
import PyProof.AttrMissHeap
import KE.KItemsList
import PySem.Challenge.RW_pc0212_01
set_option tactic.hygienic false
set_option genSizeOf false
set_option genSizeOfSpec false
set_option backward.eqns.nonrecursive false
set_option bootstrap.genMatcherCode false
set_option Elab.async false
set_option maxRecDepth 100000
set_option linter.unusedVariables false
set_option linter.unusedSectionVars false
set_option maxHeartbeats 4000000

namespace Mine
open PySem PySem.W PySem.Calls PyProof.Rows PySem.Spec

/-! ## M0 -/
theorem size_update (h : Heap) (a : Addr) (f : Obj → Obj) : (h.update a f).objs.size = h.objs.size := (Heap.SameBut.update h a f).1

theorem runs_size {M : Model} {Γ : PySem.Ctx} {p : Pos} {t : Sem Fin} {fs : List PySem.Frame} {s s' : Shared} {e : End} (h : Runs M Γ p t fs s e s') : s.heap.objs.size ≤ s'.heap.objs.size := by
  induction h <;> (try simp only [Shared.setGen, size_update, Heap.size_push] at *) <;> lia

theorem wakes_size {M : Model} {Γ : PySem.Ctx} {p : Pos} {g : Nat} {r : Resume} {s s' : Shared} {res : GenResult} (h : Wakes M Γ p g r s res s') : s.heap.objs.size ≤ s'.heap.objs.size := by
  have same : s' = s → s.heap.objs.size ≤ s'.heap.objs.size := fun e => e ▸ Nat.le_refl _
  have ran : ∀ {Γ' p' t fs} (e₁ : End) (s₁ : Shared), Runs M Γ' p' t fs (s.setGen g .running) e₁ s₁ → s' = s₁.setGen g e₁.genState → s.heap.objs.size ≤ s'.heap.objs.size := fun _ s₁ hr e => by
    rw [e]; exact (runs_size hr : (s.setGen g .running).heap.objs.size ≤ s₁.heap.objs.size)
  unfold Wakes at h
  cases hg : s.gens[g]? with
  | none => rw [hg] at h; exact h.elim
  | some st =>
    rw [hg] at h
    cases st with
    | fresh c => cases r with
      | send v => cases v <;> first | exact same h.2 | exact let ⟨e₁, s₁, hr, _, _, e⟩ := h; ran e₁ s₁ hr e
      | throw x => rw [h.2]; exact Nat.le_refl _
    | suspended => exact let ⟨e₁, s₁, hr, _, _, e⟩ := h; ran e₁ s₁ hr e
    | running => exact same h.2
    | finished => exact same h.2

theorem wp_size {α : Type} (M : Model) (Γ : PySem.Ctx) (n : Nat) (t : Sem α) : ∀ (Q : α → Pos → Shared → Prop) (E : Value → Pos → Shared → Prop) (p : Pos) (s : Shared), n ≤ s.heap.objs.size → Sem.wp M Γ t Q E p s →
    Sem.wp M Γ t (fun a p' s' => n ≤ s'.heap.objs.size ∧ Q a p' s') (fun e p' s' => n ≤ s'.heap.objs.size ∧ E e p' s') p s := by
  induction t with
  | pure a => intro Q E p s hn h; exact ⟨hn, h⟩
  | raise e => intro Q E p s hn h; exact ⟨hn, h⟩
  | unsupported _ => intro Q E p s _ h; exact h
  | finish _ => intro Q E p s _ h; exact h
  | rule _ k ih => intro Q E p s hn h; exact ih () Q E p s hn h
  | «at» p' k ih => intro Q E p s hn h; exact ih () Q E p' s hn h
  | load a _ k ih => intro Q E p s hn h; obtain ⟨o, ho, h⟩ := h; exact ⟨o, ho, ih o Q E p s hn h⟩
  | update a _ f k ih => intro Q E p s hn h; exact ⟨h.1, ih () Q E p _ (by show n ≤ (s.heap.update a f).objs.size; rw [size_update]; exact hn) h.2⟩
  | loadIfAlive a k ih => intro Q E p s hn h; exact ih _ Q E p s hn h
  | point _ k ih => intro Q E p s hn h; exact ih () Q E p s hn h
  | register _ _ => intro Q E p s _ h; exact h
  | alloc o k ih => intro Q E p s hn h; exact ih _ Q E p _ (by show n ≤ (s.heap.push o).objs.size; rw [Heap.size_push]; exact Nat.le_succ_of_le hn) h
  | fresh k ih => intro Q E p s hn h; exact ih _ Q E p _ hn h
  | ask k ih => intro Q E p s hn h; exact ih _ Q E p s hn h
  | choose src m k ih => intro Q E p s hn h; exact ⟨h.1, ih _ Q E p _ hn h.2⟩
  | os q _ k ih => intro Q E p s hn h; exact ih _ Q E p _ hn h
  | call c hd _ _ k ih => intro Q E p s hn h; obtain ⟨r, s', hr, h⟩ := h; exact ⟨r, s', hr, ih r Q E p s' (Nat.le_trans hn (runs_size hr)) h⟩
  | handled own k ih => intro Q E p s hn h; exact ih _ Q E p s hn h
  | genState g k ih => intro Q E p s hn h; obtain ⟨st, hs, h⟩ := h; exact ⟨st, hs, ih _ Q E p s hn h⟩
  | newGen c k ih => intro Q E p s hn h; exact ih _ Q E p _ hn h
  | resume g r _ k ih => intro Q E p s hn h; obtain ⟨res, s', hw, h⟩ := h; exact ⟨res, s', hw, ih res Q E p s' (Nat.le_trans hn (wakes_size hw)) h⟩
  | yield _ _ _ _ => intro Q E p s _ h; exact h
  | stack k ih => intro Q E p s hn h; exact ih _ Q E p s hn h
  | fork _ _ => intro Q E p s _ h; exact h
  | thread k ih => intro Q E p s hn h; exact ih _ Q E p s hn h
  | await _ _ _ _ _ => intro Q E p s _ h; exact h

/-- the heap grows only -/
theorem wpAny_size {α : Type} {M : Model} {A : Around} {s : Shared} {t : Sem α} {Q : α → Shared → Prop} {E : Value → Shared → Prop}
    (h : wpAny M A t (fun a s' => s.heap.objs.size ≤ s'.heap.objs.size → Q a s') (fun e s' => s.heap.objs.size ≤ s'.heap.objs.size → E e s') s) : wpAny M A t Q E s :=
  wpAny_mono (Q := fun a s' => s.heap.objs.size ≤ s'.heap.objs.size ∧ (s.heap.objs.size ≤ s'.heap.objs.size → Q a s')) (E := fun e s' => s.heap.objs.size ≤ s'.heap.objs.size ∧ (s.heap.objs.size ≤ s'.heap.objs.size → E e s')) (fun Γ p hΓ => wp_size M Γ s.heap.objs.size t _ _ p s (Nat.le_refl _) (h Γ p hΓ)) (fun _ _ x => x.2 x.1) (fun _ _ x => x.2 x.1)

/-! ## M1 -/
/-- abstract values: frozen data, or the mutable object number i -/
inductive V where
  | d (x : PyData)
  | ref (i : Nat)
/-- abstract mutable objects -/
inductive O where
  | list (l : List PyData)
  | dict (l : List (Str × PyData))
  | inst (c : Addr) (fs : List (Str × V))
/-- what a statement does to the flow -/
inductive Fl where
  | next | brk | cont
  | ret (v : V)
  | rett (vs : List V)

noncomputable abbrev Mu := List (Addr × Addr)
noncomputable def FP (μ : Mu) (a : Addr) : Prop := ∃ p ∈ μ, a = p.1 ∨ a = p.2

/-- the fixed world of one proof: the heap behind the top, and what stands in it -/
structure Wd where
  prog : Program
  w : World
  base : Heap
  gens : Array GenState
  os : OsState
  mg : Str → Option Value
  mb : Str → Option Value
  hg : base.Ns mainGlobals mg
  hb : base.Ns builtinsNs mb
  nolimit : base.NoLimit

noncomputable def Off (Φ : Addr → Prop) (μ : Mu) (as : List Addr) : Prop := ∀ a ∈ as, ¬ Φ a ∧ ¬ FP μ a

noncomputable def VOk (h : Heap) (Φ : Addr → Prop) (μ : Mu) : V → Value → Prop
  | .d x, v => ∃ as, Reads h v x as ∧ Off Φ μ as
  | .ref i, v => ∃ p, μ[i]? = some p ∧ v = .ref p.1

noncomputable def VsOk (h : Heap) (Φ : Addr → Prop) (μ : Mu) : List V → List Value → Prop
  | [], [] => True
  | x :: xs, v :: vs => VOk h Φ μ x v ∧ VsOk h Φ μ xs vs
  | _, _ => False

noncomputable def DictRel (h : Heap) : List (Str × PyData) → List (Str × Value) → Prop
  | [], [] => True
  | x :: xs, v :: vs => x.1 = v.1 ∧ Reads h v.2 x.2 [] ∧ DictRel h xs vs
  | _, _ => False

theorem vsOk_ind {h : Heap} {Φ : Addr → Prop} {μ : Mu} (motive : List V → List Value → Prop) (nil : motive [] []) (cons : ∀ {x v xs vs}, VOk h Φ μ x v → VsOk h Φ μ xs vs → motive xs vs → motive (x :: xs) (v :: vs)) {xs : List V} {vs : List Value} (r : VsOk h Φ μ xs vs) : motive xs vs := by
  induction xs generalizing vs with
  | nil => cases vs with
    | nil => exact nil
    | cons => exact False.elim r
  | cons x xs ih => cases vs with
    | nil => exact False.elim r
    | cons v vs => exact cons r.1 r.2 (ih r.2)
theorem dictRel_ind {h : Heap} (motive : List (Str × PyData) → List (Str × Value) → Prop) (nil : motive [] []) (cons : ∀ {x v xs vs}, x.1 = v.1 → Reads h v.2 x.2 [] → DictRel h xs vs → motive xs vs → motive (x :: xs) (v :: vs)) {xs : List (Str × PyData)} {vs : List (Str × Value)} (r : DictRel h xs vs) : motive xs vs := by
  induction xs generalizing vs with
  | nil => cases vs with
    | nil => exact nil
    | cons => exact False.elim r
  | cons x xs ih => cases vs with
    | nil => exact False.elim r
    | cons v vs => exact cons r.1 r.2.1 r.2.2 (ih r.2.2)

noncomputable def OOk (W : Wd) (h : Heap) (Φ : Addr → Prop) (μ : Mu) (p : Addr × Addr) : O → Prop
  | .list l => p.2 = p.1 ∧ ∃ vs as, h.PlainList p.1 vs ∧ ReadsAll h vs.toList l as ∧ Off Φ μ as
  | .dict l => p.2 = p.1 ∧ ∃ kvs, h.DictOf (strKind W.prog W.w) p.1 kvs ∧ DictRel h l kvs
  | .inst c fs => p.2 ≠ p.1 ∧ h.get? p.1 = some (instObj c p.2) ∧ (∃ m, (h.Ns1 p.2 m ∧ ∀ x, x ∉ fs.map (·.1) → m x = none) ∧ ∀ x v, (x, v) ∈ fs → ∃ cv, m x = some cv ∧ VOk h Φ μ v cv)

structure HOk (W : Wd) (h : Heap) (Φ : Addr → Prop) (μ : Mu) (H : List O) : Prop where
  len : μ.length = H.length
  sep : ∀ (i j : Nat) (p q : Addr × Addr), μ[i]? = some p → μ[j]? = some q → (p.1 = q.1 ∨ p.1 = q.2 ∨ p.2 = q.1 ∨ p.2 = q.2) → i = j
  above : ∀ a, FP μ a → W.base.objs.size ≤ a ∧ ¬ Φ a
  obj : ∀ (i : Nat) (o : O), H[i]? = some o → ∃ p, μ[i]? = some p ∧ OOk W h Φ μ p o

structure Ext (h : Heap) (μ : Mu) (h' : Heap) (μ' : Mu) : Prop where
  new : ∃ ν, μ' = μ ++ ν ∧ ∀ a, FP ν a → h.objs.size ≤ a
  size : h.objs.size ≤ h'.objs.size
  keep : ∀ b o, h.get? b = some o → ¬ FP μ b → h'.get? b = some o

/-- a condition that computes -/
noncomputable def guard (b : Bool) (p : Prop) : Prop := match b with
  | true => p
  | false => False
theorem gd_of {b : Bool} {p : Prop} (h : guard b p) : b = true ∧ p := by
  cases b with
  | true => exact ⟨rfl, h⟩
  | false => exact h.elim
theorem gd_elim {a b : Nat} {p : Prop} (h : guard (Nat.ble a b) p) : a ≤ b ∧ p := let ⟨x, y⟩ := gd_of h; ⟨Nat.le_of_ble_eq_true x, y⟩
theorem gd_eq {a b : Nat} {p : Prop} (h : guard (Nat.beq a b) p) : a = b ∧ p := let ⟨x, y⟩ := gd_of h; ⟨Nat.eq_of_beq_eq_true x, y⟩
theorem gd_two {a b c : Nat} {p : Prop} (h : guard (Nat.beq a b) (guard (Nat.ble a c) p)) : a = b ∧ a ≤ c ∧ p := let ⟨h1, h2⟩ := gd_eq h; let ⟨h3, h4⟩ := gd_elim h2; ⟨h1, h3, h4⟩
theorem gd {a b : Nat} {p : Prop} (h : a ≤ b) (q : p) : guard (Nat.ble a b) p := by
  rw [Nat.ble_eq_true_of_le h]; exact q

structure Inv (W : Wd) (s : Shared) : Prop where
  keep : ∀ b o, W.base.get? b = some o → s.heap.get? b = some o
  gens : s.gens = W.gens
  os : s.os = W.os
  size : W.base.objs.size ≤ s.heap.objs.size

structure OkA (d : Nat) (A : Around) : Prop where
  handled : A.handled = none
  depth : A.depth + d ≤ 900
  units : A.units + 20 * d ≤ 8000

noncomputable def Below (h : Heap) (Φ : Addr → Prop) : Prop := ∀ a, Φ a → a < h.objs.size

noncomputable def Post (W : Wd) (h : Heap) (Φ : Addr → Prop) (μ : Mu) (Q : V → List O → Prop) (cv : Value) (s' : Shared) : Prop :=
  ∃ v H' μ', Inv W s' ∧ Ext h μ s'.heap μ' ∧ HOk W s'.heap Φ μ' H' ∧ VOk s'.heap Φ μ' v cv ∧ Q v H'

/-- a call of the object at address f, from any related state -/
structure CallW (W : Wd) (f : Addr) (d : Nat) (args : List V) (H : List O) (Q : V → List O → Prop) : Prop where
  mk ::
  go : ∀ (A : Around) (E : Value → Shared → Prop) (s : Shared) (Φ : Addr → Prop) (μ : Mu) (cargs : List Value),
    OkA d A → Inv W s → Below s.heap Φ → HOk W s.heap Φ μ H → VsOk s.heap Φ μ args cargs →
    codeAny (model W.prog W.w) A (.call (.ref f) ⟨cargs, []⟩) (fun r s' => match r with | .ok (.ret v) => Post W s.heap Φ μ Q v s' | .ok _ => False | .error e => E e s') s

/-! ### moving through heaps -/
theorem FP.nil {a : Addr} : ¬ FP [] a := fun ⟨_, h, _⟩ => nomatch h
theorem FP.app {μ ν : Mu} {a : Addr} : FP (μ ++ ν) a ↔ FP μ a ∨ FP ν a := by
  constructor
  · rintro ⟨p, hp, h⟩
    rcases List.mem_append.mp hp with hp | hp
    · exact .inl ⟨p, hp, h⟩
    · exact .inr ⟨p, hp, h⟩
  · rintro (⟨p, hp, h⟩ | ⟨p, hp, h⟩)
    · exact ⟨p, List.mem_append.mpr (.inl hp), h⟩
    · exact ⟨p, List.mem_append.mpr (.inr hp), h⟩
theorem FP.at {μ : Mu} {i : Nat} {p : Addr × Addr} (h : μ[i]? = some p) : FP μ p.1 ∧ FP μ p.2 :=
  ⟨⟨p, List.mem_of_getElem? h, .inl rfl⟩, ⟨p, List.mem_of_getElem? h, .inr rfl⟩⟩

noncomputable def TupObj (o : Obj) : Prop := o.cls = .type "tuple" ∧ ∃ vs n, o.data = .seq vs n

theorem all_nil {P : Addr → Prop} : ∀ a ∈ ([] : List Addr), P a := fun _ ha => nomatch ha
theorem all_hd {P : Addr → Prop} {a : Addr} {l : List Addr} (h : ∀ b ∈ a :: l, P b) : P a := h _ (.head _)
theorem all_tl {P : Addr → Prop} {a : Addr} {l : List Addr} (h : ∀ b ∈ a :: l, P b) : ∀ b ∈ l, P b := fun b hb => h b (.tail _ hb)
theorem all_l {P : Addr → Prop} {k l : List Addr} (h : ∀ b ∈ k ++ l, P b) : ∀ b ∈ k, P b := fun b hb => h b (List.mem_append.mpr (.inl hb))
theorem all_r {P : Addr → Prop} {k l : List Addr} (h : ∀ b ∈ k ++ l, P b) : ∀ b ∈ l, P b := fun b hb => h b (List.mem_append.mpr (.inr hb))
theorem all_app {P : Addr → Prop} {k l : List Addr} (h : ∀ b ∈ k, P b) (h' : ∀ b ∈ l, P b) : ∀ b ∈ k ++ l, P b := fun b hb => (List.mem_append.mp hb).elim (h b) (h' b)
theorem all_cons {P : Addr → Prop} {a : Addr} {l : List Addr} (h : P a) (h' : ∀ b ∈ l, P b) : ∀ b ∈ a :: l, P b := fun b hb => (List.mem_cons.mp hb).elim (fun e => e ▸ h) (h' b)
theorem reads_move {h h' : Heap} (P : Addr → Prop) (hk : ∀ b o, h.get? b = some o → TupObj o ∨ P b → h'.get? b = some o) {v : Value} {d : PyData} {as : List Addr} (r : Reads h v d as) : (∀ a ∈ as, P a) → Reads h' v d as :=
  Reads.rec (motive_1 := fun v d as _ => (∀ a ∈ as, P a) → Reads h' v d as) (motive_2 := fun v d as _ => (∀ a ∈ as, P a) → ReadsAll h' v d as)
    (fun _ => .none) (fun b _ => .bool b) (fun i t _ => .int i t) (fun x t _ => .str x t)
    (fun h1 h2 h3 _ ih hp => .list (hk _ _ h1 (.inr (all_hd hp))) h2 h3 (ih (all_tl hp)))
    (fun h1 h2 h3 _ ih hp => .tuple (hk _ _ h1 (.inl ⟨h2, _, _, h3⟩)) h2 h3 (ih hp))
    (fun h1 h2 h3 _ _ ih ih' hp => .dict (hk _ _ h1 (.inr (all_hd hp))) h2 h3 (ih (all_l (all_tl hp))) (ih' (all_r (all_tl hp))))
    (fun _ => .nil) (fun _ _ ih ih' hp => .cons (ih (all_l hp)) (ih' (all_r hp))) r
theorem readsAll_ind {h : Heap} (motive : List Value → List PyData → List Addr → Prop) (nil : motive [] [] []) (cons : ∀ {v vs d ds as bs}, Reads h v d as → ReadsAll h vs ds bs → motive vs ds bs → motive (v :: vs) (d :: ds) (as ++ bs)) {vs : List Value} {ds : List PyData} {as : List Addr} (r : ReadsAll h vs ds as) : motive vs ds as :=
  ReadsAll.rec (motive_1 := fun _ _ _ _ => True) (motive_2 := fun v d as _ => motive v d as) trivial (fun _ => trivial) (fun _ _ => trivial) (fun _ _ => trivial) (fun _ _ _ _ _ => trivial) (fun _ _ _ _ _ => trivial) (fun _ _ _ _ _ _ _ => trivial) nil (fun r r' _ ih => cons r r' ih) r
theorem readsAll_move {h h' : Heap} (P : Addr → Prop) (hk : ∀ b o, h.get? b = some o → TupObj o ∨ P b → h'.get? b = some o) {vs : List Value} {ds : List PyData} {as : List Addr} (r : ReadsAll h vs ds as) : (∀ a ∈ as, P a) → ReadsAll h' vs ds as :=
  readsAll_ind (fun v d as => (∀ a ∈ as, P a) → ReadsAll h' v d as) (fun _ => .nil) (fun r _ ih hp => .cons (reads_move P hk r (all_l hp)) (ih (all_r hp))) r

theorem reads_lt {h : Heap} {v : Value} {d : PyData} {as : List Addr} (r : Reads h v d as) : ∀ a ∈ as, a < h.objs.size :=
  Reads.rec (motive_1 := fun _ _ as _ => ∀ a ∈ as, a < h.objs.size) (motive_2 := fun _ _ as _ => ∀ a ∈ as, a < h.objs.size)
    all_nil (fun _ => all_nil) (fun _ _ => all_nil) (fun _ _ => all_nil) (fun h1 _ _ _ ih => all_cons (Heap.lt_size h1) ih) (fun _ _ _ _ ih => ih) (fun h1 _ _ _ _ ih ih' => all_cons (Heap.lt_size h1) (all_app ih ih'))
    all_nil (fun _ _ ih ih' => all_app ih ih') r
theorem readsAll_lt {h : Heap} {vs : List Value} {ds : List PyData} {as : List Addr} (r : ReadsAll h vs ds as) : ∀ a ∈ as, a < h.objs.size :=
  readsAll_ind (fun _ _ as => ∀ a ∈ as, a < h.objs.size) all_nil (fun r _ ih => all_app (reads_lt r) ih) r

theorem readsAll_len {h : Heap} {vs : List Value} {ds : List PyData} {as : List Addr} (r : ReadsAll h vs ds as) : vs.length = ds.length :=
  readsAll_ind (fun vs ds _ => vs.length = ds.length) rfl (fun _ _ ih => congrArg (· + 1) ih) r

/-- what the flat data are in the heap -/
noncomputable def rinv (v : Value) (as : List Addr) (d : PyData) : Prop := match d with
  | .none => v = .none ∧ as = []
  | .bool b => v = .bool b ∧ as = []
  | .int i => (∃ t, v = .int i t) ∧ as = []
  | .str x => (∃ t, v = .str x t) ∧ as = []
  | _ => True
theorem reads_inv {h : Heap} {v : Value} {d : PyData} {as : List Addr} (r : Reads h v d as) : rinv v as d :=
  Reads.rec (motive_1 := fun v d as _ => rinv v as d) (motive_2 := fun _ _ _ _ => True) ⟨rfl, rfl⟩ (fun _ => ⟨rfl, rfl⟩) (fun _ t => ⟨⟨t, rfl⟩, rfl⟩) (fun _ t => ⟨⟨t, rfl⟩, rfl⟩) (fun _ _ _ _ _ => trivial) (fun _ _ _ _ _ => trivial) (fun _ _ _ _ _ _ _ => trivial) trivial (fun _ _ _ _ => trivial) r
theorem reads_str {h : Heap} {v : Value} {x : Str} {as : List Addr} (r : Reads h v (.str x) as) : ∃ t, v = .str x t := (reads_inv r).1
theorem reads_int {h : Heap} {v : Value} {x : Int} {as : List Addr} (r : Reads h v (.int x) as) : ∃ t, v = .int x t := (reads_inv r).1
theorem reads_bool {h : Heap} {v : Value} {x : Bool} {as : List Addr} (r : Reads h v (.bool x) as) : v = .bool x := (reads_inv r).1
theorem reads_nil {h : Heap} {vs : List Value} {ds : List PyData} {as : List Addr} (r : ReadsAll h vs ds as) : ds = [] → vs = [] ∧ as = [] :=
  readsAll_ind (fun vs ds as => ds = [] → vs = [] ∧ as = []) (fun _ => ⟨rfl, rfl⟩) (fun _ _ _ e => absurd e (List.cons_ne_nil _ _)) r
theorem reads_cons {h : Heap} {vs : List Value} {e : PyData} {es : List PyData} {as : List Addr} (r : ReadsAll h vs (e :: es) as) : ∃ v ws bs cs, vs = v :: ws ∧ Reads h v e bs ∧ ReadsAll h ws es cs ∧ as = bs ++ cs :=
  readsAll_ind (fun vs ds as => match ds with | [] => True | e :: es => ∃ v ws bs cs, vs = v :: ws ∧ Reads h v e bs ∧ ReadsAll h ws es cs ∧ as = bs ++ cs) trivial (fun r q _ => ⟨_, _, _, _, rfl, r, q, rfl⟩) r
theorem reads_two {h : Heap} {v w : Value} {x y : Str} {as bs : List Addr} (r : Reads h v (.str x) as) (q : Reads h w (.str y) bs) : ∃ t u, v = .str x t ∧ w = .str y u := let ⟨t, e⟩ := reads_str r; let ⟨u, f⟩ := reads_str q; ⟨t, u, e, f⟩
theorem reads_twoi {h : Heap} {v w : Value} {x y : Int} {as bs : List Addr} (r : Reads h v (.int x) as) (q : Reads h w (.int y) bs) : ∃ t u, v = .int x t ∧ w = .int y u := let ⟨t, e⟩ := reads_int r; let ⟨u, f⟩ := reads_int q; ⟨t, u, e, f⟩
/-- h' keeps the tuples of h, and all that is off Φ and μ (a general move; Ext and statement steps are such) -/
structure Mv (h : Heap) (Φ : Addr → Prop) (μ : Mu) (h' : Heap) (μ' : Mu) : Prop where
  new : ∃ ν, μ' = μ ++ ν ∧ ∀ a, FP ν a → h.objs.size ≤ a
  size : h.objs.size ≤ h'.objs.size
  tup : ∀ b o, h.get? b = some o → TupObj o → h'.get? b = some o
  off : ∀ b o, h.get? b = some o → ¬ Φ b → ¬ FP μ b → h'.get? b = some o

theorem off_new {h : Heap} {Φ : Addr → Prop} {μ ν : Mu} {as : List Addr} (ho : Off Φ μ as) (hl : ∀ a ∈ as, a < h.objs.size) (hn : ∀ a, FP ν a → h.objs.size ≤ a) : Off Φ (μ ++ ν) as :=
  fun a ha => ⟨(ho a ha).1, fun hf => (FP.app.mp hf).elim (ho a ha).2 fun hf => Nat.lt_irrefl _ (Nat.lt_of_lt_of_le (hl a ha) (hn a hf))⟩

theorem VOk.mv {h h' : Heap} {Φ : Addr → Prop} {μ μ' : Mu} (m : Mv h Φ μ h' μ') {x : V} {v : Value} (hv : VOk h Φ μ x v) : VOk h' Φ μ' x v := by
  obtain ⟨ν, e, hn⟩ := m.new
  cases x with
  | d x => exact let ⟨as, r, ho⟩ := hv; ⟨as, reads_move (fun b => ¬ Φ b ∧ ¬ FP μ b) (fun b o e hp => hp.elim (m.tup b o e) fun hp => m.off b o e hp.1 hp.2) r ho, e ▸ off_new ho (reads_lt r) hn⟩
  | ref i => exact let ⟨p, hp, hv⟩ := hv; ⟨p, by rw [e, List.getElem?_append_left (List.getElem?_eq_some_iff.mp hp).1]; exact hp, hv⟩

theorem VsOk.mv {h h' : Heap} {Φ : Addr → Prop} {μ μ' : Mu} (m : Mv h Φ μ h' μ') {xs : List V} {vs : List Value} (r : VsOk h Φ μ xs vs) : VsOk h' Φ μ' xs vs :=
  vsOk_ind (fun xs vs => VsOk h' Φ μ' xs vs) trivial (fun a _ b => ⟨a.mv m, b⟩) r

/-- no mutable object is a tuple -/
theorem PlainList.notTup {h : Heap} {a : Addr} {vs : Array Value} (x : h.PlainList a vs) : ∀ o, h.get? a = some o → ¬ TupObj o := by
  obtain ⟨n, e⟩ := x
  intro o ho ht
  rw [e] at ho; cases ho
  exact absurd (Value.type.inj ht.1) (by decide)

theorem HOk.lives {W : Wd} {h : Heap} {Φ : Addr → Prop} {μ : Mu} {H : List O} (K : HOk W h Φ μ H) {a : Addr} (hf : FP μ a) : ∃ o, h.get? a = some o := by
  obtain ⟨p, hp, ha⟩ := hf
  obtain ⟨i, hi⟩ := List.mem_iff_getElem?.mp hp
  have hlt : i < H.length := K.len ▸ (List.getElem?_eq_some_iff.mp hi).1
  obtain ⟨p', hp', hk⟩ := K.obj i H[i] (List.getElem?_eq_getElem hlt)
  rw [hi] at hp'; cases hp'
  cases hO : H[i] with
  | list l =>
    rw [hO] at hk
    obtain ⟨e, vs, as, ⟨n, hl⟩, _⟩ := hk
    have : a = p.1 := ha.elim id fun x => x.trans e
    exact this ▸ ⟨_, hl⟩
  | dict l =>
    rw [hO] at hk
    obtain ⟨e, kvs, ⟨o', es, ep, ho', _⟩, _⟩ := hk
    have : a = p.1 := ha.elim id fun x => x.trans e
    exact this ▸ ⟨_, ho'⟩
  | inst c fs =>
    rw [hO] at hk
    obtain ⟨_, h1, m, ⟨⟨o2, es, n, h2, _⟩, _⟩, _⟩ := hk
    exact ha.elim (fun e => e ▸ ⟨_, h1⟩) fun e => e ▸ ⟨_, h2⟩
theorem HOk.lt {W : Wd} {h : Heap} {Φ : Addr → Prop} {μ : Mu} {H : List O} (K : HOk W h Φ μ H) {a : Addr} (hf : FP μ a) : a < h.objs.size := let ⟨_, ho⟩ := K.lives hf; Heap.lt_size ho

theorem HOk.notTup {W : Wd} {h : Heap} {Φ : Addr → Prop} {μ : Mu} {H : List O} (K : HOk W h Φ μ H) : ∀ a, FP μ a → ∀ o, h.get? a = some o → ¬ TupObj o := by
  rintro a ⟨p, hp, ha⟩ o ho ht
  obtain ⟨i, hi⟩ := List.mem_iff_getElem?.mp hp
  have hlt : i < H.length := K.len ▸ (List.getElem?_eq_some_iff.mp hi).1
  obtain ⟨p', hp', hk⟩ := K.obj i H[i] (List.getElem?_eq_getElem hlt)
  rw [hi] at hp'; cases hp'
  cases hO : H[i] with
  | list l =>
    rw [hO] at hk
    obtain ⟨e, vs, as, hl, _⟩ := hk
    have : a = p.1 := ha.elim id fun x => x.trans e
    subst this
    exact PlainList.notTup hl o ho ht
  | dict l =>
    rw [hO] at hk
    obtain ⟨e, kvs, hd, _⟩ := hk
    have : a = p.1 := ha.elim id fun x => x.trans e
    subst this
    obtain ⟨o', es, ep, ho', hx, hd', _⟩ := hd
    rw [ho] at ho'; cases ho'
    exact absurd (hx.1.symm.trans ht.1) (by decide)
  | inst c fs =>
    rw [hO] at hk
    obtain ⟨_, h1, m, ⟨⟨o2, es, n, h2, hd2, _⟩, _⟩, _⟩ := hk
    rcases ha with rfl | rfl
    · rw [h1] at ho; cases ho
      exact absurd ht.1 (by show ¬ (Value.ref c = _); intro e; cases e)
    · rw [h2] at ho; cases ho
      obtain ⟨_, vs, k, hd⟩ := ht
      rw [hd2] at hd; cases hd

theorem Ext.mv {W : Wd} {h h' : Heap} {Φ : Addr → Prop} {μ μ' : Mu} {H : List O} (x : Ext h μ h' μ') (K : HOk W h Φ μ H) : Mv h Φ μ h' μ' :=
  ⟨x.new, x.size, fun b o e ht => x.keep b o e fun hf => K.notTup b hf o e ht, fun b o e _ hf => x.keep b o e hf⟩

theorem Ext.refl {h : Heap} {μ : Mu} : Ext h μ h μ := ⟨⟨[], by simp, fun _ ha => absurd ha FP.nil⟩, Nat.le_refl _, fun _ _ e _ => e⟩
theorem Ext.trans {h h₁ h₂ : Heap} {μ μ₁ μ₂ : Mu} (x : Ext h μ h₁ μ₁) (y : Ext h₁ μ₁ h₂ μ₂) : Ext h μ h₂ μ₂ := by
  obtain ⟨ν₁, rfl, n₁⟩ := x.new
  obtain ⟨ν₂, rfl, n₂⟩ := y.new
  refine ⟨⟨ν₁ ++ ν₂, by rw [List.append_assoc], fun a ha => (FP.app.mp ha).elim (n₁ a) fun h => Nat.le_trans x.size (n₂ a h)⟩, Nat.le_trans x.size y.size, fun b o e hf => ?_⟩
  refine y.keep b o (x.keep b o e hf) fun hf' => (FP.app.mp hf').elim hf fun hn => ?_
  exact Nat.lt_irrefl _ (Nat.lt_of_lt_of_le (Heap.lt_size e) (n₁ b hn))
/-- nothing of the mutable objects is turned: only new things lie behind -/
theorem Ext.grow {h h' : Heap} {μ : Mu} (hk : ∀ b o, h.get? b = some o → h'.get? b = some o) (hs : h.objs.size ≤ h'.objs.size) : Ext h μ h' μ :=
  ⟨⟨[], by simp, fun _ ha => absurd ha FP.nil⟩, hs, fun b o e _ => hk b o e⟩

theorem DictRel.move {h h' : Heap} (hk : ∀ b o, h.get? b = some o → TupObj o → h'.get? b = some o) {l : List (Str × PyData)} {kvs : List (Str × Value)} (r : DictRel h l kvs) : DictRel h' l kvs :=
  dictRel_ind (fun xs vs => DictRel h' xs vs) trivial (fun a b _ ih => ⟨a, reads_move (fun _ => False) (fun b o e hp => hp.elim (hk b o e) False.elim) b all_nil, ih⟩) r

/-- the objects stand as they stood when their own addresses are kept -/
theorem OOk.mv {W : Wd} {h h' : Heap} {Φ : Addr → Prop} {μ μ' : Mu} (m : Mv h Φ μ h' μ') {p : Addr × Addr} (h1 : ∀ o, h.get? p.1 = some o → h'.get? p.1 = some o) (h2 : ∀ o, h.get? p.2 = some o → h'.get? p.2 = some o)
    {o : O} (ho : OOk W h Φ μ p o) : OOk W h' Φ μ' p o := by
  obtain ⟨ν, eν, hn⟩ := m.new
  cases o with
  | list l => exact let ⟨e, vs, as, ⟨n, hl⟩, hr, ho⟩ := ho; ⟨e, vs, as, ⟨n, h1 _ hl⟩, readsAll_move (fun b => ¬ Φ b ∧ ¬ FP μ b) (fun b o e hp => hp.elim (m.tup b o e) fun hp => m.off b o e hp.1 hp.2) hr ho, eν ▸ off_new ho (readsAll_lt hr) hn⟩
  | dict l => exact let ⟨e, kvs, ⟨o, es, ep, ho, r⟩, hd⟩ := ho; ⟨e, kvs, ⟨o, es, ep, h1 _ ho, r⟩, hd.move m.tup⟩
  | inst c fs => exact let ⟨e, hi, mm, ⟨⟨o, es, n, hd, r⟩, hz⟩, hf⟩ := ho; ⟨e, h1 _ hi, mm, ⟨⟨o, es, n, h2 _ hd, r⟩, hz⟩, fun x v hx => let ⟨cv, a, b⟩ := hf x v hx; ⟨cv, a, b.mv m⟩⟩

theorem Inv.ext {W : Wd} {s s' : Shared} {Φ : Addr → Prop} {μ μ' : Mu} {H : List O} (I : Inv W s) (K : HOk W s.heap Φ μ H) (x : Ext s.heap μ s'.heap μ') (hg : s'.gens = s.gens) (ho : s'.os = s.os) : Inv W s' :=
  ⟨fun b o e => x.keep b o (I.keep b o e) fun hf => Nat.lt_irrefl _ (Nat.lt_of_lt_of_le (Heap.lt_size e) (K.above b hf).1), hg.trans I.gens, ho.trans I.os, Nat.le_trans I.size x.size⟩

/-- when the whole of the old heap is kept -/
theorem HOk.grow {W : Wd} {h h' : Heap} {Φ : Addr → Prop} {μ : Mu} {H : List O} (K : HOk W h Φ μ H) (hk : ∀ b o, h.get? b = some o → h'.get? b = some o) (hs : h.objs.size ≤ h'.objs.size) : HOk W h' Φ μ H :=
  ⟨K.len, K.sep, K.above, fun i o e => let ⟨p, hp, ho⟩ := K.obj i o e; ⟨p, hp, ho.mv ((Ext.grow hk hs).mv K) (fun _ => hk _ _) (fun _ => hk _ _)⟩⟩

/-! ## M2 -/
noncomputable def Foot (env : Env) (a : Addr) : Prop := a = env.locals ∨ ∃ x, env.cells.lookup x = some a
noncomputable def Out (Φ : Addr → Prop) (env : Env) (a : Addr) : Prop := Φ a ∨ Foot env a

structure EnvOk (sc : Scope) (env : Env) : Prop where
  scope : env.scope = sc
  globals : env.globals = mainGlobals
  builtins : env.builtins = builtinsNs

noncomputable abbrev Rho := List (Option V)

structure Loc (h : Heap) (Φ : Addr → Prop) (μ : Mu) (env : Env) (nm : List Str) (ρ : Rho) : Prop where
  nodup : nm.Nodup
  len : ρ.length = nm.length
  ns : ∃ m, h.Ns env.locals m ∧ ∀ (i : Nat) (x : Str) (v : V), nm[i]? = some x → env.kindOf x = some .local → ρ[i]? = some (some v) → ∃ cv, m x = some cv ∧ VOk h Φ μ v cv
  cell : ∀ (i : Nat) (x : Str) (v : V), nm[i]? = some x → (env.kindOf x = some .cell ∨ env.kindOf x = some .free) → ρ[i]? = some (some v) →
    ∃ c cv, env.cells.lookup x = some c ∧ h.IsCell c (some cv) ∧ VOk h Φ μ v cv
  cells : ∀ x c, env.cells.lookup x = some c → (∃ ov, h.IsCell c ov) ∧ c ≠ env.locals
  apart : ∀ x y c, env.cells.lookup x = some c → env.cells.lookup y = some c → x = y

structure St (W : Wd) (env : Env) (nm : List Str) (Φ : Addr → Prop) (s : Shared) (μ : Mu) (ρ : Rho) (H : List O) : Prop where
  inv : Inv W s
  below : Below s.heap (Out Φ env)
  hok : HOk W s.heap (Out Φ env) μ H
  loc : Loc s.heap (Out Φ env) μ env nm ρ
  base : ∀ a, Foot env a → W.base.objs.size ≤ a
  apart : ∀ a, Foot env a → ¬ Φ a
  cellsAll : ∀ x, env.kindOf x = some .cell → ∃ c, env.cells.lookup x = some c

noncomputable def PostE (W : Wd) (env : Env) (nm : List Str) (Φ : Addr → Prop) (s : Shared) (μ : Mu) (ρ : Rho) (Q : V → List O → Prop) (cv : Value) (s' : Shared) : Prop :=
  ∃ v H' μ', St W env nm Φ s' μ' ρ H' ∧ Ext s.heap μ s'.heap μ' ∧ VOk s'.heap (Out Φ env) μ' v cv ∧ Q v H'
noncomputable def PostEs (W : Wd) (env : Env) (nm : List Str) (Φ : Addr → Prop) (s : Shared) (μ : Mu) (ρ : Rho) (Q : List V → List O → Prop) (cvs : List Value) (s' : Shared) : Prop :=
  ∃ vs H' μ', St W env nm Φ s' μ' ρ H' ∧ Ext s.heap μ s'.heap μ' ∧ VsOk s'.heap (Out Φ env) μ' vs cvs ∧ Q vs H'
noncomputable def PostT (W : Wd) (env : Env) (nm : List Str) (Φ : Addr → Prop) (s : Shared) (μ : Mu) (ρ : Rho) (Q : Bool → List O → Prop) (b : Bool) (s' : Shared) : Prop :=
  ∃ H' μ', St W env nm Φ s' μ' ρ H' ∧ Ext s.heap μ s'.heap μ' ∧ Q b H'

theorem PostE.use {W : Wd} {env : Env} {nm : List Str} {Φ : Addr → Prop} {s : Shared} {μ : Mu} {ρ : Rho} {Q : V → List O → Prop} {cv : Value} {s' : Shared} {C : Prop} (p : PostE W env nm Φ s μ ρ Q cv s')
    (k : ∀ v H' μ', St W env nm Φ s' μ' ρ H' → Ext s.heap μ s'.heap μ' → VOk s'.heap (Out Φ env) μ' v cv → Q v H' → C) : C := let ⟨v, H', μ', a, b, c, e⟩ := p; k v H' μ' a b c e
theorem PostEs.use {W : Wd} {env : Env} {nm : List Str} {Φ : Addr → Prop} {s : Shared} {μ : Mu} {ρ : Rho} {Q : List V → List O → Prop} {cvs : List Value} {s' : Shared} {C : Prop} (p : PostEs W env nm Φ s μ ρ Q cvs s')
    (k : ∀ vs H' μ', St W env nm Φ s' μ' ρ H' → Ext s.heap μ s'.heap μ' → VsOk s'.heap (Out Φ env) μ' vs cvs → Q vs H' → C) : C := let ⟨v, H', μ', a, b, c, e⟩ := p; k v H' μ' a b c e
theorem PostT.use {W : Wd} {env : Env} {nm : List Str} {Φ : Addr → Prop} {s : Shared} {μ : Mu} {ρ : Rho} {Q : Bool → List O → Prop} {t : Bool} {s' : Shared} {C : Prop} (p : PostT W env nm Φ s μ ρ Q t s')
    (k : ∀ H' μ', St W env nm Φ s' μ' ρ H' → Ext s.heap μ s'.heap μ' → Q t H' → C) : C := let ⟨H', μ', a, b, e⟩ := p; k H' μ' a b e

noncomputable abbrev Tr := Nat → Rho → List O → (V → List O → Prop) → Prop
noncomputable abbrev TrL := Nat → Rho → List O → (List V → List O → Prop) → Prop
noncomputable abbrev TrB := Nat → Rho → List O → (Bool → List O → Prop) → Prop
noncomputable abbrev TrS := Nat → Rho → List O → (Fl → Rho → List O → Prop) → Prop

/-- what is said of a run in a frame, from a related state -/
noncomputable def Run {α : Type} (W : Wd) (sc : Scope) (nm : List Str) (t : Env → Sem α) (P : Env → (Addr → Prop) → Shared → Mu → Rho → α → Shared → Prop) (pre : Nat → Rho → List O → Prop) : Prop :=
  ∀ (d : Nat) (A : Around) (E : Value → Shared → Prop) (s : Shared) (env : Env) (Φ : Addr → Prop) (μ : Mu) (ρ : Rho) (H : List O),
    EnvOk sc env → OkA d A → St W env nm Φ s μ ρ H → pre d ρ H → wpAny (model W.prog W.w) A (t env) (P env Φ s μ ρ) E s

structure SndE (W : Wd) (sc : Scope) (nm : List Str) (e : Expr) (x : Tr) : Prop where
  mk ::
  go : ∀ Q, Run W sc nm (fun env => eval e env) (fun env Φ s μ ρ => PostE W env nm Φ s μ ρ Q) fun d ρ H => x d ρ H Q
structure SndL (W : Wd) (sc : Scope) (nm : List Str) (es : List Expr) (x : TrL) : Prop where
  mk ::
  go : ∀ pos Q, Run W sc nm (fun env => spliced (backTo pos (starEach es env))) (fun env Φ s μ ρ => PostEs W env nm Φ s μ ρ Q) fun d ρ H => x d ρ H Q
structure SndT (W : Wd) (sc : Scope) (nm : List Str) (e : Expr) (x : TrB) : Prop where
  mk ::
  go : ∀ Q, Run W sc nm (fun env => isTrue e env (eval e env)) (fun env Φ s μ ρ => PostT W env nm Φ s μ ρ Q) fun d ρ H => x d ρ H Q

section
variable {W : Wd} {sc : Scope} {nm : List Str} {env : Env} {Φ : Addr → Prop} {s s' : Shared} {μ μ' : Mu} {ρ : Rho} {H H' : List O}

theorem St.off {a : Addr} (S : St W env nm Φ s μ ρ H) (h : Foot env a) : ¬ FP μ a := fun hf => (S.hok.above a hf).2 (.inr h)

theorem Heap.Ns.move {h h' : Heap} {a : Addr} {m} (x : h.Ns a m) (e : ∀ o, h.get? a = some o → h'.get? a = some o) : h'.Ns a m :=
  let ⟨o, es, ep, ho, r⟩ := x; ⟨o, es, ep, e o ho, r⟩
theorem IsCell.move {h h' : Heap} {c : Addr} {v} (x : h.IsCell c v) (e : ∀ o, h.get? c = some o → h'.get? c = some o) : h'.IsCell c v :=
  let ⟨o, ho, r⟩ := x; ⟨o, e o ho, r⟩

/-- the locals stand where the frame's own things are kept -/
theorem Loc.mv {h h' : Heap} (L : Loc h Φ μ env nm ρ) (m : Mv h Φ μ h' μ') (hk : ∀ a, Foot env a → ∀ o, h.get? a = some o → h'.get? a = some o) : Loc h' Φ μ' env nm ρ := by
  refine ⟨L.nodup, L.len, ?_, ?_, ?_, L.apart⟩
  · obtain ⟨mm, hn, hv⟩ := L.ns
    exact ⟨mm, Heap.Ns.move hn (hk _ (.inl rfl)), fun i x v h1 h2 h3 => let ⟨cv, a, b⟩ := hv i x v h1 h2 h3; ⟨cv, a, b.mv m⟩⟩
  · intro i x v h1 h2 h3
    obtain ⟨c, cv, a, b, e⟩ := L.cell i x v h1 h2 h3
    exact ⟨c, cv, a, IsCell.move b (hk _ (.inr ⟨x, a⟩)), e.mv m⟩
  · intro x c hx
    obtain ⟨⟨ov, a⟩, b⟩ := L.cells x c hx
    exact ⟨⟨ov, IsCell.move a (hk _ (.inr ⟨x, hx⟩))⟩, b⟩

/-- an expression's step: the frame's own things are off the objects -/
theorem St.ext (S : St W env nm Φ s μ ρ H) (x : Ext s.heap μ s'.heap μ') (K : HOk W s'.heap (Out Φ env) μ' H') (hg : s'.gens = s.gens) (ho : s'.os = s.os) : St W env nm Φ s' μ' ρ H' :=
  ⟨S.inv.ext S.hok x hg ho, fun a ha => Nat.lt_of_lt_of_le (S.below a ha) x.size, K, S.loc.mv (x.mv S.hok) (fun a ha o e => x.keep a o e (S.off ha)), S.base, S.apart, S.cellsAll⟩

theorem St.grow (S : St W env nm Φ s μ ρ H) (hk : ∀ b o, s.heap.get? b = some o → s'.heap.get? b = some o) (hs : s.heap.objs.size ≤ s'.heap.objs.size) (hg : s'.gens = s.gens) (ho : s'.os = s.os) : St W env nm Φ s' μ ρ H :=
  S.ext (Ext.grow hk hs) (S.hok.grow hk hs) hg ho

theorem St.toks (S : St W env nm Φ s μ ρ H) (t : Nat) : St W env nm Φ { s with toks := t } μ ρ H := S.grow (s' := { s with toks := t }) (fun _ _ e => e) (Nat.le_refl _) rfl rfl

theorem OkA.lt {d : Nat} {A : Around} (h : OkA d A) : A.depth < recursionLimit := by have := h.depth; show A.depth < 1000; lia
theorem OkA.room {d : Nat} {A : Around} (h : OkA d A) : A.units + 64 < cLine := by have := h.units; rw [cLine_is]; lia
variable {Q : V → List O → Prop} {d : Nat} {A : Around} {E : Value → Shared → Prop}

theorem post_here {v : V} {cv : Value} {t : Nat} (S : St W env nm Φ s μ ρ H) (hv : VOk s.heap (Out Φ env) μ v cv) (hq : Q v H) : PostE W env nm Φ s μ ρ Q cv { s with toks := t } :=
  ⟨v, H, μ, S.toks t, Ext.refl, hv, hq⟩
theorem post_here' {v : V} {cv : Value} (S : St W env nm Φ s μ ρ H) (hv : VOk s.heap (Out Φ env) μ v cv) (hq : Q v H) : PostE W env nm Φ s μ ρ Q cv s :=
  ⟨v, H, μ, S, Ext.refl, hv, hq⟩

theorem vok_val {h : Heap} {x : PyData} {cv : Value} (r : Reads h cv x []) : VOk h Φ μ (.d x) cv := ⟨[], r, fun _ ha => nomatch ha⟩

theorem PostE.after {Q : V → List O → Prop} {s₁ : Shared} {μ₁ : Mu} {cv : Value} (x : Ext s.heap μ s₁.heap μ₁) (p : PostE W env nm Φ s₁ μ₁ ρ Q cv s') : PostE W env nm Φ s μ ρ Q cv s' :=
  let ⟨v, H', μ', S, y, hv, hq⟩ := p; ⟨v, H', μ', S, x.trans y, hv, hq⟩
theorem PostT.after {Q : Bool → List O → Prop} {s₁ : Shared} {μ₁ : Mu} {cv : Bool} (x : Ext s.heap μ s₁.heap μ₁) (p : PostT W env nm Φ s₁ μ₁ ρ Q cv s') : PostT W env nm Φ s μ ρ Q cv s' :=
  let ⟨H', μ', S, y, hq⟩ := p; ⟨H', μ', S, x.trans y, hq⟩
end

section
variable {W : Wd} {sc : Scope} {nm : List Str}

/-! ### constants and names -/
noncomputable def t_snd_str (x : Str) : Tr := fun _ _ H Q => Q (.d (.str x)) H
theorem snd_str {x : Str} {k pos} : SndE W sc nm (.Constant (.str x) k pos) (t_snd_str x) :=
  .mk fun _ _ _ _ _ _ _ _ _ _ _ _ S hq => Constant_str (post_here S (vok_val (.str _ _)) hq)
noncomputable def t_snd_int (x : Int) : Tr := fun _ _ H Q => Q (.d (.int x)) H
theorem snd_int {x : Int} {k pos} : SndE W sc nm (.Constant (.int x) k pos) (t_snd_int x) :=
  .mk fun _ _ _ _ _ _ _ _ _ _ _ _ S hq => wpAny_Constant_int (post_here S (vok_val (.int _ _)) hq)
noncomputable def t_snd_bool (x : Bool) : Tr := fun _ _ H Q => Q (.d (.bool x)) H
theorem snd_bool {x : Bool} {k pos} : SndE W sc nm (.Constant (.bool x) k pos) (t_snd_bool x) :=
  .mk fun _ _ _ _ _ _ _ _ _ _ _ _ S hq => Constant_bool (post_here' S (vok_val (.bool _)) hq)
noncomputable def getS (ρ : Rho) (i : Nat) (Q : V → Prop) : Prop := match ρ[i]? with | some (some v) => Q v | _ => False
theorem getS_some {ρ : Rho} {i : Nat} {Q : V → Prop} (h : getS ρ i Q) : ∃ v, ρ[i]? = some (some v) ∧ Q v := by
  unfold getS at h
  cases e : ρ[i]? with
  | none => rw [e] at h; exact False.elim h
  | some o => cases o with
    | none => rw [e] at h; exact False.elim h
    | some v => rw [e] at h; exact ⟨v, rfl, h⟩

/-- is x a name of the frame's own, and where -/
noncomputable def slotOk (sc : Scope) (nm : List Str) (x : Str) (i : Nat) : Bool :=
  sc.kind == .function && nm[i]? == some x && (sc.names.lookup x == some .local || sc.names.lookup x == some .cell || sc.names.lookup x == some .free) && x != "__classdict__" && x != "__debug__"

theorem slotOk_spec {x : Str} {i : Nat} (h : slotOk sc nm x i = true) : sc.kind = .function ∧ nm[i]? = some x ∧ (sc.names.lookup x = some .local ∨ sc.names.lookup x = some .cell ∨ sc.names.lookup x = some .free) ∧
    (x == ("__classdict__" : Str)) = false ∧ (x == ("__debug__" : Str)) = false := by
  unfold slotOk at h
  simp only [Bool.and_eq_true, Bool.or_eq_true, beq_iff_eq, bne_iff_ne, ne_eq] at h
  obtain ⟨⟨⟨⟨h1, h2⟩, h3⟩, h4⟩, h5⟩ := h
  refine ⟨h1, h2, ?_, beq_eq_false_iff_ne.mpr h4, beq_eq_false_iff_ne.mpr h5⟩
  rcases h3 with (h | h) | h
  · exact .inl h
  · exact .inr (.inl h)
  · exact .inr (.inr h)

noncomputable def t_snd_name (i : Nat) : Tr := fun _ ρ H Q => getS ρ i fun v => Q v H
theorem snd_name {x : Str} {pos : Pos} {i : Nat} (hi : slotOk sc nm x i = true) : SndE W sc nm (.Name x pos) (t_snd_name i) :=
  .mk fun Q d A E s env Φ μ ρ H hE hA S hq => by
    obtain ⟨hk, hn, hl, hc, hd⟩ := slotOk_spec hi
    obtain ⟨v, hv, hq⟩ := getS_some hq
    refine wpAny_Name ?_ hd
    have hkind : ∀ k, sc.names.lookup x = some k → env.kindOf x = some k := fun k e => by
      show env.scope.names.lookup x = _
      rw [hE.scope]; exact e
    have hk' : env.scope.kind = .function := by rw [hE.scope]; exact hk
    rcases hl with hl | hl | hl
    · obtain ⟨m, hm, hval⟩ := S.loc.ns
      obtain ⟨cv, e, hok⟩ := hval i x v hn (hkind _ hl) hv
      exact wpAny_loadName_local hk' (hkind _ hl) hm e (post_here' S hok hq)
    · obtain ⟨c, cv, e1, e2, hok⟩ := S.loc.cell i x v hn (.inl (hkind _ hl)) hv
      exact wpAny_loadName_cell hk' (hkind _ hl) e1 e2 (post_here' S hok hq)
    · obtain ⟨c, cv, e1, e2, hok⟩ := S.loc.cell i x v hn (.inr (hkind _ hl)) hv
      exact wpAny_loadName_free hk' (hkind _ hl) e1 e2 (post_here' S hok hq) hc

/-- a global name: what stands at the top -/
noncomputable def globOk (sc : Scope) (x : Str) : Bool := sc.kind == .function && sc.names.lookup x == some .globalImplicit && x != "__debug__"
theorem globOk_spec {x : Str} (h : globOk sc x = true) : sc.kind = .function ∧ sc.names.lookup x = some .globalImplicit ∧ (x == ("__debug__" : Str)) = false := by
  unfold globOk at h
  simp only [Bool.and_eq_true, beq_iff_eq, bne_iff_ne, ne_eq] at h
  exact ⟨h.1.1, h.1.2, beq_eq_false_iff_ne.mpr h.2⟩

theorem load_global {x : Str} {pos : Pos} {v : Value} {env : Env} {nm : List Str} {Φ : Addr → Prop} {s : Shared} {μ : Mu} {ρ : Rho} {H : List O} {A : Around} {E : Value → Shared → Prop} {Q : Value → Shared → Prop}
    (hg : globOk sc x = true) (hE : EnvOk sc env) (S : St W env nm Φ s μ ρ H) (hv : W.mg x = some v) (hq : Q v s) : wpAny (model W.prog W.w) A (eval (.Name x pos) env) Q E s := by
  obtain ⟨hk, hl, hd⟩ := globOk_spec hg
  refine Name_function_global (by rw [hE.scope]; exact hk) (by show env.scope.names.lookup x = _; rw [hE.scope]; exact hl) ?_ hd
  refine loadGlobal_global (mg := W.mg) ?_ hv hq
  rw [hE.globals]
  exact W.hg.keeps S.inv.keep
theorem load_builtin {x : Str} {pos : Pos} {v : Value} {env : Env} {nm : List Str} {Φ : Addr → Prop} {s : Shared} {μ : Mu} {ρ : Rho} {H : List O} {A : Around} {E : Value → Shared → Prop} {Q : Value → Shared → Prop}
    (hg : globOk sc x = true) (hE : EnvOk sc env) (S : St W env nm Φ s μ ρ H) (hm : W.mg x = none) (hv : W.mb x = some v) (hq : Q v s) : wpAny (model W.prog W.w) A (eval (.Name x pos) env) Q E s := by
  obtain ⟨hk, hl, hd⟩ := globOk_spec hg
  refine Name_function_global (by rw [hE.scope]; exact hk) (by show env.scope.names.lookup x = _; rw [hE.scope]; exact hl) ?_ hd
  refine loadGlobal_builtin (mg := W.mg) (mb := W.mb) ?_ hm ?_ hv hq
  · rw [hE.globals]; exact W.hg.keeps S.inv.keep
  · rw [hE.builtins]; exact W.hb.keeps S.inv.keep

noncomputable def t_snd_global (c : PyData) : Tr := fun _ _ H Q => Q (.d c) H
theorem snd_global {x : Str} {pos : Pos} {v : Value} {c : PyData} (hg : globOk sc x = true) (hv : W.mg x = some v) (hr : Reads W.base v c []) : SndE W sc nm (.Name x pos) (t_snd_global c) :=
  .mk fun _ _ _ _ _ _ _ _ _ _ hE _ S hq => load_global hg hE S hv (post_here' S (vok_val (Reads.keeps S.inv.keep hr)) hq)

/-! ### lists of expressions, displays -/
theorem star1 {e : Expr} {r : List Expr} (h : isStarred e = false) (env : Env) : starEach (e :: r) env = (false, eval e env) :: starEach r env := by
  cases e <;> first | rfl | (exact absurd h (by intro q; cases q))
noncomputable def t_snd_nil  : TrL := fun _ _ H Q => Q [] H
theorem snd_nil : SndL W sc nm [] t_snd_nil :=
  .mk fun _ _ _ _ _ s _ _ μ _ H _ _ S hq => spliced_nil ⟨[], H, μ, S, Ext.refl, trivial, hq⟩
noncomputable def t_snd_cons (x : Tr) (xs : TrL) : TrL := fun d ρ H Q => x d ρ H fun v H => xs d ρ H fun vs H => Q (v :: vs) H
theorem snd_cons {e : Expr} {es : List Expr} {x : Tr} {xs : TrL} (h1 : SndE W sc nm e x) (h2 : SndL W sc nm es xs) (hst : isStarred e = false := by rfl) :
    SndL W sc nm (e :: es) (t_snd_cons x xs) :=
  .mk fun pos Q d A E s env Φ μ ρ H hE hA S hq => by
    show wpAny _ _ (spliced (backTo pos (starEach (e :: es) env))) _ _ _
    rw [star1 hst env]
    show wpAny _ _ (spliced ((false, eval e env) :: backTo pos (starEach es env))) _ _ _
    refine spliced_cons (wpAny_mono (h1.go _ d A E s env Φ μ ρ H hE hA S hq) (fun cv s₁ p => ?_) fun _ _ x => x)
    refine PostE.use p fun v H₁ μ₁ S₁ x₁ hv hq => ?_
    clear p
    refine wpAny_mono (h2.go pos _ d A E s₁ env Φ μ₁ ρ H₁ hE hA S₁ hq) (fun cvs s₂ p => ?_) fun _ _ x => x
    refine PostEs.use p fun vs H₂ μ₂ S₂ x₂ hvs hq => ?_
    clear p
    exact ⟨v :: vs, H₂, μ₂, S₂, x₁.trans x₂, ⟨hv.mv (x₂.mv S₁.hok), hvs⟩, hq⟩

noncomputable def allD : List V → Option (List PyData)
  | [] => some []
  | .d x :: r => (allD r).map (x :: ·)
  | .ref _ :: _ => none
theorem map_some {α β : Type} {f : α → β} {o : Option α} {y : β} (e : o.map f = some y) : ∃ x, o = some x ∧ f x = y := by
  cases o with
  | none => cases e
  | some x => exact ⟨x, rfl, Option.some.inj e⟩
theorem allD_ok {h : Heap} {Φ : Addr → Prop} {μ : Mu} {vs : List V} {cvs : List Value} {ds : List PyData} (r : VsOk h Φ μ vs cvs) : allD vs = some ds → ∃ as, ReadsAll h cvs ds as ∧ Off Φ μ as := by
  refine vsOk_ind (fun vs cvs => ∀ ds, allD vs = some ds → ∃ as, ReadsAll h cvs ds as ∧ Off Φ μ as) (fun ds e => Option.some.inj e ▸ ⟨[], .nil, all_nil⟩) (fun {v cv vs cvs} hv _ ih ds e => ?_) r ds
  cases v with
  | ref => cases e
  | d x => exact let ⟨as, h1, o1⟩ := hv; let ⟨es, hr, e⟩ := map_some e; let ⟨bs, q, o2⟩ := ih es hr; e ▸ ⟨as ++ bs, .cons h1 q, all_app o1 o2⟩
theorem VsOk.length {h : Heap} {Φ : Addr → Prop} {μ : Mu} {vs : List V} {cvs : List Value} (r : VsOk h Φ μ vs cvs) : vs.length = cvs.length :=
  vsOk_ind (fun vs cvs => vs.length = cvs.length) rfl (fun _ _ ih => congrArg (· + 1) ih) r

noncomputable def withD (vs : List V) (Q : List PyData → Prop) : Prop := match allD vs with | some ds => Q ds | none => False
theorem withD_some {vs : List V} {Q : List PyData → Prop} (h : withD vs Q) : ∃ ds, allD vs = some ds ∧ Q ds := by
  unfold withD at h
  cases e : allD vs with
  | none => rw [e] at h; exact False.elim h
  | some ds => rw [e] at h; exact ⟨ds, rfl, h⟩

theorem readsAll_at {h : Heap} {cvs : List Value} {ds : List PyData} {as : List Addr} (r : ReadsAll h cvs ds as) : ReadsAll h cvs.toArray.toList ds as := r

noncomputable def t_snd_tuple (xs : TrL) : Tr := fun d ρ H Q => xs d ρ H fun vs H => withD vs fun ds => guard (Nat.ble ds.length 65536) (Q (.d (.tuple ds)) H)
/-- a tuple display of data -/
theorem snd_tuple {es : List Expr} {k pos} {xs : TrL} (h : SndL W sc nm es xs) : SndE W sc nm (.Tuple es k pos) (t_snd_tuple xs) :=
  .mk fun Q d A E s env Φ μ ρ H hE hA S hq => by
    refine wpAny_Tuple_spliced (wpAny_mono (h.go pos _ d A E s env Φ μ ρ H hE hA S hq) (fun cvs s₁ p => ?_) fun _ _ x => x)
    refine PostEs.use p fun vs H₁ μ₁ S₁ x₁ hvs hq => ?_
    clear p
    obtain ⟨ds, hds, hq⟩ := withD_some hq
    obtain ⟨hle, hq⟩ := gd_elim hq
    obtain ⟨as, hr, ho⟩ := allD_ok hvs hds
    have hlen : cvs.length = ds.length := readsAll_len hr
    refine ⟨by rw [sizeLine_eq]; lia, ?_⟩
    have g : ∀ b o, s₁.heap.get? b = some o → (s₁.heap.push { cls := .type "tuple", data := .seq cvs.toArray }).get? b = some o := fun b o e => Heap.get?_push_of_some _ e
    refine ⟨.d (.tuple ds), H₁, μ₁, S₁.grow (s' := { s₁ with heap := s₁.heap.push { cls := .type "tuple", data := .seq cvs.toArray } }) g (by rw [Heap.size_push]; exact Nat.le_succ _) rfl rfl, x₁.trans (Ext.grow g (by rw [Heap.size_push]; exact Nat.le_succ _)), ⟨as, ?_, ho⟩, hq⟩
    exact reads_tuple_at (Heap.get?_push_size _ rfl) rfl rfl (readsAll_at (ReadsAll.keeps g hr))

noncomputable def t_snd_list (xs : TrL) : Tr := fun d ρ H Q => xs d ρ H fun vs H => withD vs fun ds => guard (Nat.ble ds.length 65536) (Q (.d (.list ds)) H)
/-- a list display, never turned behind it: frozen at once -/
theorem snd_list {es : List Expr} {pos} {xs : TrL} (h : SndL W sc nm es xs) : SndE W sc nm (.List es pos) (t_snd_list xs) :=
  .mk fun Q d A E s env Φ μ ρ H hE hA S hq => by
    refine wpAny_List_spliced (wpAny_mono (h.go pos _ d A E s env Φ μ ρ H hE hA S hq) (fun cvs s₁ p => ?_) fun _ _ x => x)
    refine PostEs.use p fun vs H₁ μ₁ S₁ x₁ hvs hq => ?_
    clear p
    obtain ⟨ds, hds, hq⟩ := withD_some hq
    obtain ⟨hle, hq⟩ := gd_elim hq
    obtain ⟨as, hr, ho⟩ := allD_ok hvs hds
    have hlen : cvs.length = ds.length := readsAll_len hr
    refine ⟨by rw [sizeLine_eq]; lia, ?_⟩
    have g : ∀ b o, s₁.heap.get? b = some o → (s₁.heap.push { cls := .type "list", data := .seq cvs.toArray }).get? b = some o := fun b o e => Heap.get?_push_of_some _ e
    have S₂ := S₁.grow (s' := { s₁ with heap := s₁.heap.push { cls := .type "list", data := .seq cvs.toArray } }) g (by rw [Heap.size_push]; exact Nat.le_succ _) rfl rfl
    refine ⟨.d (.list ds), H₁, μ₁, S₂, x₁.trans (Ext.grow g (by rw [Heap.size_push]; exact Nat.le_succ _)), ⟨s₁.heap.objs.size :: as, ?_, ?_⟩, hq⟩
    · exact reads_list_at (Heap.get?_push_size _ rfl) rfl rfl (readsAll_at (ReadsAll.keeps g hr))
    · intro a ha
      rcases List.mem_cons.mp ha with rfl | ha
      · refine ⟨fun hp => Nat.lt_irrefl _ (S₁.below _ hp), fun hf => Nat.lt_irrefl _ (S₁.hok.lt hf)⟩
      · exact ho a ha
end

/-! ## M3 -/
/-! ### what a value reads as -/
@[reducible, simp] noncomputable def O.l? : O → Option PyData
  | .list l => some (.list l)
  | _ => none
@[reducible, simp] noncomputable def O.d? : O → Option (List (Str × PyData))
  | .dict l => some l
  | _ => none
noncomputable def viewD (H : List O) : V → Option PyData
  | .d x => some x
  | .ref i => match H[i]? with | some o => o.l? | none => none
noncomputable def dictOf? (H : List O) : V → Option (List (Str × PyData))
  | .ref i => match H[i]? with | some o => o.d? | none => none
  | _ => none

theorem viewD_inv {H : List O} {i : Nat} {x : PyData} (e : viewD H (.ref i) = some x) : ∃ l, H[i]? = some (.list l) ∧ x = .list l := by
  have e : (match H[i]? with | some o => o.l? | none => none) = some x := e
  cases hO : H[i]? with
  | none => rw [hO] at e; cases e
  | some o => rw [hO] at e; cases o with
    | list l => exact ⟨l, rfl, (Option.some.inj e).symm⟩
    | dict l => cases e
    | inst c l => cases e
theorem viewD_l {H : List O} {i : Nat} {l : List PyData} (h : H[i]? = some (.list l)) : viewD H (.ref i) = some (.list l) := by
  show (match H[i]? with | some o => o.l? | none => none) = _
  rw [h]
theorem dictOf_l {H : List O} {i : Nat} {l : List PyData} (h : H[i]? = some (.list l)) : dictOf? H (.ref i) = none := by
  show (match H[i]? with | some o => o.d? | none => none) = _
  rw [h]
theorem dictOf_d {H : List O} {i : Nat} {l : List (Str × PyData)} (h : H[i]? = some (.dict l)) : dictOf? H (.ref i) = some l := by
  show (match H[i]? with | some o => o.d? | none => none) = _
  rw [h]
theorem dictOf_inv {H : List O} {v : V} {l : List (Str × PyData)} (e : dictOf? H v = some l) : ∃ i, v = .ref i ∧ H[i]? = some (.dict l) := by
  cases v with
  | d x => cases e
  | ref i =>
    have e : (match H[i]? with | some o => o.d? | none => none) = some l := e
    cases hO : H[i]? with
    | none => rw [hO] at e; cases e
    | some o => rw [hO] at e; cases o with
      | list l => cases e
      | dict l => exact ⟨i, rfl, by rw [hO, Option.some.inj e]⟩
      | inst c l => cases e

section
variable {W : Wd} {h : Heap} {Φ : Addr → Prop} {μ : Mu} {H : List O}
theorem HOk.list {i : Nat} {l : List PyData} {p : Addr × Addr} (K : HOk W h Φ μ H) (hi : H[i]? = some (.list l)) (hp : μ[i]? = some p) :
    p.2 = p.1 ∧ ∃ vs as, h.PlainList p.1 vs ∧ ReadsAll h vs.toList l as ∧ Off Φ μ as := by
  obtain ⟨q, hq, ho⟩ := K.obj i _ hi
  rw [hp] at hq; cases hq
  exact ho
theorem HOk.dict {i : Nat} {l : List (Str × PyData)} {p : Addr × Addr} (K : HOk W h Φ μ H) (hi : H[i]? = some (.dict l)) (hp : μ[i]? = some p) :
    p.2 = p.1 ∧ ∃ kvs, h.DictOf (PySem.strKind W.prog W.w) p.1 kvs ∧ DictRel h l kvs := by
  obtain ⟨q, hq, ho⟩ := K.obj i _ hi
  rw [hp] at hq; cases hq
  exact ho
theorem view_ok {v : V} {cv : Value} {x : PyData} (K : HOk W h Φ μ H) (hv : VOk h Φ μ v cv) (e : viewD H v = some x) : ∃ as, Reads h cv x as := by
  cases v with
  | d y => cases e; exact let ⟨as, r, _⟩ := hv; ⟨as, r⟩
  | ref i =>
    obtain ⟨p, hp, ev⟩ := hv
    obtain ⟨l, hO, ex⟩ := viewD_inv e
    obtain ⟨_, vs, as, ⟨n, ho⟩, hr, _⟩ := K.list hO hp
    rw [ev, ex]
    exact ⟨_, reads_list_at ho rfl rfl hr⟩
theorem dict_ok {v : V} {cv : Value} {l : List (Str × PyData)} (K : HOk W h Φ μ H) (hv : VOk h Φ μ v cv) (e : dictOf? H v = some l) :
    ∃ i p, v = .ref i ∧ H[i]? = some (.dict l) ∧ μ[i]? = some p ∧ cv = .ref p.1 ∧ p.2 = p.1 ∧ ∃ kvs, h.DictOf (PySem.strKind W.prog W.w) p.1 kvs ∧ DictRel h l kvs := by
  obtain ⟨i, ei, hO⟩ := dictOf_inv e
  subst ei
  exact let ⟨p, hp, ev⟩ := hv; let ⟨h1, h2⟩ := K.dict hO hp; ⟨i, p, rfl, hO, hp, ev, h1, h2⟩
end

noncomputable def strsOf : List PyData → Option (List Str)
  | [] => some []
  | y :: r => match y with
    | .str x => (strsOf r).map (x :: ·)
    | _ => none
theorem strsOf_map (ys : List Str) : strsOf (ys.map .str) = some ys := by
  induction ys with
  | nil => rfl
  | cons y r ih => simp only [List.map_cons, strsOf, ih, Option.map_some]
theorem strsAre_of {h : Heap} {l : List PyData} {ys : List Str} {vs : List Value} {as : List Addr} (r : ReadsAll h vs l as) : strsOf l = some ys → StrsAre vs ys := by
  refine readsAll_ind (fun vs l _ => ∀ ys, strsOf l = some ys → StrsAre vs ys) (fun ys e => Option.some.inj e ▸ .nil) (fun {v vs d ds as bs} h1 _ ih ys e => ?_) r ys
  cases d <;> first | (cases e; done) | exact let ⟨zs, hr, e⟩ := map_some e; let ⟨t, ev⟩ := reads_str h1; e ▸ ev ▸ .cons _ _ (ih zs hr)

noncomputable def smallDepth (x y : PyData) : Prop := min x.depth y.depth ≤ 64

/-- one kind of data, or all else -/
noncomputable def onStr (x : PyData) (f : Str → Prop) (d : Prop) : Prop := match x with
  | .str a => f a
  | _ => d
noncomputable def onInt (x : PyData) (f : Int → Prop) (d : Prop) : Prop := match x with
  | .int a => f a
  | _ => d
noncomputable def onList (x : PyData) (f : List PyData → Prop) (d : Prop) : Prop := match x with
  | .list a => f a
  | _ => d
noncomputable def onTup (x : PyData) (f : List PyData → Prop) (d : Prop) : Prop := match x with
  | .tuple a => f a
  | _ => d
noncomputable def onNil (l : List PyData) (f d : Prop) : Prop := match l with
  | [] => f
  | _ :: _ => d
theorem onStr_or {x : PyData} {f : Str → Prop} {d : Prop} (h : onStr x f d) : (∃ a, x = .str a ∧ f a) ∨ d := by
  cases x <;> first | exact .inl ⟨_, rfl, h⟩ | exact .inr h
theorem onInt_or {x : PyData} {f : Int → Prop} {d : Prop} (h : onInt x f d) : (∃ a, x = .int a ∧ f a) ∨ d := by
  cases x <;> first | exact .inl ⟨_, rfl, h⟩ | exact .inr h
theorem onList_or {x : PyData} {f : List PyData → Prop} {d : Prop} (h : onList x f d) : (∃ a, x = .list a ∧ f a) ∨ d := by
  cases x <;> first | exact .inl ⟨_, rfl, h⟩ | exact .inr h
theorem onTup_or {x : PyData} {f : List PyData → Prop} {d : Prop} (h : onTup x f d) : (∃ a, x = .tuple a ∧ f a) ∨ d := by
  cases x <;> first | exact .inl ⟨_, rfl, h⟩ | exact .inr h
theorem onNil_or {l : List PyData} {f d : Prop} (h : onNil l f d) : (l = [] ∧ f) ∨ d := by
  cases l with
  | nil => exact .inl ⟨rfl, h⟩
  | cons => exact .inr h
/-- two data, kind by kind: two texts, two numbers, a list and an empty one, a tuple and an empty one, all else -/
noncomputable def byK (x y : PyData) (S : Str → Str → Prop) (I : Int → Int → Prop) (L T : List PyData → Prop) (d : Prop) : Prop :=
  onStr x (fun a => onStr y (S a) d) (onInt x (fun a => onInt y (I a) d) (onList x (fun l => onList y (fun m => onNil m (L l) d) d) (onTup x (fun l => onTup y (fun m => onNil m (T l) d) d) d)))
theorem byK_cases {x y : PyData} {S : Str → Str → Prop} {I : Int → Int → Prop} {L T : List PyData → Prop} {d : Prop} (h : byK x y S I L T d) :
    (∃ a b, x = .str a ∧ y = .str b ∧ S a b) ∨ (∃ a b, x = .int a ∧ y = .int b ∧ I a b) ∨ (∃ l, x = .list l ∧ y = .list [] ∧ L l) ∨ (∃ l, x = .tuple l ∧ y = .tuple [] ∧ T l) ∨ d := by
  rcases onStr_or h with ⟨a, ea, h⟩ | h
  · exact (onStr_or h).elim (fun ⟨b, eb, h⟩ => .inl ⟨a, b, ea, eb, h⟩) fun h => .inr (.inr (.inr (.inr h)))
  · refine .inr ?_
    rcases onInt_or h with ⟨a, ea, h⟩ | h
    · exact (onInt_or h).elim (fun ⟨b, eb, h⟩ => .inl ⟨a, b, ea, eb, h⟩) fun h => .inr (.inr (.inr h))
    · refine .inr ?_
      rcases onList_or h with ⟨l, ea, h⟩ | h
      · exact (onList_or h).elim (fun ⟨b, eb, h⟩ => (onNil_or h).elim (fun ⟨e, h⟩ => .inl ⟨l, ea, e ▸ eb, h⟩) fun h => .inr (.inr h)) fun h => .inr (.inr h)
      · refine .inr ?_
        rcases onTup_or h with ⟨l, ea, h⟩ | h
        · exact (onTup_or h).elim (fun ⟨b, eb, h⟩ => (onNil_or h).elim (fun ⟨e, h⟩ => .inl ⟨l, ea, e ▸ eb, h⟩) .inr) .inr
        · exact .inr h
noncomputable def intW (x y : PyData) (f : Int → Int → Prop) : Prop := onInt x (fun a => onInt y (f a) False) False
theorem intW_cases {x y : PyData} {f : Int → Int → Prop} (h : intW x y f) : ∃ a b, x = .int a ∧ y = .int b ∧ f a b :=
  (onInt_or h).elim (fun ⟨a, ea, h⟩ => (onInt_or h).elim (fun ⟨b, eb, h⟩ => ⟨a, b, ea, eb, h⟩) False.elim) False.elim
noncomputable def inS (l : List PyData) (a : Str) (Q : Bool → Prop) : Prop := match strsOf l with | some ys => Q (ys.any (· == a)) | none => False
theorem inS_cases {l : List PyData} {a : Str} {Q : Bool → Prop} (h : inS l a Q) : ∃ ys, strsOf l = some ys ∧ Q (ys.any (· == a)) := by
  unfold inS at h
  cases e : strsOf l with
  | none => rw [e] at h; exact h.elim
  | some ys => rw [e] at h; exact ⟨ys, rfl, h⟩
noncomputable def inW (x y : PyData) (Q : Bool → Prop) : Prop := onStr x (fun a => onTup y (fun l => inS l a Q) (onList y (fun l => inS l a Q) (onStr y (fun z => Q (!(Builtin.Str.occurrences z a 0 z.length 1).isEmpty)) False))) False
theorem inW_cases {x y : PyData} {Q : Bool → Prop} (h : inW x y Q) : ∃ a, x = .str a ∧ ((∃ l, y = .tuple l ∧ inS l a Q) ∨ (∃ l, y = .list l ∧ inS l a Q) ∨ ∃ z, y = .str z ∧ Q (!(Builtin.Str.occurrences z a 0 z.length 1).isEmpty)) :=
  (onStr_or h).elim (fun ⟨a, ea, h⟩ => ⟨a, ea, (onTup_or h).elim .inl fun h => (onList_or h).elim (fun h => .inr (.inl h)) fun h => (onStr_or h).elim (fun h => .inr (.inr h)) False.elim⟩) False.elim
/-- the long way of comparing -/
noncomputable def eqL (x y : PyData) (Q : Bool → Prop) : Prop := x.canLay0 = true ∧ y.canLay0 = true ∧ smallDepth x y ∧ Q (PyData.eqv x y)

/-- two data compared -/
noncomputable def cmpW (op : CmpOp) (x y : PyData) (Q : Bool → Prop) : Prop :=
  match op with
  | .Eq => byK x y (fun a b => Q (a == b)) (fun a b => Q (a == b)) (fun _ => eqL x y Q) (fun l => Q l.isEmpty) (eqL x y Q)
  | .NotEq => byK x y (fun a b => Q (a != b)) (fun a b => Q (a != b)) (fun l => Q (!l.isEmpty)) (fun l => Q (!l.isEmpty)) (eqL x y fun b => Q (!b))
  | .Lt => intW x y fun a b => Q (decide (a < b))
  | .LtE => intW x y fun a b => Q (decide (a ≤ b))
  | .Gt => intW x y fun a b => Q (decide (a > b))
  | .GtE => intW x y fun a b => Q (decide (a ≥ b))
  | .In => inW x y Q
  | .NotIn => inW x y fun b => Q (!b)
  | _ => False

section
variable {prog : Program} {w : World} {A : Around} {E : Value → Shared → Prop} {s : Shared} {Q : Bool → Prop} {P : Value → Shared → Prop}

theorem list_of_reads {h : Heap} {v : Value} {l : List PyData} {as : List Addr} (r : Reads h v (.list l) as) : ∃ a vs bs, v = .ref a ∧ h.IsList a vs.toArray ∧ ReadsAll h vs l bs := by
  obtain ⟨a, l', bs, e, _, h1, h2⟩ := reads_list_items r
  exact ⟨a, l', bs, e, h1, h2⟩
theorem tup_of_reads {h : Heap} {v : Value} {l : List PyData} {as : List Addr} (r : Reads h v (.tuple l) as) : ∃ a vs, v = .ref a ∧ IsTup h a vs.toArray ∧ ReadsAll h vs l as := by
  obtain ⟨a, l', e, h1, h2⟩ := reads_tuple_items r
  exact ⟨a, l', e, h1, h2⟩

theorem ne_empty_list {a b : Value} {l : List PyData} {as bs : List Addr} (ra : Reads s.heap a (.list l) as) (rb : Reads s.heap b (.list []) bs) (hu : A.units + 64 < cLine) (hq : P (.bool (!l.isEmpty)) s) :
    wpAny (model prog w) A (compareOp .NotEq a b) P E s := by
  obtain ⟨x, vs, _, rfl, hl, r1⟩ := list_of_reads ra
  obtain ⟨y, ws, _, rfl, hb, r2⟩ := list_of_reads rb
  have h1 := readsAll_len r1
  have h2 : ws = [] := List.length_eq_zero_iff.mp (readsAll_len r2)
  subst h2
  show wpAny _ _ (richCompare .NotEq _ _) _ _ _
  cases l with
  | nil =>
    have h3 : vs = [] := List.length_eq_zero_iff.mp h1
    subst h3
    exact SeqAt.RcNeAt.lists (e := fun _ => true) hl hb rfl (by lia) (fun j h1 => absurd h1 (by simp)) prog w E P (by simpa using hq)
  | cons d r =>
    refine SeqAt.RcNeAt.lists_lengths hl hb ?_ (by lia) prog w E P (by simpa using hq)
    simp only [List.size_toArray, h1]
    simp
theorem ne_empty_tup {a b : Value} {l : List PyData} {as bs : List Addr} (ra : Reads s.heap a (.tuple l) as) (rb : Reads s.heap b (.tuple []) bs) (hu : A.units + 64 < cLine) (hq : P (.bool (!l.isEmpty)) s) :
    wpAny (model prog w) A (compareOp .NotEq a b) P E s := by
  obtain ⟨x, vs, rfl, hl, r1⟩ := tup_of_reads ra
  obtain ⟨y, ws, rfl, hb, r2⟩ := tup_of_reads rb
  have h1 := readsAll_len r1
  have h2 : ws = [] := List.length_eq_zero_iff.mp (readsAll_len r2)
  subst h2
  show wpAny _ _ (richCompare .NotEq _ _) _ _ _
  refine SeqAt.RcNeAt.tuples (e := fun _ => true) hl hb (by lia) (fun j _ h1 => absurd h1 (by simp)) prog w E P ?_
  cases l with
  | nil => simp only [List.size_toArray, h1]; simpa using hq
  | cons d r => simp only [List.size_toArray, h1]; simpa using hq
theorem eq_empty_tup {a b : Value} {l : List PyData} {as bs : List Addr} (ra : Reads s.heap a (.tuple l) as) (rb : Reads s.heap b (.tuple []) bs) (hu : A.units + 64 < cLine) (hq : P (.bool l.isEmpty) s) :
    wpAny (model prog w) A (compareOp .Eq a b) P E s := by
  obtain ⟨x, vs, rfl, hl, r1⟩ := tup_of_reads ra
  obtain ⟨y, ws, rfl, hb, r2⟩ := tup_of_reads rb
  have h1 := readsAll_len r1
  have h2 : ws = [] := List.length_eq_zero_iff.mp (readsAll_len r2)
  subst h2
  refine SeqAt.eq_tupleAt (e := fun _ => true) hl hb (by lia) (fun j _ h1 => absurd h1 (by simp)) ?_
  cases l with
  | nil => simp only [List.size_toArray, h1]; simpa using hq
  | cons d r => simp only [List.size_toArray, h1]; simpa using hq

theorem cmp_eq {a b : Value} {x y : PyData} {as bs : List Addr} (ra : Reads s.heap a x as) (rb : Reads s.heap b y bs) (hu : A.units + 64 < cLine)
    (h : eqL x y Q) (hq : ∀ b, Q b → P (.bool b) s) : wpAny (model prog w) A (compareOp .Eq a b) P E s := by
  obtain ⟨h1, h2, h3, h4⟩ := h
  unfold smallDepth at h3
  exact SeqAt.compareEq_reads ra rb h1 h2 (by lia) (hq _ h4)
theorem cmp_ne {a b : Value} {x y : PyData} {as bs : List Addr} (ra : Reads s.heap a x as) (rb : Reads s.heap b y bs) (hu : A.units + 64 < cLine)
    (h : eqL x y fun b => Q (!b)) (hq : ∀ b, Q b → P (.bool b) s) : wpAny (model prog w) A (compareOp .NotEq a b) P E s := by
  obtain ⟨h1, h2, h3, h4⟩ := h
  unfold smallDepth at h3
  exact SeqAt.compareNe_reads ra rb h1 h2 (by lia) (hq _ h4)

theorem cmp_in {a b : Value} {x y : PyData} {as bs : List Addr} (ra : Reads s.heap a x as) (rb : Reads s.heap b y bs) (h : inW x y Q) (hq : ∀ b, Q b → P (.bool b) s) : wpAny (model prog w) A (compareOp .In a b) P E s := by
  obtain ⟨k, rfl, h2⟩ := inW_cases h
  clear h
  obtain ⟨t0, rfl⟩ := reads_str ra
  rcases h2 with ⟨l, rfl, h⟩ | ⟨l, rfl, h⟩ | ⟨z, rfl, h⟩
  · obtain ⟨t, vs, rfl, ht, r⟩ := tup_of_reads rb
    obtain ⟨ys, e, h⟩ := inS_cases h
    exact in_tuple_strs ht (strsAre_of r e) (hq _ h)
  · obtain ⟨t, vs, _, rfl, ht, r⟩ := list_of_reads rb
    obtain ⟨ys, e, h⟩ := inS_cases h
    exact in_list_strs ht (strsAre_of r e) (hq _ h)
  · obtain ⟨t1, rfl⟩ := reads_str rb; exact PyProof.Rows.in_str (hq _ h)
theorem cmp_nin {a b : Value} {x y : PyData} {as bs : List Addr} (ra : Reads s.heap a x as) (rb : Reads s.heap b y bs) (h : inW x y fun b => Q (!b)) (hq : ∀ b, Q b → P (.bool b) s) : wpAny (model prog w) A (compareOp .NotIn a b) P E s := by
  obtain ⟨k, rfl, h2⟩ := inW_cases h
  clear h
  obtain ⟨t0, rfl⟩ := reads_str ra
  rcases h2 with ⟨l, rfl, h⟩ | ⟨l, rfl, h⟩ | ⟨z, rfl, h⟩
  · obtain ⟨t, vs, rfl, ht, r⟩ := tup_of_reads rb
    obtain ⟨ys, e, h⟩ := inS_cases h
    exact notin_tuple_strs ht (strsAre_of r e) (hq _ h)
  · obtain ⟨t, vs, _, rfl, ht, r⟩ := list_of_reads rb
    obtain ⟨ys, e, h⟩ := inS_cases h
    exact notin_list_strs ht (strsAre_of r e) (hq _ h)
  · obtain ⟨t1, rfl⟩ := reads_str rb; exact PyProof.Rows.notIn_str (hq _ h)

theorem cmpW_ok {op : CmpOp} {a b : Value} {x y : PyData} {as bs : List Addr} (ra : Reads s.heap a x as) (rb : Reads s.heap b y bs) (hu : A.units + 64 < cLine) (h : cmpW op x y Q) (hq : ∀ b, Q b → P (.bool b) s) :
    wpAny (model prog w) A (compareOp op a b) P E s := by
  cases op with
  | Eq =>
    rcases byK_cases h with ⟨a, b, rfl, rfl, h⟩ | ⟨a, b, rfl, rfl, h⟩ | ⟨l, rfl, rfl, h⟩ | ⟨l, rfl, rfl, h⟩ | h
    · obtain ⟨t, u, rfl, rfl⟩ := reads_two ra rb; exact PyProof.Rows.eq_str (hq _ h)
    · obtain ⟨t, u, rfl, rfl⟩ := reads_twoi ra rb; exact PyProof.Rows.eq_int (hq _ h)
    · exact cmp_eq ra rb hu h hq
    · exact eq_empty_tup ra rb hu (hq _ h)
    · exact cmp_eq ra rb hu h hq
  | NotEq =>
    rcases byK_cases h with ⟨a, b, rfl, rfl, h⟩ | ⟨a, b, rfl, rfl, h⟩ | ⟨l, rfl, rfl, h⟩ | ⟨l, rfl, rfl, h⟩ | h
    · obtain ⟨t, u, rfl, rfl⟩ := reads_two ra rb; exact PyProof.Rows.ne_str (hq _ h)
    · obtain ⟨t, u, rfl, rfl⟩ := reads_twoi ra rb; exact PyProof.Rows.ne_int (hq _ h)
    · exact ne_empty_list ra rb hu (hq _ h)
    · exact ne_empty_tup ra rb hu (hq _ h)
    · exact cmp_ne ra rb hu h hq
  | Lt => obtain ⟨a, b, rfl, rfl, h⟩ := intW_cases h; obtain ⟨t, u, rfl, rfl⟩ := reads_twoi ra rb; exact PyProof.Rows.lt_int (hq _ h)
  | LtE => obtain ⟨a, b, rfl, rfl, h⟩ := intW_cases h; obtain ⟨t, u, rfl, rfl⟩ := reads_twoi ra rb; exact PyProof.Rows.le_int (hq _ h)
  | Gt => obtain ⟨a, b, rfl, rfl, h⟩ := intW_cases h; obtain ⟨t, u, rfl, rfl⟩ := reads_twoi ra rb; exact PyProof.Rows.gt_int (hq _ h)
  | GtE => obtain ⟨a, b, rfl, rfl, h⟩ := intW_cases h; obtain ⟨t, u, rfl, rfl⟩ := reads_twoi ra rb; exact PyProof.Rows.ge_int (hq _ h)
  | In => exact cmp_in ra rb h hq
  | NotIn => exact cmp_nin ra rb h hq
  | Is => exact h.elim
  | IsNot => exact h.elim
end

noncomputable def dget (l : List (Str × PyData)) (x : Str) : Option PyData := (l.find? fun kv => decide (kv.1 = x)).map (·.2)

theorem dget_ok {h : Heap} {l : List (Str × PyData)} {kvs : List (Str × Value)} (x : Str) (r : DictRel h l kvs) :
    (dget l x = none ∧ valueAt kvs x = none) ∨ ∃ y cv, dget l x = some y ∧ valueAt kvs x = some cv ∧ Reads h cv y [] := by
  refine dictRel_ind (fun l kvs => (dget l x = none ∧ valueAt kvs x = none) ∨ ∃ y cv, dget l x = some y ∧ valueAt kvs x = some cv ∧ Reads h cv y []) (.inl ⟨rfl, rfl⟩) (fun {p q l kvs} e r _ ih => ?_) r
  unfold dget valueAt
  rw [List.find?_cons, List.find?_cons, ← e]
  cases hk : decide (p.1 = x) with
  | true => exact .inr ⟨p.2, q.2, rfl, rfl, r⟩
  | false => exact ih

noncomputable def keyV (v : V) (Q : Str → Prop) : Prop := match v with
  | .d x => (match x with | .str k => Q k | _ => False)
  | .ref _ => False
theorem keyV_some {v : V} {Q : Str → Prop} (h : keyV v Q) : ∃ k, v = .d (.str k) ∧ Q k := by
  cases v with
  | d x => cases x <;> first | exact False.elim h | exact ⟨_, rfl, h⟩
  | ref i => exact False.elim h
noncomputable def cmpV0 (op : CmpOp) (v1 v2 : V) (H : List O) (Q : Bool → Prop) : Prop :=
  match dictOf? H v2 with
  | some l => match op with
    | .In => keyV v1 fun x => Q (dget l x).isSome
    | .NotIn => keyV v1 fun x => Q (!(dget l x).isSome)
    | _ => False
  | none => match viewD H v1 with
    | some x => (match viewD H v2 with | some y => cmpW op x y Q | none => False)
    | none => False
theorem cmpV_cases {op : CmpOp} {v1 v2 : V} {H : List O} {Q : Bool → Prop} (h : cmpV0 op v1 v2 H Q) :
    (∃ l x, dictOf? H v2 = some l ∧ v1 = .d (.str x) ∧ ((op = .In ∧ Q (dget l x).isSome) ∨ (op = .NotIn ∧ Q (!(dget l x).isSome)))) ∨ ∃ x y, viewD H v1 = some x ∧ viewD H v2 = some y ∧ cmpW op x y Q := by
  unfold cmpV0 at h
  cases e : dictOf? H v2 with
  | some l =>
    rw [e] at h
    cases op <;> first | exact False.elim h | exact let ⟨x, e1, h⟩ := keyV_some h; .inl ⟨l, x, rfl, e1, .inl ⟨rfl, h⟩⟩ | exact let ⟨x, e1, h⟩ := keyV_some h; .inl ⟨l, x, rfl, e1, .inr ⟨rfl, h⟩⟩
  | none =>
    rw [e] at h
    cases e1 : viewD H v1 with
    | none => rw [e1] at h; exact False.elim h
    | some x =>
      rw [e1] at h
      cases e2 : viewD H v2 with
      | none => rw [e2] at h; exact False.elim h
      | some y => rw [e2] at h; exact .inr ⟨x, y, rfl, rfl, h⟩
structure cmpS (op : CmpOp) (v1 v2 : V) (H : List O) (Q : Bool → Prop) : Prop where
  mk ::
  go : cmpV0 op v1 v2 H Q
noncomputable def cmpK : V → V → Bool
  | .d (.str _), .d (.str _) => true
  | .d (.int _), .d (.int _) => true
  | .d (.str _), .d (.tuple _) => true
  | .d (.tuple _), .d (.tuple []) => true
  | _, _ => false
noncomputable def cmpD (op : CmpOp) (v1 v2 : V) (Q : Bool → Prop) : Prop := match v1, v2 with
  | .d x, .d y => cmpW op x y Q
  | _, _ => False
noncomputable def cmpV (op : CmpOp) (v1 v2 : V) (H : List O) (Q : Bool → Prop) : Prop := match cmpK v1 v2 with
  | true => cmpD op v1 v2 Q
  | false => cmpS op v1 v2 H Q
theorem cmpV.go {op : CmpOp} {v1 v2 : V} {H : List O} {Q : Bool → Prop} (h : cmpV op v1 v2 H Q) : cmpV0 op v1 v2 H Q := by
  unfold cmpV at h
  cases e : cmpK v1 v2 with
  | false => rw [e] at h; exact h.go
  | true =>
    rw [e] at h
    cases v1 with
    | ref i => exact h.elim
    | d x =>
      cases v2 with
      | ref i => exact h.elim
      | d y => exact h

section
variable {W : Wd} {sc : Scope} {nm : List Str} {env : Env} {Φ : Addr → Prop} {s : Shared} {μ : Mu} {ρ : Rho} {H : List O} {A : Around} {E : Value → Shared → Prop} {Q : Bool → Prop} {P : Value → Shared → Prop}

theorem off_modules {a : Addr} (S : St W env nm Φ s μ ρ H) (hf : FP μ a) : (a == sysModules) = false := by
  have h1 := (S.hok.above a hf).1
  have h2 : (3 : Nat) < W.base.objs.size := W.hg.lt
  have h3 : a ≠ sysModules := by
    intro e
    have h4 : W.base.objs.size ≤ (1 : Nat) := by rw [e] at h1; exact h1
    lia
  exact beq_eq_false_iff_ne.mpr h3

theorem cmpV_ok {op : CmpOp} {v1 v2 : V} {a b : Value} (S : St W env nm Φ s μ ρ H) (ha : VOk s.heap (Out Φ env) μ v1 a) (hb : VOk s.heap (Out Φ env) μ v2 b) (hu : A.units + 64 < cLine)
    (h : cmpV op v1 v2 H Q) (hq : ∀ b t, Q b → P (.bool b) { s with toks := t }) : wpAny (model W.prog W.w) A (compareOp op a b) P E s := by
  replace h := cmpV_cases h.go
  rcases h with ⟨l, x, e, rfl, h⟩ | ⟨x, y, e1, e2, h⟩
  · obtain ⟨i, p, rfl, hi, hp, rfl, hpp, kvs, hd, hr⟩ := dict_ok S.hok hb e
    have hm := off_modules S (FP.at hp).1
    obtain ⟨as, r, _⟩ := ha
    obtain ⟨t0, rfl⟩ := reads_str r

    rcases h with ⟨rfl, h⟩ | ⟨rfl, h⟩
    · refine wpAny_in_of (k := x) (knd := PySem.strKind W.prog W.w) (by simp [PySem.strKind, Value.isStrOf]) hm hd.mapOf ?_
      rcases dget_ok x hr with ⟨h1, h2⟩ | ⟨y, cv, h1, h2, _⟩
      · rw [h2]; rw [h1] at h; exact hq _ _ h
      · rw [h2]; rw [h1] at h; exact hq _ _ h
    · refine wpAny_notIn_of (k := x) (knd := PySem.strKind W.prog W.w) (by simp [PySem.strKind, Value.isStrOf]) hm hd.mapOf ?_
      rcases dget_ok x hr with ⟨h1, h2⟩ | ⟨y, cv, h1, h2, _⟩
      · rw [h2]; rw [h1] at h; exact hq _ _ h
      · rw [h2]; rw [h1] at h; exact hq _ _ h
  · obtain ⟨as, ra⟩ := view_ok S.hok ha e1
    obtain ⟨bs, rb⟩ := view_ok S.hok hb e2
    exact cmpW_ok ra rb hu h fun b hb => hq b s.toks hb

/-! ### tests -/
noncomputable def t_snd_cmp (op : CmpOp) (x : Tr) (y : Tr) : Tr := fun d ρ H Q => x d ρ H fun v1 H => y d ρ H fun v2 H => cmpV op v1 v2 H fun b => Q (.d (.bool b)) H
theorem snd_cmp {l r : Expr} {op : CmpOp} {pos : Pos} {x y : Tr} (h1 : SndE W sc nm l x) (h2 : SndE W sc nm r y) (hm : behindInMarks op r = false := by rfl) :
    SndE W sc nm (.Compare l [op] [r] pos) (t_snd_cmp op x y) :=
  .mk fun Q d A E s env Φ μ ρ H hE hA S hq => by
    refine wpAny_Compare1 (wpAny_mono (h1.go _ d A E s env Φ μ ρ H hE hA S hq) (fun a s₁ p => ?_) fun _ _ x => x) hm
    refine PostE.use p fun v1 H₁ μ₁ S₁ x₁ hv1 hq => ?_
    clear p
    refine wpAny_mono (h2.go _ d A E s₁ env Φ μ₁ ρ H₁ hE hA S₁ hq) (fun b s₂ p => ?_) fun _ _ x => x
    refine PostE.use p fun v2 H₂ μ₂ S₂ x₂ hv2 hq => ?_
    clear p
    exact cmpV_ok S₂ (hv1.mv (x₂.mv S₁.hok)) hv2 hA.room hq fun b t hb => ⟨.d (.bool b), H₂, μ₂, S₂.toks t, x₁.trans x₂, vok_val (.bool b), hb⟩
noncomputable def t_snd_tcmp (op : CmpOp) (x : Tr) (y : Tr) : TrB := fun d ρ H Q => x d ρ H fun v1 H => y d ρ H fun v2 H => cmpV op v1 v2 H fun b => Q b H
theorem snd_tcmp {l r : Expr} {op : CmpOp} {pos : Pos} {x y : Tr} (h1 : SndE W sc nm l x) (h2 : SndE W sc nm r y) (hm : behindInMarks op r = false := by rfl) :
    SndT W sc nm (.Compare l [op] [r] pos) (t_snd_tcmp op x y) :=
  .mk fun Q d A E s env Φ μ ρ H hE hA S hq => by
    refine wpAny_isTrue_Compare1 (wpAny_mono (h1.go _ d A E s env Φ μ ρ H hE hA S hq) (fun a s₁ p => ?_) fun _ _ x => x) hm
    refine PostE.use p fun v1 H₁ μ₁ S₁ x₁ hv1 hq => ?_
    clear p
    refine wpAny_mono (h2.go _ d A E s₁ env Φ μ₁ ρ H₁ hE hA S₁ hq) (fun b s₂ p => ?_) fun _ _ x => x
    refine PostE.use p fun v2 H₂ μ₂ S₂ x₂ hv2 hq => ?_
    clear p
    exact cmpV_ok S₂ (hv1.mv (x₂.mv S₁.hok)) hv2 hA.room hq fun b t hb => wpAny_truthy_bool ⟨H₂, μ₂, S₂.toks t, x₁.trans x₂, hb⟩

noncomputable def t_snd_tnot (t : TrB) : TrB := fun d ρ H Q => t d ρ H fun b H => Q (!b) H
theorem snd_tnot {x : Expr} {pos : Pos} {t : TrB} (h : SndT W sc nm x t) : SndT W sc nm (.UnaryOp .Not x pos) (t_snd_tnot t) :=
  .mk fun Q d A E s env Φ μ ρ H hE hA S hq => isTrue_not (wpAny_mono (h.go _ d A E s env Φ μ ρ H hE hA S hq) (fun _ _ p => p) fun _ _ x => x)

noncomputable def t_snd_tand0  : TrB := fun _ _ H Q => Q true H
theorem snd_tand0 {pos : Pos} : SndT W sc nm (.BoolOp .And [] pos) t_snd_tand0 :=
  .mk fun Q d A E s env Φ μ ρ H hE hA S hq => isTrue_and_nil ⟨H, μ, S, Ext.refl, hq⟩
noncomputable def t_snd_tor0  : TrB := fun _ _ H Q => Q false H
theorem snd_tor0 {pos : Pos} : SndT W sc nm (.BoolOp .Or [] pos) t_snd_tor0 :=
  .mk fun Q d A E s env Φ μ ρ H hE hA S hq => isTrue_or_nil ⟨H, μ, S, Ext.refl, hq⟩
noncomputable def t_snd_tand (t : TrB) (u : TrB) : TrB := fun d ρ H Q => t d ρ H fun b H => if b = true then u d ρ H Q else Q false H
theorem snd_tand {x : Expr} {es : List Expr} {pos : Pos} {t u : TrB} (h1 : SndT W sc nm x t) (h2 : SndT W sc nm (.BoolOp .And es pos) u) :
    SndT W sc nm (.BoolOp .And (x :: es) pos) (t_snd_tand t u) :=
  .mk fun Q d A E s env Φ μ ρ H hE hA S hq => by
    refine isTrue_and (wpAny_mono (h1.go _ d A E s env Φ μ ρ H hE hA S hq) (fun b s₁ p => ?_) fun _ _ x => x)
    refine PostT.use p fun H₁ μ₁ S₁ x₁ hq => ?_
    clear p
    cases b with
    | false => exact ⟨H₁, μ₁, S₁, x₁, hq⟩
    | true => exact wpAny_mono (h2.go _ d A E s₁ env Φ μ₁ ρ H₁ hE hA S₁ hq) (fun _ _ p => p.after x₁) fun _ _ x => x
noncomputable def t_snd_tor (t : TrB) (u : TrB) : TrB := fun d ρ H Q => t d ρ H fun b H => if b = true then Q true H else u d ρ H Q
theorem snd_tor {x : Expr} {es : List Expr} {pos : Pos} {t u : TrB} (h1 : SndT W sc nm x t) (h2 : SndT W sc nm (.BoolOp .Or es pos) u) :
    SndT W sc nm (.BoolOp .Or (x :: es) pos) (t_snd_tor t u) :=
  .mk fun Q d A E s env Φ μ ρ H hE hA S hq => by
    refine isTrue_or (wpAny_mono (h1.go _ d A E s env Φ μ ρ H hE hA S hq) (fun b s₁ p => ?_) fun _ _ x => x)
    refine PostT.use p fun H₁ μ₁ S₁ x₁ hq => ?_
    clear p
    cases b with
    | true => exact ⟨H₁, μ₁, S₁, x₁, hq⟩
    | false => exact wpAny_mono (h2.go _ d A E s₁ env Φ μ₁ ρ H₁ hE hA S₁ hq) (fun _ _ p => p.after x₁) fun _ _ x => x

noncomputable def boolV (v : V) (Q : Bool → Prop) : Prop := match v with
  | .d x => (match x with | .bool b => Q b | _ => False)
  | .ref _ => False
theorem boolV_some {v : V} {Q : Bool → Prop} (h : boolV v Q) : ∃ b, v = .d (.bool b) ∧ Q b := by
  cases v with
  | d x => cases x <;> first | exact False.elim h | exact ⟨_, rfl, h⟩
  | ref i => exact False.elim h
noncomputable def t_snd_tplain (x : Tr) : TrB := fun d ρ H Q => x d ρ H fun v H => boolV v fun b => Q b H
/-- a test of another form: a bool is wanted -/
theorem snd_tplain {e : Expr} {x : Tr} (h : SndE W sc nm e x) (he : ∀ env whole, isTrue e env whole = (do let v ← whole; standAt e.pos; holding [v] (truthy v)) := by intro _ _; rfl) :
    SndT W sc nm e (t_snd_tplain x) :=
  .mk fun Q d A E s env Φ μ ρ H hE hA S hq => by
    refine isTrue_plain (wpAny_mono (h.go _ d A E s env Φ μ ρ H hE hA S hq) (fun cv s₁ p => ?_) fun _ _ x => x) (he _ _)
    refine PostE.use p fun v H₁ μ₁ S₁ x₁ hv hq => ?_
    clear p
    obtain ⟨b, rfl, hq⟩ := boolV_some hq
    obtain ⟨as, r, _⟩ := hv
    obtain rfl := reads_bool r
    exact wpAny_truthy_bool ⟨H₁, μ₁, S₁, x₁, hq⟩

/-! ### and, or, if as values -/
theorem snd_and1 {e : Expr} {op} {pos : Pos} {x : Tr} (h : SndE W sc nm e x) : SndE W sc nm (.BoolOp op [e] pos) x :=
  .mk fun Q d A E s env Φ μ ρ H hE hA S hq => BoolOp_one (h.go Q d A E s env Φ μ ρ H hE hA S hq)
noncomputable def t_snd_and (x : Tr) (y : Tr) : Tr := fun d ρ H Q => x d ρ H fun v H => boolV v fun b => if b = true then y d ρ H Q else Q (.d (.bool false)) H
theorem snd_and {e₁ e₂ : Expr} {es : List Expr} {pos : Pos} {x y : Tr} (h1 : SndE W sc nm e₁ x) (h2 : SndE W sc nm (.BoolOp .And (e₂ :: es) pos) y) :
    SndE W sc nm (.BoolOp .And (e₁ :: e₂ :: es) pos) (t_snd_and x y) :=
  .mk fun Q d A E s env Φ μ ρ H hE hA S hq => by
    refine BoolOp_and (wpAny_mono (h1.go _ d A E s env Φ μ ρ H hE hA S hq) (fun cv s₁ p => ?_) fun _ _ x => x)
    refine PostE.use p fun v H₁ μ₁ S₁ x₁ hv hq => ?_
    clear p
    obtain ⟨b, rfl, hq⟩ := boolV_some hq
    obtain ⟨as, r, o⟩ := hv
    obtain rfl := reads_bool r
    refine wpAny_truthy_bool ?_
    cases b with
    | false => exact ⟨.d (.bool false), H₁, μ₁, S₁, x₁, vok_val (.bool _), hq⟩
    | true => exact wpAny_mono (h2.go _ d A E s₁ env Φ μ₁ ρ H₁ hE hA S₁ hq) (fun _ _ p => p.after x₁) fun _ _ x => x
noncomputable def t_snd_if (u : TrB) (x : Tr) (y : Tr) : Tr := fun d ρ H Q => u d ρ H fun c H => if c = true then x d ρ H Q else y d ρ H Q
theorem snd_if {t b o : Expr} {pos : Pos} {u : TrB} {x y : Tr} (h1 : SndT W sc nm t u) (h2 : SndE W sc nm b x) (h3 : SndE W sc nm o y) :
    SndE W sc nm (.IfExp t b o pos) (t_snd_if u x y) :=
  .mk fun Q d A E s env Φ μ ρ H hE hA S hq => by
    refine IfExp_ (wpAny_mono (h1.go _ d A E s env Φ μ ρ H hE hA S hq) (fun c s₁ p => ?_) fun _ _ x => x)
    refine PostT.use p fun H₁ μ₁ S₁ x₁ hq => ?_
    clear p
    cases c with
    | true => exact wpAny_mono (h2.go _ d A E s₁ env Φ μ₁ ρ H₁ hE hA S₁ hq) (fun _ _ p => p.after x₁) fun _ _ x => x
    | false => exact wpAny_mono (h3.go _ d A E s₁ env Φ μ₁ ρ H₁ hE hA S₁ hq) (fun _ _ p => p.after x₁) fun _ _ x => x
end

/-! ## M4 -/
/-! ### a statement's step -/
structure ExtS (env : Env) (h : Heap) (μ : Mu) (h' : Heap) (μ' : Mu) : Prop where
  new : ∃ ν, μ' = μ ++ ν ∧ ∀ a, FP ν a → h.objs.size ≤ a
  size : h.objs.size ≤ h'.objs.size
  keep : ∀ b o, h.get? b = some o → ¬ FP μ b → ¬ Foot env b → h'.get? b = some o

theorem ExtS.refl {env : Env} {h : Heap} {μ : Mu} : ExtS env h μ h μ := ⟨⟨[], by simp, fun _ ha => absurd ha FP.nil⟩, Nat.le_refl _, fun _ _ e _ _ => e⟩
theorem ExtS.trans {env : Env} {h h₁ h₂ : Heap} {μ μ₁ μ₂ : Mu} (x : ExtS env h μ h₁ μ₁) (y : ExtS env h₁ μ₁ h₂ μ₂) : ExtS env h μ h₂ μ₂ := by
  obtain ⟨ν₁, rfl, n₁⟩ := x.new
  obtain ⟨ν₂, rfl, n₂⟩ := y.new
  refine ⟨⟨ν₁ ++ ν₂, by rw [List.append_assoc], fun a ha => (FP.app.mp ha).elim (n₁ a) fun h => Nat.le_trans x.size (n₂ a h)⟩, Nat.le_trans x.size y.size, fun b o e hf hg => ?_⟩
  refine y.keep b o (x.keep b o e hf hg) (fun hf' => (FP.app.mp hf').elim hf fun hn => ?_) hg
  exact Nat.lt_irrefl _ (Nat.lt_of_lt_of_le (Heap.lt_size e) (n₁ b hn))
theorem Ext.s {env : Env} {h h' : Heap} {μ μ' : Mu} (x : Ext h μ h' μ') : ExtS env h μ h' μ' := ⟨x.new, x.size, fun b o e hf _ => x.keep b o e hf⟩

inductive FlOk (h : Heap) (Φ : Addr → Prop) (μ : Mu) : Fl → Flow → Prop
  | next : FlOk h Φ μ .next .next
  | brk : FlOk h Φ μ .brk .brk
  | cont : FlOk h Φ μ .cont .cont
  | ret {v cv} : VOk h Φ μ v cv → FlOk h Φ μ (.ret v) (.ret cv)
  | rett {vs cvs a} : IsTup h a (cvs : List Value).toArray → VsOk h Φ μ vs cvs → FlOk h Φ μ (.rett vs) (.ret (.ref a))

noncomputable def PostS (W : Wd) (env : Env) (nm : List Str) (Φ : Addr → Prop) (s : Shared) (μ : Mu) (Q : Fl → Rho → List O → Prop) (f : Flow) (s' : Shared) : Prop :=
  ∃ fl ρ' H' μ', St W env nm Φ s' μ' ρ' H' ∧ ExtS env s.heap μ s'.heap μ' ∧ FlOk s'.heap (Out Φ env) μ' fl f ∧ Q fl ρ' H'

theorem PostS.use {W : Wd} {env : Env} {nm : List Str} {Φ : Addr → Prop} {s : Shared} {μ : Mu} {Q : Fl → Rho → List O → Prop} {f : Flow} {s' : Shared} {C : Prop} (p : PostS W env nm Φ s μ Q f s')
    (k : ∀ fl ρ' H' μ', St W env nm Φ s' μ' ρ' H' → ExtS env s.heap μ s'.heap μ' → FlOk s'.heap (Out Φ env) μ' fl f → Q fl ρ' H' → C) : C := let ⟨fl, ρ', H', μ', a, b, c, e⟩ := p; k fl ρ' H' μ' a b c e

structure SndS (W : Wd) (sc : Scope) (nm : List Str) (st : Stmt) (x : TrS) : Prop where
  mk ::
  go : ∀ Q, Run W sc nm (fun env => exec st env) (fun env Φ s μ _ => PostS W env nm Φ s μ Q) fun d ρ H => x d ρ H Q
structure SndB (W : Wd) (sc : Scope) (nm : List Str) (st : List Stmt) (x : TrS) : Prop where
  mk ::
  go : ∀ Q, Run W sc nm (fun env => execs st env) (fun env Φ s μ _ => PostS W env nm Φ s μ Q) fun d ρ H => x d ρ H Q

section
variable {W : Wd} {sc : Scope} {nm : List Str} {env : Env} {Φ : Addr → Prop} {s s' : Shared} {μ μ' : Mu} {ρ : Rho} {H H' : List O} {A : Around} {E : Value → Shared → Prop}

theorem PostS.after {Q : Fl → Rho → List O → Prop} {s₁ : Shared} {μ₁ : Mu} {f : Flow} (x : ExtS env s.heap μ s₁.heap μ₁) (p : PostS W env nm Φ s₁ μ₁ Q f s') : PostS W env nm Φ s μ Q f s' :=
  let ⟨v, ρ', H', μ', S, y, hv, hq⟩ := p; ⟨v, ρ', H', μ', S, x.trans y, hv, hq⟩

/-- one of the frame's own things is turned: the rest stands -/
theorem own_mv {a : Addr} {h' : Heap} (S : St W env nm Φ s μ ρ H) (ha : Foot env a) (hs : Heap.SameBut a s.heap h') (hnt : ∀ o, s.heap.get? a = some o → ¬ TupObj o) : Mv s.heap (Out Φ env) μ h' μ :=
  ⟨⟨[], by simp, fun _ ha => absurd ha FP.nil⟩, Nat.le_of_eq hs.1.symm, fun b o e ht => (hs.2 b (fun q => hnt o (q ▸ e) ht)).trans e, fun b o e h1 _ => (hs.2 b (fun q => h1 (.inr (q ▸ ha)))).trans e⟩

theorem own_inv {a : Addr} {h' : Heap} {t : Nat} (S : St W env nm Φ s μ ρ H) (ha : Foot env a) (hs : Heap.SameBut a s.heap h') : Inv W { s with heap := h', toks := t } :=
  ⟨fun b o e => (hs.2 b (fun q => Nat.lt_irrefl _ (Nat.lt_of_lt_of_le (Heap.lt_size e) (q ▸ S.base a ha)))).trans (S.inv.keep b o e), S.inv.gens, S.inv.os, by show _ ≤ h'.objs.size; rw [hs.1]; exact S.inv.size⟩

theorem own_hok {a : Addr} {h' : Heap} (S : St W env nm Φ s μ ρ H) (ha : Foot env a) (hs : Heap.SameBut a s.heap h') (hnt : ∀ o, s.heap.get? a = some o → ¬ TupObj o) : HOk W h' (Out Φ env) μ H :=
  ⟨S.hok.len, S.hok.sep, S.hok.above, fun i o e => let ⟨p, hp, ho⟩ := S.hok.obj i o e
    ⟨p, hp, ho.mv (own_mv S ha hs hnt) (fun o e => (hs.2 p.1 (fun q => S.off ha (q ▸ (FP.at hp).1))).trans e) (fun o e => (hs.2 p.2 (fun q => S.off ha (q ▸ (FP.at hp).2))).trans e)⟩⟩

theorem own_ext {a : Addr} {h' : Heap} (ha : Foot env a) (hs : Heap.SameBut a s.heap h') : ExtS env s.heap μ h' μ :=
  ⟨⟨[], by simp, fun _ ha => absurd ha FP.nil⟩, Nat.le_of_eq hs.1.symm, fun b o e _ h2 => (hs.2 b (fun q => h2 (q ▸ ha))).trans e⟩

/-- a name that may be stored into -/
noncomputable def slotSt (sc : Scope) (nm : List Str) (x : Str) (i : Nat) : Bool :=
  sc.kind == .function && nm[i]? == some x && (sc.names.lookup x == some .local || sc.names.lookup x == some .cell)
theorem slotSt_spec {x : Str} {i : Nat} (h : slotSt sc nm x i = true) : sc.kind = .function ∧ nm[i]? = some x ∧ (sc.names.lookup x = some .local ∨ sc.names.lookup x = some .cell) := by
  unfold slotSt at h
  simp only [Bool.and_eq_true, Bool.or_eq_true, beq_iff_eq] at h
  exact ⟨h.1.1, h.1.2, h.2⟩

theorem nodup_at {l : List Str} (hn : l.Nodup) {i j : Nat} {x : Str} (hi : l[i]? = some x) (hj : l[j]? = some x) : i = j :=
  (List.getElem?_inj (List.getElem?_eq_some_iff.mp hi).1 hn).mp (hi.trans hj.symm)

theorem set_at {ρ : Rho} {i j : Nat} {v : V} {w : V} (h : (ρ.set i (some v))[j]? = some (some w)) : (j = i ∧ w = v) ∨ (j ≠ i ∧ ρ[j]? = some (some w)) := by
  by_cases e : j = i
  · subst e
    left
    have hl := (List.getElem?_eq_some_iff.mp h).1
    rw [List.length_set] at hl
    rw [List.getElem?_set_self hl] at h
    exact ⟨rfl, (Option.some.inj (Option.some.inj h)).symm⟩
  · right
    refine ⟨e, ?_⟩
    rwa [List.getElem?_set_ne (fun q => e q.symm)] at h

theorem store_ok {x : Str} {i : Nat} {v : V} {cv : Value} {Q : Unit → Shared → Prop} (hi : slotSt sc nm x i = true) (hE : EnvOk sc env) (S : St W env nm Φ s μ ρ H) (hv : VOk s.heap (Out Φ env) μ v cv)
    (hq : ∀ h' t, St W env nm Φ { s with heap := h', toks := t } μ (ρ.set i (some v)) H → ExtS env s.heap μ h' μ → (∀ y w, VOk s.heap (Out Φ env) μ y w → VOk h' (Out Φ env) μ y w) → Q () { s with heap := h', toks := t }) :
    wpAny (model W.prog W.w) A (storeName env x cv) Q E s := by
  obtain ⟨hk, hn, hl⟩ := slotSt_spec hi
  have hkind : ∀ k, sc.names.lookup x = some k → env.kindOf x = some k := fun k e => by
    show env.scope.names.lookup x = _
    rw [hE.scope]; exact e
  have hk' : env.scope.kind = .function := by rw [hE.scope]; exact hk
  rcases hl with hl | hl
  · obtain ⟨m, hm, hval⟩ := S.loc.ns
    have hF : Foot env env.locals := .inl rfl
    have hnt : ∀ o, s.heap.get? env.locals = some o → ¬ TupObj o := by
      obtain ⟨o', es, ep, ho', hd', _⟩ := hm
      rintro o ho ⟨_, vs, n, hd⟩
      rw [ho] at ho'; cases ho'
      rw [hd] at hd'; cases hd'
    refine wpAny_storeName_local (hkind _ hl) hm (fun h' hn' hs => ?_) (by rw [hk']; rfl)
    have mv := own_mv S hF hs hnt
    refine hq h' _ ⟨own_inv S hF hs, fun a ha => Nat.lt_of_lt_of_le (S.below a ha) (Nat.le_of_eq hs.1.symm), own_hok S hF hs hnt, ⟨S.loc.nodup, by rw [List.length_set]; exact S.loc.len, ⟨_, hn', ?_⟩, ?_, ?_, S.loc.apart⟩, S.base, S.apart, S.cellsAll⟩ (own_ext hF hs) (fun _ _ h => h.mv mv)
    · intro j y w h1 h2 h3
      rcases set_at h3 with ⟨rfl, rfl⟩ | ⟨hne, h3⟩
      · rw [hn] at h1; cases h1
        exact ⟨cv, by simp, hv.mv mv⟩
      · have hxy : y ≠ x := fun e => hne (nodup_at S.loc.nodup h1 (e ▸ hn))
        obtain ⟨cw, e1, e2⟩ := hval j y w h1 h2 h3
        exact ⟨cw, by rw [if_neg hxy]; exact e1, e2.mv mv⟩
    · intro j y w h1 h2 h3
      rcases set_at h3 with ⟨rfl, rfl⟩ | ⟨hne, h3⟩
      · rw [hn] at h1; cases h1
        rw [hkind _ hl] at h2
        exact h2.elim (fun e => by cases e) (fun e => by cases e)
      · obtain ⟨c, cw, e1, e2, e3⟩ := S.loc.cell j y w h1 h2 h3
        exact ⟨c, cw, e1, e2.sameBut hs (S.loc.cells y c e1).2, e3.mv mv⟩
    · intro y c e1
      obtain ⟨⟨ov, e2⟩, e3⟩ := S.loc.cells y c e1
      exact ⟨⟨ov, e2.sameBut hs e3⟩, e3⟩
  · obtain ⟨c, hc⟩ : ∃ c, env.cells.lookup x = some c := by
      have := S.cellsAll x (hkind _ hl)
      exact this
    obtain ⟨⟨ov, hov⟩, hcL⟩ := S.loc.cells x c hc
    have hF : Foot env c := .inr ⟨x, hc⟩
    have hnt : ∀ o, s.heap.get? c = some o → ¬ TupObj o := by
      obtain ⟨o', ho', hd'⟩ := hov
      rintro o ho ⟨_, vs, n, hd⟩
      rw [ho] at ho'; cases ho'
      rw [hd] at hd'; cases hd'
    refine wpAny_storeName_cell hk' (hkind _ hl) hc hov (fun h' hv' hs => ?_)
    have mv := own_mv S hF hs hnt
    have hq' := hq h' s.toks
    refine hq' ⟨own_inv S hF hs, fun a ha => Nat.lt_of_lt_of_le (S.below a ha) (Nat.le_of_eq hs.1.symm), own_hok S hF hs hnt, ⟨S.loc.nodup, by rw [List.length_set]; exact S.loc.len, ?_, ?_, ?_, S.loc.apart⟩, S.base, S.apart, S.cellsAll⟩ (own_ext hF hs) (fun _ _ h => h.mv mv)
    · obtain ⟨m, hm, hval⟩ := S.loc.ns
      refine ⟨m, hm.sameBut hs (fun e => hcL e.symm), fun j y w h1 h2 h3 => ?_⟩
      rcases set_at h3 with ⟨rfl, rfl⟩ | ⟨hne, h3⟩
      · rw [hn] at h1; cases h1
        rw [hkind _ hl] at h2; cases h2
      · obtain ⟨cw, e1, e2⟩ := hval j y w h1 h2 h3
        exact ⟨cw, e1, e2.mv mv⟩
    · intro j y w h1 h2 h3
      rcases set_at h3 with ⟨rfl, rfl⟩ | ⟨hne, h3⟩
      · rw [hn] at h1; cases h1
        exact ⟨c, cv, hc, hv', hv.mv mv⟩
      · obtain ⟨c', cw, e1, e2, e3⟩ := S.loc.cell j y w h1 h2 h3
        have hcc : c' ≠ c := fun q => hne (nodup_at S.loc.nodup h1 (S.loc.apart y x c' e1 (q ▸ hc) ▸ hn))
        exact ⟨c', cw, e1, e2.sameBut hs hcc, e3.mv mv⟩
    · intro y c' e1
      obtain ⟨⟨ov', e2⟩, e3⟩ := S.loc.cells y c' e1
      by_cases hcc : c' = c
      · subst hcc; exact ⟨⟨_, hv'⟩, e3⟩
      · exact ⟨⟨ov', e2.sameBut hs hcc⟩, e3⟩
end

/-! ## M5 -/
section
variable {W : Wd} {sc : Scope} {nm : List Str}

/-! ### statements -/
noncomputable def t_snb_nil  : TrS := fun _ ρ H Q => Q .next ρ H
theorem snb_nil : SndB W sc nm [] t_snb_nil :=
  .mk fun Q d A E s env Φ μ ρ H hE hA S hq => wpAny_execs_nil ⟨.next, ρ, H, μ, S, ExtS.refl, .next, hq⟩
noncomputable def t_snb_cons (x : TrS) (y : TrS) : TrS := fun d ρ H Q => x d ρ H fun fl ρ H => match fl with | .next => y d ρ H Q | fl => Q fl ρ H
theorem snb_cons {st : Stmt} {r : List Stmt} {x y : TrS} (h1 : SndS W sc nm st x) (h2 : SndB W sc nm r y) :
    SndB W sc nm (st :: r) (t_snb_cons x y) :=
  .mk fun Q d A E s env Φ μ ρ H hE hA S hq => by
    refine wpAny_execs_cons (wpAny_mono (h1.go _ d A E s env Φ μ ρ H hE hA S hq) (fun f s₁ p => ?_) fun _ _ x => x)
    refine PostS.use p fun fl ρ₁ H₁ μ₁ S₁ x₁ hf hq => ?_
    clear p
    cases hf with
    | next => exact wpAny_mono (h2.go _ d A E s₁ env Φ μ₁ ρ₁ H₁ hE hA S₁ hq) (fun _ _ p => p.after x₁) fun _ _ x => x
    | brk => exact ⟨_, ρ₁, H₁, μ₁, S₁, x₁, .brk, hq⟩
    | cont => exact ⟨_, ρ₁, H₁, μ₁, S₁, x₁, .cont, hq⟩
    | ret hv => exact ⟨_, ρ₁, H₁, μ₁, S₁, x₁, .ret hv, hq⟩
    | rett h1 h2 => exact ⟨_, ρ₁, H₁, μ₁, S₁, x₁, .rett h1 h2, hq⟩
/-- the last statement: nothing behind it -/
theorem snb_one {st : Stmt} {x : TrS} (h1 : SndS W sc nm st x) : SndB W sc nm [st] x :=
  .mk fun Q d A E s env Φ μ ρ H hE hA S hq => by
    refine wpAny_execs_cons (wpAny_mono (h1.go _ d A E s env Φ μ ρ H hE hA S hq) (fun f s₁ p => ?_) fun _ _ x => x)
    cases f with
    | next => exact wpAny_execs_nil p
    | brk => exact p
    | cont => exact p
    | ret v => exact p

noncomputable def t_sns_continue  : TrS := fun _ ρ H Q => Q .cont ρ H
theorem sns_continue {pos} : SndS W sc nm (.Continue pos) t_sns_continue :=
  .mk fun Q d A E s env Φ μ ρ H hE hA S hq => by
    show wpAny _ _ (exec (.Continue pos) env) _ _ _
    rw [arm_exec_Continue]
    exact wpAny_bind (wpAny_standAt (wpAny_pure ⟨.cont, ρ, H, μ, S, ExtS.refl, .cont, hq⟩))
noncomputable def t_sns_ret (x : Tr) : TrS := fun d ρ H Q => x d ρ H fun v H => Q (.ret v) ρ H
theorem sns_ret {e : Expr} {pos} {x : Tr} (h : SndE W sc nm e x) : SndS W sc nm (.Return (some e) pos) (t_sns_ret x) :=
  .mk fun Q d A E s env Φ μ ρ H hE hA S hq => wpAny_Return_some (wpAny_mono (h.go _ d A E s env Φ μ ρ H hE hA S hq) (fun cv s₁ p => by
    refine PostE.use p fun v H₁ μ₁ S₁ x₁ hv hq => ?_
    clear p
    exact ⟨.ret v, ρ, H₁, μ₁, S₁, x₁.s, .ret hv, hq⟩) fun _ _ x => x)
noncomputable def t_sns_rett (xs : TrL) : TrS := fun d ρ H Q => xs d ρ H fun vs H => guard (Nat.ble vs.length 65536) (Q (.rett vs) ρ H)
theorem sns_rett {es : List Expr} {k p pos} {xs : TrL} (h : SndL W sc nm es xs) : SndS W sc nm (.Return (some (.Tuple es k p)) pos) (t_sns_rett xs) :=
  .mk fun Q d A E s env Φ μ ρ H hE hA S hq => by
    refine wpAny_Return_some (wpAny_Tuple_spliced (wpAny_mono (h.go p _ d A E s env Φ μ ρ H hE hA S hq) (fun cvs s₁ p => ?_) fun _ _ x => x))
    refine PostEs.use p fun vs H₁ μ₁ S₁ x₁ hvs hq => ?_
    clear p
    obtain ⟨hle, hq⟩ := gd_elim hq
    have hlen := hvs.length
    refine ⟨by rw [sizeLine_eq]; lia, ?_⟩
    have g : ∀ b o, s₁.heap.get? b = some o → (s₁.heap.push { cls := .type "tuple", data := .seq cvs.toArray }).get? b = some o := fun b o e => Heap.get?_push_of_some _ e
    have hsz : s₁.heap.objs.size ≤ (s₁.heap.push { cls := .type "tuple", data := .seq cvs.toArray }).objs.size := by rw [Heap.size_push]; exact Nat.le_succ _
    exact ⟨.rett vs, ρ, H₁, μ₁, S₁.grow (s' := { s₁ with heap := s₁.heap.push { cls := .type "tuple", data := .seq cvs.toArray } }) g hsz rfl rfl, (x₁.trans (Ext.grow g hsz)).s, .rett (IsTup.new _ _) (hvs.mv ((Ext.grow g hsz).mv S₁.hok)), hq⟩

noncomputable def t_sns_if (u : TrB) (x : TrS) (y : TrS) : TrS := fun d ρ H Q => u d ρ H fun c H => if c = true then x d ρ H Q else y d ρ H Q
theorem sns_if {t : Expr} {b o : List Stmt} {pos} {u : TrB} {x y : TrS} (h1 : SndT W sc nm t u) (h2 : SndB W sc nm b x) (h3 : SndB W sc nm o y) :
    SndS W sc nm (.If t b o pos) (t_sns_if u x y) :=
  .mk fun Q d A E s env Φ μ ρ H hE hA S hq => by
    refine wpAny_If (wpAny_mono (h1.go _ d A E s env Φ μ ρ H hE hA S hq) (fun c s₁ p => ?_) fun _ _ x => x)
    refine PostT.use p fun H₁ μ₁ S₁ x₁ hq => ?_
    clear p
    cases c with
    | true => exact wpAny_mono (h2.go _ d A E s₁ env Φ μ₁ ρ H₁ hE hA S₁ hq) (fun _ _ p => p.after x₁.s) fun _ _ x => x
    | false => exact wpAny_mono (h3.go _ d A E s₁ env Φ μ₁ ρ H₁ hE hA S₁ hq) (fun _ _ p => p.after x₁.s) fun _ _ x => x

noncomputable def t_sns_assign (i : Nat) (u : Tr) : TrS := fun d ρ H Q => u d ρ H fun v H => Q .next (ρ.set i (some v)) H
theorem sns_assign {x : Str} {p' value pos} {i : Nat} {u : Tr} (hi : slotSt sc nm x i = true) (h : SndE W sc nm value u) (hs : ∀ env, swapsWith value (some (.Name x p')) pos.line env = pure false := by intro _; rfl) :
    SndS W sc nm (.Assign [.Name x p'] value pos) (t_sns_assign i u) :=
  .mk fun Q d A E s env Φ μ ρ H hE hA S hq => by
    refine wpAny_Assign_Name (wpAny_mono (h.go _ d A E s env Φ μ ρ H hE hA S hq) (fun cv s₁ p => ?_) fun _ _ x => x) (hs env)
    refine PostE.use p fun v H₁ μ₁ S₁ x₁ hv hq => ?_
    clear p
    exact store_ok hi hE S₁ hv fun h' t S₂ x₂ _ => ⟨.next, _, H₁, μ₁, S₂, x₁.s.trans x₂, .next, hq⟩

noncomputable def noneV (v : V) (P : Prop) : Prop := match v with
  | .d x => (match x with | .none => P | _ => False)
  | .ref _ => False
theorem noneV_some {v : V} {P : Prop} (h : noneV v P) : v = .d .none ∧ P := by
  cases v with
  | d x => cases x <;> first | exact False.elim h | exact ⟨rfl, h⟩
  | ref i => exact False.elim h
noncomputable def t_sns_expr (x : Tr) : TrS := fun d ρ H Q => x d ρ H fun v H => noneV v (Q .next ρ H)
theorem sns_expr {e : Expr} {pos} {x : Tr} (hk : sc.kind = .function) (h : SndE W sc nm e x) (hs : ∀ env, swapsWith e none pos.line env = pure false := by intro _; rfl) :
    SndS W sc nm (.Expr e pos) (t_sns_expr x) :=
  .mk fun Q d A E s env Φ μ ρ H hE hA S hq => by
    refine wpAny_Expr (wpAny_mono (h.go _ d A E s env Φ μ ρ H hE hA S hq) (fun cv s₁ p => ?_) fun _ _ x => x) (by unfold interactive; rw [hE.scope, hk]; rfl) (hs env)
    refine PostE.use p fun v H₁ μ₁ S₁ x₁ hv hq => ?_
    clear p
    obtain ⟨rfl, hq⟩ := noneV_some hq
    obtain ⟨as, r, _⟩ := hv
    obtain rfl := (reads_inv r).1
    exact ⟨.next, ρ, H₁, μ₁, S₁, x₁.s, .next, hq⟩

/-! ### arguments, calls of the text's own -/
noncomputable def plainArgs : List Expr → Bool
  | [] => true
  | e :: r => !isStarred e && plainArgs r
theorem starEach_plain : ∀ {es : List Expr}, plainArgs es = true → ∀ env pos, (backTo pos (starEach es env)).any (·.1) = false
  | [], _, _, _ => rfl
  | e :: r, h, env, pos => by
    have h' : isStarred e = false ∧ plainArgs r = true := by simpa [plainArgs] using h
    have ih := starEach_plain h'.2 env pos
    have e1 : starEach (e :: r) env = (false, eval e env) :: starEach r env := by
      cases e <;> first | rfl | (exact absurd h'.1 (by intro q; cases q))
    rw [e1]
    show ((false, _) :: backTo pos (starEach r env)).any (·.1) = false
    rw [List.any_cons, ih]; rfl

theorem args_ok {es : List Expr} {xs : TrL} {f : Value} (h : SndL W sc nm es xs) (hp : plainArgs es = true) {d : Nat} {A : Around} {E : Value → Shared → Prop} {s : Shared} {env : Env} {Φ : Addr → Prop} {μ : Mu} {ρ : Rho} {H : List O} {pos : Pos}
    {Q : List V → List O → Prop} {P : Args → Shared → Prop} (hE : EnvOk sc env) (hA : OkA d A) (S : St W env nm Φ s μ ρ H) (hq : xs d ρ H Q)
    (hP : ∀ cvs s', PostEs W env nm Φ s μ ρ Q cvs s' → P ⟨cvs, []⟩ s') : wpAny (model W.prog W.w) A (evalArgs f true (backTo pos (starEach es env)) []) P E s := by
  have h1 : wpAny (model W.prog W.w) A (spliced (backTo pos (starEach es env))) (PostEs W env nm Φ s μ ρ Q) E s := h.go pos Q d A E s env Φ μ ρ H hE hA S hq
  have hst := starEach_plain hp env pos
  cases hl : backTo pos (starEach es env) with
  | nil =>
    rw [hl] at h1
    unfold evalArgs
    show wpAny _ _ (spliced [] >>= _) _ _ _
    refine wpAny_bind (wpAny_mono h1 (fun cvs s' h' => ?_) fun _ _ x => x)
    refine wpAny_bind (wpAny_pure ?_)
    refine wpAny_holding ?_
    exact wpAny_bind (wpAny_pure (wpAny_bind (wpAny_pure (wpAny_pure (hP _ _ h')))))
  | cons a r =>
    obtain ⟨b, t⟩ := a
    rw [hl] at h1 hst
    have hb : b = false := by
      rw [List.any_cons] at hst
      cases b with
      | false => rfl
      | true => cases hst
    subst hb
    exact evalArgs_plain (wpAny_mono h1 hP fun _ _ x => x)
end

/-! ## M6 -/
section
variable {W : Wd} {sc : Scope} {nm : List Str}

/-- what a call leaves is what an expression leaves -/
theorem post_expr {env : Env} {Φ : Addr → Prop} {s s' : Shared} {μ : Mu} {ρ : Rho} {H : List O} {Q : V → List O → Prop} {cv : Value} (S : St W env nm Φ s μ ρ H)
    (p : Post W s.heap (Out Φ env) μ Q cv s') : PostE W env nm Φ s μ ρ Q cv s' := by
  obtain ⟨v, H', μ', I, x, K, hv, hq⟩ := p
  exact ⟨v, H', μ', S.ext x K (I.gens.trans S.inv.gens.symm) (I.os.trans S.inv.os.symm), x, hv, hq⟩

/-- f stands in the base, as a function -/
noncomputable def IsFn (W : Wd) (f : Addr) : Prop := ∃ o fd, W.base.get? f = some o ∧ o.data = .func fd

noncomputable def t_snd_callf (W : Wd) (f : Addr) (xs : TrL) : Tr := fun d ρ H Q => xs d ρ H fun vs H => CallW W f d vs H Q
theorem snd_callf {id : Str} {fp pos : Pos} {args : List Expr} {xs : TrL} {f : Addr} (hg : globOk sc id = true) (hv : W.mg id = some (.ref f)) (hf : IsFn W f) (hp : plainArgs args = true) (h : SndL W sc nm args xs) :
    SndE W sc nm (.Call (.Name id fp) args [] pos) (t_snd_callf W f xs) :=
  .mk fun Q d A E s env Φ μ ρ H hE hA S hq => by
    obtain ⟨o, fd, ho, hd⟩ := hf
    refine wpAny_Call_Name_kw ?_
    refine load_global hg hE S hv ?_
    show wpAny _ _ (callWith pos (.ref f) [] (backTo pos (starEach args env)) []) _ _ _
    refine callWith_function (o := o) (fd := fd) (args_ok h hp hE hA S hq fun cvs s₁ p => ?_)
    refine PostEs.use p fun vs H₁ μ₁ S₁ x₁ hvs hq => ?_
    clear p
    refine ⟨⟨S₁.inv.keep _ _ ho, hd⟩, ?_⟩
    refine wpAny_mono (wpAny_call (hq.go A E s₁ (Out Φ env) μ₁ cvs hA S₁.inv S₁.below S₁.hok hvs)) (fun cv s₂ p => ?_) fun _ _ x => x
    exact (post_expr S₁ p).after x₁

/-! ### a call's end -/
noncomputable def frz (n : Nat) (H : List O) : V → Option PyData
  | .d x => some x
  | .ref i => if n ≤ i then (match H[i]? with | some o => o.l? | none => none) else none
noncomputable def frzs (n : Nat) (H : List O) : List V → Option (List PyData)
  | [] => some []
  | v :: r => match frz n H v with | some x => (match frzs n H r with | some xs => some (x :: xs) | none => none) | none => none
noncomputable def vIn (n : Nat) : V → Bool
  | .d _ => true
  | .ref i => decide (i < n)
noncomputable def oIn (n : Nat) : O → Bool
  | .inst _ fs => fs.all fun p => vIn n p.2
  | _ => true
noncomputable def keepW (n : Nat) (H : List O) (v : V) (Q : V → List O → Prop) : Prop := match v with
  | .ref i => if i < n then Q (.ref i) (H.take n) else (match H[i]? with | some o => oIn n o = true ∧ Q (.ref n) (H.take n ++ [o]) | none => False)
  | .d x => Q (.d x) (H.take n)
/-- the end of a call: all that it made goes, but what is handed on (frozen, or as one object) -/
noncomputable def RetV (n : Nat) (v : V) (H : List O) (Q : V → List O → Prop) : Prop :=
  (H.take n).all (oIn n) = true ∧ ((∃ x, frz n H v = some x ∧ Q (.d x) (H.take n)) ∨ keepW n H v Q)
noncomputable def RetW0 (n : Nat) (fl : Fl) (H : List O) (Q : V → List O → Prop) : Prop := match fl with
  | .ret v => RetV n v H Q
  | .rett vs => (H.take n).all (oIn n) = true ∧ ∃ xs, frzs n H vs = some xs ∧ Q (.d (.tuple xs)) (H.take n)
  | _ => (H.take n).all (oIn n) = true ∧ Q (.d .none) (H.take n)

structure RetW (n : Nat) (fl : Fl) (H : List O) (Q : V → List O → Prop) : Prop where
  mk ::
  go : RetW0 n fl H Q

variable {h : Heap} {Φ Φ' : Addr → Prop} {μ ν : Mu} {H : List O}

theorem VOk.less {Φ' : Addr → Prop} {v : V} {cv : Value} (hv : VOk h Φ (μ ++ ν) v cv) (hn : vIn μ.length v = true) (hΦ : ∀ a, Φ' a → Φ a) : VOk h Φ' μ v cv := by
  cases v with
  | d x =>
    obtain ⟨as, r, ho⟩ := hv
    exact ⟨as, r, fun a ha => ⟨fun hp => (ho a ha).1 (hΦ a hp), fun hf => (ho a ha).2 (FP.app.mpr (.inl hf))⟩⟩
  | ref i =>
    obtain ⟨p, hp, e⟩ := hv
    have hi : i < μ.length := of_decide_eq_true hn
    exact ⟨p, by rwa [List.getElem?_append_left hi] at hp, e⟩

theorem OOk.less {Φ' : Addr → Prop} {p : Addr × Addr} {o : O} (ho : OOk W h Φ (μ ++ ν) p o) (hn : oIn μ.length o = true) (hΦ : ∀ a, Φ' a → Φ a) : OOk W h Φ' μ p o := by
  cases o with
  | list l =>
    obtain ⟨e, vs, as, hl, hr, hoff⟩ := ho
    exact ⟨e, vs, as, hl, hr, fun a ha => ⟨fun hp => (hoff a ha).1 (hΦ a hp), fun hf => (hoff a ha).2 (FP.app.mpr (.inl hf))⟩⟩
  | dict l => exact ho
  | inst c fs =>
    obtain ⟨e, hi, mm, hn', h4⟩ := ho
    refine ⟨e, hi, mm, hn', fun x v hx => ?_⟩
    obtain ⟨cv, a, b⟩ := h4 x v hx
    exact ⟨cv, a, b.less (by
      have := List.all_eq_true.mp hn (x, v) hx
      exact this) hΦ⟩

theorem HOk.less {Φ' : Addr → Prop} (K : HOk W h Φ (μ ++ ν) H) (hn : (H.take μ.length).all (oIn μ.length) = true) (hΦ : ∀ a, Φ' a → Φ a) : HOk W h Φ' μ (H.take μ.length) := by
  have hlen : (μ ++ ν).length = H.length := K.len
  have hle : μ.length ≤ H.length := by rw [← hlen, List.length_append]; exact Nat.le_add_right _ _
  refine ⟨by rw [List.length_take]; lia, ?_, ?_, ?_⟩
  · intro i j p q hp hq hpq
    have hi := (List.getElem?_eq_some_iff.mp hp).1
    have hj := (List.getElem?_eq_some_iff.mp hq).1
    exact K.sep i j p q (by rw [List.getElem?_append_left hi]; exact hp) (by rw [List.getElem?_append_left hj]; exact hq) hpq
  · intro a ha
    have := K.above a (FP.app.mpr (.inl ha))
    exact ⟨this.1, fun hp => this.2 (hΦ a hp)⟩
  · intro i o ho
    have hi : i < μ.length := by
      have := (List.getElem?_eq_some_iff.mp ho).1
      rw [List.length_take] at this; lia
    have ho' : H[i]? = some o := by rwa [List.getElem?_take_of_lt hi] at ho
    obtain ⟨p, hp, hok⟩ := K.obj i o ho'
    rw [List.getElem?_append_left hi] at hp
    exact ⟨p, hp, hok.less (List.all_eq_true.mp hn o (List.mem_of_getElem? ho)) hΦ⟩

theorem frz_ok {v : V} {cv : Value} {x : PyData} (K : HOk W h Φ (μ ++ ν) H) (hv : VOk h Φ (μ ++ ν) v cv) (e : frz μ.length H v = some x) (hΦ : ∀ a, Φ' a → Φ a) : VOk h Φ' μ (.d x) cv := by
  cases v with
  | d y => cases e; exact VOk.less hv rfl hΦ
  | ref i =>
    obtain ⟨p, hp, ev⟩ := hv
    have e : (if μ.length ≤ i then viewD H (.ref i) else none) = some x := e
    by_cases hi : μ.length ≤ i
    · rw [if_pos hi] at e
      obtain ⟨l, hO, ex⟩ := viewD_inv e
      obtain ⟨_, vs, as, ⟨n, ho⟩, hr, hoff⟩ := K.list hO hp
      rw [ev, ex]
      refine ⟨p.1 :: as, reads_list_at ho rfl rfl hr, all_cons ⟨fun hq => (K.above _ (FP.at hp).1).2 (hΦ _ hq), fun hf => ?_⟩ fun a ha => ⟨fun hq => (hoff a ha).1 (hΦ a hq), fun hf => (hoff a ha).2 (FP.app.mpr (.inl hf))⟩⟩
      obtain ⟨q, hq, hqa⟩ := hf
      obtain ⟨j, hj⟩ := List.mem_iff_getElem?.mp hq
      have hjl := (List.getElem?_eq_some_iff.mp hj).1
      have := K.sep i j p q hp (by rw [List.getElem?_append_left hjl]; exact hj) (hqa.elim .inl fun z => .inr (.inl z))
      exact absurd (Nat.lt_of_le_of_lt hi (this ▸ hjl)) (Nat.lt_irrefl _)
    · rw [if_neg hi] at e; cases e
theorem frzs_ok (K : HOk W h Φ (μ ++ ν) H) (hΦ : ∀ a, Φ' a → Φ a) {vs : List V} {cvs : List Value} {xs : List PyData} (r : VsOk h Φ (μ ++ ν) vs cvs) : frzs μ.length H vs = some xs → ∃ as, ReadsAll h cvs xs as ∧ Off Φ' μ as := by
  refine vsOk_ind (fun vs cvs => ∀ xs, frzs μ.length H vs = some xs → ∃ as, ReadsAll h cvs xs as ∧ Off Φ' μ as) (fun xs e => Option.some.inj e ▸ ⟨[], .nil, all_nil⟩) (fun {v cv vs cvs} h1 _ ih xs e => ?_) r xs
  have e : (match frz μ.length H v with | some x => (match frzs μ.length H vs with | some xs => some (x :: xs) | none => none) | none => none) = some xs := e
  cases e1 : frz μ.length H v with
  | none => rw [e1] at e; cases e
  | some x =>
    rw [e1] at e
    cases e2 : frzs μ.length H vs with
    | none => rw [e2] at e; cases e
    | some ys => rw [e2] at e; exact let ⟨as, r, o1⟩ := frz_ok K h1 e1 hΦ; let ⟨bs, q, o2⟩ := ih ys e2; Option.some.inj e ▸ ⟨as ++ bs, .cons r q, all_app o1 o2⟩

/-- no object names what is not there -/
noncomputable def Closed (H : List O) : Prop := H.all (oIn H.length) = true
theorem HOk.closed (K : HOk W h Φ μ H) : Closed H := by
  refine List.all_eq_true.mpr fun o ho => ?_
  obtain ⟨i, hi⟩ := List.mem_iff_getElem?.mp ho
  obtain ⟨p, hp, hk⟩ := K.obj i o hi
  cases o with
  | list l => rfl
  | dict l => rfl
  | inst c fs =>
    obtain ⟨_, _, _, _, h4⟩ := hk
    refine List.all_eq_true.mpr fun q hq => ?_
    obtain ⟨cv, _, hv⟩ := h4 q.1 q.2 hq
    cases hq2 : q.2 with
    | d x => rfl
    | ref j =>
      rw [hq2] at hv
      obtain ⟨r, hr, _⟩ := hv
      have := (List.getElem?_eq_some_iff.mp hr).1
      rw [K.len] at this
      exact decide_eq_true this

theorem keep_hok {i : Nat} {p : Addr × Addr} {o : O} (K : HOk W h Φ (μ ++ ν) H) (hn : (H.take μ.length).all (oIn μ.length) = true) (hΦ : ∀ a, Φ' a → Φ a) (hi : ¬ i < μ.length) (hp : (μ ++ ν)[i]? = some p) (hO : H[i]? = some o) (ho : oIn μ.length o = true) :
    HOk W h Φ' (μ ++ [p]) (H.take μ.length ++ [o]) := by
  have L := K.less hn hΦ
  have hfp : ∀ a, FP (μ ++ [p]) a → FP (μ ++ ν) a := fun a ha => (FP.app.mp ha).elim (fun hf => FP.app.mpr (.inl hf)) fun ⟨q, hq, hqa⟩ => by
    rw [List.mem_singleton.mp hq] at hqa
    exact hqa.elim (fun e => e ▸ (FP.at hp).1) fun e => e ▸ (FP.at hp).2
  have up : ∀ {q : Addr × Addr} {oo : O}, OOk W h Φ (μ ++ ν) q oo → oIn μ.length oo = true → OOk W h Φ' (μ ++ [p]) q oo := by
    intro q oo hk hin
    cases oo with
    | list l =>
      obtain ⟨e, vs, as, hl, hr, hoff⟩ := hk
      exact ⟨e, vs, as, hl, hr, fun a ha => ⟨fun hp => (hoff a ha).1 (hΦ a hp), fun hf => (hoff a ha).2 (hfp a hf)⟩⟩
    | dict l => exact hk
    | inst c fs =>
      obtain ⟨e, hi, mm, hn', h4⟩ := hk
      refine ⟨e, hi, mm, hn', fun x v hx => ?_⟩
      obtain ⟨cv, a, b⟩ := h4 x v hx
      refine ⟨cv, a, ?_⟩
      have hvi : vIn μ.length v = true := List.all_eq_true.mp hin (x, v) hx
      cases v with
      | d y => obtain ⟨as, r, hoff⟩ := b; exact ⟨as, r, fun a ha => ⟨fun hp => (hoff a ha).1 (hΦ a hp), fun hf => (hoff a ha).2 (hfp a hf)⟩⟩
      | ref j =>
        have hj : j < μ.length := of_decide_eq_true hvi
        obtain ⟨q, hq, e⟩ := b
        rw [List.getElem?_append_left hj] at hq
        exact ⟨q, by rw [List.getElem?_append_left hj]; exact hq, e⟩
  have hat : ∀ {j : Nat} {q : Addr × Addr}, (μ ++ [p])[j]? = some q → (j < μ.length ∧ (μ ++ ν)[j]? = some q) ∨ (j = μ.length ∧ q = p) := by
    intro j q hq
    by_cases hj : j < μ.length
    · left
      rw [List.getElem?_append_left hj] at hq
      exact ⟨hj, by rw [List.getElem?_append_left hj]; exact hq⟩
    · right
      rw [List.getElem?_append_right (by lia)] at hq
      have hjl := (List.getElem?_eq_some_iff.mp hq).1
      have hj0 : j - μ.length = 0 := by simpa using hjl
      rw [hj0] at hq
      exact ⟨by lia, by simpa using hq.symm⟩
  refine ⟨by have := L.len; simp only [List.length_append, List.length_singleton]; lia, ?_, fun a ha => ⟨(K.above a (hfp a ha)).1, fun hp => (K.above a (hfp a ha)).2 (hΦ a hp)⟩, ?_⟩
  · intro j k q r hq hr hqr
    rcases hat hq with ⟨h1, h2⟩ | ⟨h1, rfl⟩ <;> rcases hat hr with ⟨h3, h4⟩ | ⟨h3, rfl⟩
    · exact K.sep j k q r h2 h4 hqr
    · have := K.sep j i q r h2 hp hqr; lia
    · have := K.sep i k q r hp h4 hqr; lia
    · lia
  · intro j oo hoo
    have hlt : (H.take μ.length).length = μ.length := L.len.symm
    by_cases hj : j < μ.length
    · rw [List.getElem?_append_left (by lia)] at hoo
      have hoo' : H[j]? = some oo := by rwa [List.getElem?_take_of_lt hj] at hoo
      obtain ⟨q, hq, hk⟩ := K.obj j oo hoo'
      exact ⟨q, by rw [List.getElem?_append_left hj] at hq ⊢; exact hq, up hk (List.all_eq_true.mp hn oo (List.mem_of_getElem? hoo))⟩
    · rw [List.getElem?_append_right (by lia), hlt] at hoo
      have hjl := (List.getElem?_eq_some_iff.mp hoo).1
      have hj0 : j - μ.length = 0 := by simpa using hjl
      rw [hj0] at hoo
      have : oo = o := by simpa using hoo.symm
      subst this
      obtain ⟨q, hq, hk⟩ := K.obj i oo hO
      rw [hp] at hq; cases hq
      exact ⟨p, by rw [List.getElem?_append_right (by lia), hj0]; rfl, up hk ho⟩
end

/-! ## M7 -/
noncomputable def initRho (n : Nat) (args : List V) : Rho := args.map some ++ List.replicate (n - args.length) none

theorem initRho_at {n : Nat} {args : List V} {i : Nat} {v : V} (h : (initRho n args)[i]? = some (some v)) : args[i]? = some v := by
  unfold initRho at h
  by_cases hi : i < args.length
  · rw [List.getElem?_append_left (by simpa using hi)] at h
    rw [List.getElem?_map] at h
    cases e : args[i]? with
    | none => rw [e] at h; cases h
    | some w => rw [e] at h; simpa using h
  · rw [List.getElem?_append_right (by simpa using Nat.le_of_not_lt hi)] at h
    have h2 := List.eq_of_mem_replicate (List.mem_of_getElem? h)
    cases h2

theorem lookup_of_mem {α : Type} {l : List (Str × α)} {k : Str} {v : α} (hn : (l.map (·.1)).Nodup) (hm : (k, v) ∈ l) : l.lookup k = some v := by
  induction l with
  | nil => exact nomatch hm
  | cons p r ih =>
    rw [List.map_cons, List.nodup_cons] at hn
    rw [List.lookup_cons]
    rcases List.mem_cons.mp hm with e | hm
    · rw [← e, beq_self_eq_true]
    · have hne : k ≠ p.1 := fun e => hn.1 (e ▸ List.mem_map.mpr ⟨(k, v), hm, rfl⟩)
      rw [beq_eq_false_iff_ne.mpr hne]
      exact ih hn.2 hm

section
variable {W : Wd} {h h' : Heap} {Φ Φ' : Addr → Prop} {μ : Mu} {H : List O}
theorem VsOk.at {h : Heap} {Φ : Addr → Prop} {μ : Mu} {vs : List V} {cvs : List Value} {i : Nat} {v : V} (r : VsOk h Φ μ vs cvs) : vs[i]? = some v → ∃ cv, cvs[i]? = some cv ∧ VOk h Φ μ v cv := by
  refine vsOk_ind (fun vs cvs => ∀ i, vs[i]? = some v → ∃ cv, cvs[i]? = some cv ∧ VOk h Φ μ v cv) (fun i e => by cases i <;> cases e) (fun {v' cv vs cvs} h1 _ ih i e => ?_) r i
  cases i with
  | zero => exact ⟨cv, rfl, Option.some.inj e ▸ h1⟩
  | succ i => exact ih i e

/-- more is foreign, of what lies behind the old heap -/
theorem VOk.more (hΦ : ∀ a, Φ' a → Φ a ∨ h.objs.size ≤ a) {v : V} {cv : Value} (hv : VOk h Φ μ v cv) : VOk h Φ' μ v cv := by
  cases v with
  | ref i => exact hv
  | d x =>
    obtain ⟨as, r, ho⟩ := hv
    exact ⟨as, r, fun a ha => ⟨fun hp => (hΦ a hp).elim (ho a ha).1 fun hl => Nat.lt_irrefl _ (Nat.lt_of_lt_of_le (reads_lt r a ha) hl), (ho a ha).2⟩⟩
theorem OOk.more (hΦ : ∀ a, Φ' a → Φ a ∨ h.objs.size ≤ a) {p : Addr × Addr} {o : O} (ho : OOk W h Φ μ p o) : OOk W h Φ' μ p o := by
  cases o with
  | dict l => exact ho
  | list l =>
    obtain ⟨e, vs, as, hl, hr, hoff⟩ := ho
    exact ⟨e, vs, as, hl, hr, fun a ha => ⟨fun hp => (hΦ a hp).elim (hoff a ha).1 fun hl => Nat.lt_irrefl _ (Nat.lt_of_lt_of_le (readsAll_lt hr a ha) hl), (hoff a ha).2⟩⟩
  | inst c fs =>
    obtain ⟨e, hi, mm, hn, h4⟩ := ho
    exact ⟨e, hi, mm, hn, fun x v hx => let ⟨cv, a, b⟩ := h4 x v hx; ⟨cv, a, b.more hΦ⟩⟩
theorem HOk.more (K : HOk W h Φ μ H) (hΦ : ∀ a, Φ' a → Φ a ∨ h.objs.size ≤ a) : HOk W h Φ' μ H :=
  ⟨K.len, K.sep, fun a ha => ⟨(K.above a ha).1, fun hp => (hΦ a hp).elim (K.above a ha).2 fun hl => Nat.lt_irrefl _ (Nat.lt_of_lt_of_le (K.lt ha) hl)⟩, fun i o e => let ⟨p, hp, ho⟩ := K.obj i o e; ⟨p, hp, ho.more hΦ⟩⟩
end

noncomputable def retVal : Flow → Value
  | .ret v => v
  | _ => .none
/-- the end of a body is the end of the call -/
theorem ret_ok {W : Wd} {env : Env} {nm : List Str} {Φ : Addr → Prop} {s s₀ s' : Shared} {μ : Mu} {H : List O} {Q : V → List O → Prop} {f : Flow} (hs : ∀ b o, s.heap.get? b = some o → s₀.heap.get? b = some o ∧ ¬ Foot env b) (hsz : s.heap.objs.size ≤ s₀.heap.objs.size)
    (hl : μ.length = H.length) (p : PostS W env nm Φ s₀ μ (fun fl _ H' => RetW H.length fl H' Q) f s') : Post W s.heap Φ μ Q (retVal f) s' := by
  refine PostS.use p fun fl ρ' H' μ' S x hf hqw => ?_
  clear p
  have hq := hqw.go
  obtain ⟨ν, rfl, hn⟩ := x.new
  rw [← hl] at hq
  have hΦ : ∀ a, Φ a → Out Φ env a := fun a ha => .inl ha
  have xe : Ext s.heap μ s'.heap μ := ⟨⟨[], by simp, fun _ ha => absurd ha FP.nil⟩, Nat.le_trans hsz x.size, fun b o e hf => x.keep b o (hs b o e).1 hf (hs b o e).2⟩
  have none_ : (H'.take μ.length).all (oIn μ.length) = true ∧ Q (.d .none) (H'.take μ.length) → Post W s.heap Φ μ Q Value.none s' := fun hq =>
    ⟨.d .none, _, μ, S.inv, xe, S.hok.less hq.1 hΦ, vok_val .none, hq.2⟩
  cases hf with
  | next => exact none_ hq
  | brk => exact none_ hq
  | cont => exact none_ hq
  | rett h1 h2 =>
    obtain ⟨h3, xs, h4, h5⟩ := hq
    obtain ⟨as, r, ho⟩ := frzs_ok S.hok hΦ h2 h4
    obtain ⟨o, ho1, ho2, n, ho3⟩ := h1
    exact ⟨.d (.tuple xs), _, μ, S.inv, xe, S.hok.less h3 hΦ, ⟨as, reads_tuple_at ho1 ho2 ho3 (readsAll_at r), ho⟩, h5⟩
  | @ret v cv hv =>
    obtain ⟨h3, ⟨x', h4, h5⟩ | h4⟩ := hq
    · exact ⟨_, _, μ, S.inv, xe, S.hok.less h3 hΦ, frz_ok S.hok hv h4 hΦ, h5⟩
    · cases v with
      | d y => exact ⟨_, _, μ, S.inv, xe, S.hok.less h3 hΦ, VOk.less hv rfl hΦ, h4⟩
      | ref i =>
        simp only [keepW] at h4
        by_cases hi : i < μ.length
        · rw [if_pos hi] at h4
          exact ⟨_, _, μ, S.inv, xe, S.hok.less h3 hΦ, VOk.less hv (decide_eq_true hi) hΦ, h4⟩
        · rw [if_neg hi] at h4
          cases hO : H'[i]? with
          | none => rw [hO] at h4; exact h4.elim
          | some o =>
            rw [hO] at h4
            obtain ⟨p, hp, rfl⟩ := hv
            have hK := keep_hok S.hok h3 hΦ hi hp hO h4.1
            have hpn : ∀ a, FP [p] a → s₀.heap.objs.size ≤ a := fun a ⟨q, hq, hqa⟩ => by
              rw [List.mem_singleton.mp hq] at hqa
              have hp' : ν[i - μ.length]? = some p := by rwa [List.getElem?_append_right (by lia)] at hp
              exact hqa.elim (fun e => e ▸ hn _ (FP.at hp').1) fun e => e ▸ hn _ (FP.at hp').2
            exact ⟨.ref μ.length, _, μ ++ [p], S.inv, ⟨⟨[p], rfl, fun a ha => Nat.le_trans hsz (hpn a ha)⟩, xe.size, xe.keep⟩, hK, ⟨p, by simp, rfl⟩, h4.2⟩

/-! ## M8 -/
section
variable {W : Wd} {h : Heap} {Φ : Addr → Prop} {μ : Mu} {H : List O}
theorem view_tup {v : V} {cv : Value} {l : List PyData} (hv : VOk h Φ μ v cv) (e : viewD H v = some (.tuple l)) : ∃ a vs as, cv = .ref a ∧ IsTup h a (vs : List Value).toArray ∧ ReadsAll h vs l as ∧ Off Φ μ as := by
  cases v with
  | d y => exact let ⟨as, r, ho⟩ := hv; let ⟨a, vs, ea, ht, hr⟩ := tup_of_reads (Option.some.inj e ▸ r); ⟨a, vs, as, ea, ht, hr, ho⟩
  | ref i => exact let ⟨_, _, e⟩ := viewD_inv e; PyData.noConfusion e
theorem view_list {v : V} {cv : Value} {l : List PyData} (K : HOk W h Φ μ H) (hv : VOk h Φ μ v cv) (e : viewD H v = some (.list l)) : ∃ a vs as, cv = .ref a ∧ h.IsList a (vs : List Value).toArray ∧ ReadsAll h vs l as ∧ Off Φ μ as := by
  cases v with
  | d y => exact let ⟨as, r, ho⟩ := hv; let ⟨a, vs, bs, ea, eb, ht, hr⟩ := reads_list_items (Option.some.inj e ▸ r); ⟨a, vs, bs, ea, ht, hr, fun b hb => ho b (eb ▸ .tail _ hb)⟩
  | ref i => exact let ⟨p, hp, ev⟩ := hv; let ⟨l', hO, el⟩ := viewD_inv e; let ⟨_, vs, as, hl, hr, hoff⟩ := K.list hO hp; ⟨p.1, vs.toList, as, ev, hl.isList, PyData.list.inj el ▸ hr, hoff⟩

theorem readsAll_get {h : Heap} {vs : List Value} {ds : List PyData} {as : List Addr} (r : ReadsAll h vs ds as) {i : Nat} {d : PyData} : ds[i]? = some d → ∃ v bs, vs[i]? = some v ∧ Reads h v d bs ∧ ∀ b ∈ bs, b ∈ as := by
  refine readsAll_ind (fun vs ds as => ∀ i, ds[i]? = some d → ∃ v bs, vs[i]? = some v ∧ Reads h v d bs ∧ ∀ b ∈ bs, b ∈ as) (fun i e => by cases i <;> cases e) (fun {v vs x ds as bs} h1 _ ih i e => ?_) r i
  cases i with
  | zero => exact ⟨v, as, rfl, Option.some.inj e ▸ h1, fun b hb => List.mem_append.mpr (.inl hb)⟩
  | succ i => exact let ⟨v, bs, e1, r, hb⟩ := ih i e; ⟨v, bs, e1, r, fun b hb' => List.mem_append.mpr (.inr (hb b hb'))⟩
end

/-- the item of a sequence at a place: l[k], l[-1] -/
noncomputable def itemAt (l : List PyData) (k : Int) (Q : PyData → Prop) : Prop := match k with
  | .ofNat n => (match l[n]? with | some y => guard (Nat.ble (n + 1) 1000000) (Q y) | none => False)
  | .negSucc 0 => (match l.getLast? with | some y => Q y | none => False)
  | _ => False

noncomputable def intV (v : V) (Q : Int → Prop) : Prop := match v with
  | .d x => (match x with | .int k => Q k | _ => False)
  | .ref _ => False
theorem intV_some {v : V} {Q : Int → Prop} (h : intV v Q) : ∃ k, v = .d (.int k) ∧ Q k := by
  cases v with
  | d x => cases x <;> first | exact False.elim h | exact ⟨_, rfl, h⟩
  | ref i => exact False.elim h
noncomputable def seqD? (x : PyData) : Bool := match x with
  | .tuple _ => true | .list _ => true | _ => false
noncomputable def idxD (x : PyData) (i : V) (Q : PyData → Prop) : Prop := match x with
  | .tuple l => intV i fun k => itemAt l k Q
  | .list l => intV i fun k => itemAt l k Q
  | _ => False
noncomputable def idxV0 (v i : V) (H : List O) (Q : V → List O → Prop) : Prop :=
  match dictOf? H v with
  | some l => keyV i fun x => (match dget l x with | some y => Q (.d y) H | none => False)
  | none => match viewD H v with
    | some x => idxD x i fun y => Q (.d y) H
    | none => False
structure idxS (v i : V) (H : List O) (Q : V → List O → Prop) : Prop where
  mk ::
  go : idxV0 v i H Q

noncomputable def idxV (v i : V) (H : List O) (Q : V → List O → Prop) : Prop := match v with
  | .d x => (match seqD? x with | true => idxD x i fun y => Q (.d y) H | false => idxS (.d x) i H Q)
  | .ref j => idxS (.ref j) i H Q
theorem idxV.go {v i : V} {H : List O} {Q : V → List O → Prop} (h : idxV v i H Q) : idxV0 v i H Q := by
  cases v with
  | ref j => exact idxS.go h
  | d x => cases x <;> first | exact h | exact idxS.go h
theorem idxV_cases {v i : V} {H : List O} {Q : V → List O → Prop} (h : idxV v i H Q) : (∃ l k y, dictOf? H v = some l ∧ i = .d (.str k) ∧ dget l k = some y ∧ Q (.d y) H) ∨
    (∃ l k, viewD H v = some (.tuple l) ∧ i = .d (.int k) ∧ itemAt l k fun y => Q (.d y) H) ∨ ∃ l k, viewD H v = some (.list l) ∧ i = .d (.int k) ∧ itemAt l k fun y => Q (.d y) H := by
  replace h := h.go
  unfold idxV0 at h
  cases e : dictOf? H v with
  | some l =>
    rw [e] at h
    obtain ⟨k, ei, h⟩ := keyV_some h
    cases e1 : dget l k with
    | none => rw [e1] at h; exact False.elim h
    | some y => rw [e1] at h; exact .inl ⟨l, k, y, rfl, ei, e1, h⟩
  | none =>
    rw [e] at h
    cases e1 : viewD H v with
    | none => rw [e1] at h; exact False.elim h
    | some x =>
      rw [e1] at h
      cases x with
      | tuple l => exact let ⟨k, ei, h⟩ := intV_some h; .inr (.inl ⟨l, k, rfl, ei, h⟩)
      | list l => exact let ⟨k, ei, h⟩ := intV_some h; .inr (.inr ⟨l, k, rfl, ei, h⟩)
      | _ => exact False.elim h
theorem itemAt_some {l : List PyData} {k : Int} {Q : PyData → Prop} (h : itemAt l k Q) : ∃ (j : Nat) (y : PyData), l[j]? = some y ∧ Q y ∧ ((k = (j : Int) ∧ j < 1000000) ∨ (k = -1 ∧ j = l.length - 1)) := by
  cases k with
  | ofNat n =>
    have h : (match l[n]? with | some y => guard (Nat.ble (n + 1) 1000000) (Q y) | none => False) := h
    cases e : l[n]? with
    | none => rw [e] at h; exact h.elim
    | some y => rw [e] at h; exact ⟨n, y, e, (gd_elim h).2, .inl ⟨rfl, (gd_elim h).1⟩⟩
  | negSucc n =>
    cases n with
    | succ m => exact h.elim
    | zero =>
      have h : (match l.getLast? with | some y => Q y | none => False) := h
      cases e : l.getLast? with
      | none => rw [e] at h; exact h.elim
      | some y => rw [e] at h; exact ⟨l.length - 1, y, by rw [← List.getLast?_eq_getElem?]; exact e, h, .inr ⟨rfl, rfl⟩⟩

theorem seqIndex_of {l : List PyData} {k : Int} {j : Nat} {y : PyData} (e : l[j]? = some y) (h : (k = (j : Int) ∧ j < 1000000) ∨ (k = -1 ∧ j = l.length - 1)) : seqIndex? k l.length = some j ∧ -(2 ^ 63) ≤ k ∧ k < 2 ^ 63 := by
  have hj := (List.getElem?_eq_some_iff.mp e).1
  rcases h with ⟨rfl, h⟩ | ⟨rfl, rfl⟩
  · refine ⟨?_, by lia, by lia⟩
    unfold seqIndex?
    simp only [show ¬ ((j : Int) < 0) by lia, if_false]
    rw [if_pos (by simp only [Bool.and_eq_true, decide_eq_true_eq]; lia)]
    simp
  · refine ⟨?_, by lia, by lia⟩
    unfold seqIndex?
    simp only [show ((-1 : Int) < 0) by lia, if_true]
    rw [if_pos (by simp only [Bool.and_eq_true, decide_eq_true_eq]; lia)]
    congr 1
    lia

section
variable {W : Wd} {sc : Scope} {nm : List Str} {env : Env} {Φ : Addr → Prop} {s : Shared} {μ : Mu} {ρ : Rho} {H : List O} {A : Around} {E : Value → Shared → Prop}

theorem idxV_ok {value slice : Expr} {v1 v2 : V} {a b : Value} {Q : V → List O → Prop} {P : Value → Shared → Prop} (S : St W env nm Φ s μ ρ H) (hv1 : VOk s.heap (Out Φ env) μ v1 a) (hv2 : VOk s.heap (Out Φ env) μ v2 b)
    (hs : ∀ o i, subscripted slice false o i = operate [o, i] (getItem o i)) (hq : idxV v1 v2 H Q) (fin : ∀ y cv t, VOk s.heap (Out Φ env) μ (.d y) cv → Q (.d y) H → P cv { s with toks := t }) :
    wpAny (model W.prog W.w) A (subscriptTail value slice a b) P E s := by
  replace hq := idxV_cases hq
  rcases hq with ⟨l, k, y, e, rfl, h1, hq⟩ | ⟨l, k, e1, rfl, hq⟩ | ⟨l, k, e1, rfl, hq⟩
  · obtain ⟨i, p, rfl, hi, hp, rfl, hpp, kvs, hd, hr⟩ := dict_ok S.hok hv1 e
    obtain ⟨as, r, _⟩ := hv2
    obtain ⟨tk, rfl⟩ := reads_str r
    rcases dget_ok k hr with ⟨h1', _⟩ | ⟨y'', cv, h1', h2, h3⟩
    · rw [h1] at h1'; cases h1'
    · rw [h1] at h1'
      exact tail_any hd.typeIs slot_dict_getitem.lookup (wpAny_getItem_of (k := k) (knd := PySem.strKind W.prog W.w) (by simp [PySem.strKind, Value.isStrOf]) hd.mapOf h2 (fin _ _ _ (vok_val (Option.some.inj h1' ▸ h3)) hq)) (hs _ _)
  · obtain ⟨_, r, _⟩ := hv2
    obtain ⟨tk, rfl⟩ := reads_int r
    obtain ⟨j, y', e, hq, hk⟩ := itemAt_some hq
    obtain ⟨a, vs, as, rfl, ht, hr, ho⟩ := view_tup hv1 e1
    obtain ⟨cv, bs, ev, rv, hb⟩ := readsAll_get hr e
    obtain ⟨i1, i2, i3⟩ := seqIndex_of e hk
    exact item_tupleT ht i2 i3 (by rw [readsAll_len hr]; exact i1) ev (fin y' cv s.toks ⟨bs, rv, fun b hb' => ho b (hb b hb')⟩ hq) (hs _ _)
  · obtain ⟨_, r, _⟩ := hv2
    obtain ⟨tk, rfl⟩ := reads_int r
    obtain ⟨j, y', e, hq, hk⟩ := itemAt_some hq
    obtain ⟨a, vs, as, rfl, ht, hr, ho⟩ := view_list S.hok hv1 e1
    obtain ⟨cv, bs, ev, rv, hb⟩ := readsAll_get hr e
    have hj := (List.getElem?_eq_some_iff.mp e).1
    have hl := readsAll_len hr
    have fin := fin y' cv s.toks ⟨bs, rv, fun b hb' => ho b (hb b hb')⟩ hq
    rcases hk with ⟨rfl, hk⟩ | ⟨rfl, rfl⟩
    · exact tail_any ht.typeIs slot_list_getitem.lookup (wpAny_getItem_list ht (by lia) (by lia) (by simpa using ev) fin) (hs _ _)
    · refine tail_any ht.typeIs slot_list_getitem.lookup (wpAny_getItem_list_neg ht (by lia) (by rw [List.size_toArray]; lia) (by lia) ?_ fin) (hs _ _)
      rw [List.size_toArray, List.getElem?_toArray, ← ev]
      congr 1
      lia

noncomputable def t_snd_sub (x : Tr) (y : Tr) : Tr := fun d ρ H Q => x d ρ H fun v1 H => y d ρ H fun v2 H => idxV v1 v2 H Q
theorem snd_sub {value slice : Expr} {pos : Pos} {x y : Tr} (h1 : SndE W sc nm value x) (h2 : SndE W sc nm slice y)
    (hs : ∀ o i, subscripted slice false o i = operate [o, i] (getItem o i) := by intro _ _; rfl) :
    SndE W sc nm (.Subscript value slice pos) (t_snd_sub x y) :=
  .mk fun Q d A E s env Φ μ ρ H hE hA S hq => by
    refine Subscript_ (wpAny_mono (h1.go _ d A E s env Φ μ ρ H hE hA S hq) (fun a s₁ p => ?_) fun _ _ x => x)
    refine PostE.use p fun v1 H₁ μ₁ S₁ x₁ hv1 hq => ?_
    clear p
    refine wpAny_mono (h2.go _ d A E s₁ env Φ μ₁ ρ H₁ hE hA S₁ hq) (fun b s₂ p => ?_) fun _ _ x => x
    refine PostE.use p fun v2 H₂ μ₂ S₂ x₂ hv2 hq => ?_
    clear p
    exact idxV_ok S₂ (hv1.mv (x₂.mv S₁.hok)) hv2 hs hq fun y cv t hv hq => ⟨.d y, H₂, μ₂, S₂.toks t, x₁.trans x₂, hv, hq⟩
end

/-! ## M9 -/
theorem filterMap_zip (ps : List Str) : ∀ (cvs : List Value), ps.Nodup → cvs.length = ps.length → ∀ full : List (Str × Value), (∀ p ∈ ps.zip cvs, full.lookup p.1 = some p.2) → ps.filterMap (fun n => (full.lookup n).map (n, ·)) = ps.zip cvs := by
  induction ps with
  | nil => exact fun _ _ _ _ _ => rfl
  | cons p ps ih =>
    intro cvs hn hl full hf
    cases cvs with
    | nil => cases hl
    | cons v cvs =>
      have h1 : full.lookup p = some v := hf (p, v) (.head _)
      rw [List.filterMap_cons, h1]
      exact congrArg ((p, v) :: ·) (ih cvs (List.nodup_cons.mp hn).2 (Nat.succ.inj hl) full fun q hq => hf q (.tail _ hq))

theorem bind_pos {fd : FuncData} {as : List Arg} {cvs : List Value} (hp : fd.params = ⟨[], as, none, [], [], none, []⟩) (hd : fd.defaults = .none) (hn : (as.map (·.arg)).Nodup) (hl : cvs.length = (as.map (·.arg)).length) :
    bindArgs fd ⟨cvs, []⟩ = pure ((as.map (·.arg)).zip cvs) := by
  have key : ∀ q ∈ (as.map (·.arg)).zip cvs, ((as.map (·.arg)).zip cvs).lookup q.1 = some q.2 := fun q hq =>
    lookup_of_mem (by rw [List.map_fst_zip (by lia)]; exact hn) hq
  have hmiss : ((as.map (·.arg)).filter fun n => (((as.map (·.arg)).zip cvs).lookup n).isNone) = [] := by
    rw [List.filter_eq_nil_iff]
    intro n hm
    obtain ⟨i, hi⟩ := List.mem_iff_getElem?.mp hm
    have hi' := (List.getElem?_eq_some_iff.mp hi).1
    have : (n, cvs[i]'(by lia)) ∈ (as.map (·.arg)).zip cvs := List.mem_of_getElem? (i := i) (by rw [List.getElem?_zip_eq_some]; exact ⟨hi, by simp⟩)
    rw [key _ this]; simp
  obtain ⟨_, _, pr, _, _, _, _, df, _, _, _, _, _, _⟩ := fd
  obtain rfl : pr = _ := hp
  obtain rfl : df = _ := hd
  have hd0 : ∀ k, List.drop k ([] : List Value) = [] := fun _ => List.drop_nil
  refine Eq.trans (if_neg (c := (decide (cvs.length > (as.map (·.arg)).length) && true) = true) (by rw [hl, decide_eq_false (Nat.lt_irrefl _)]; decide)) (Eq.trans (if_neg (c := (!(((as.map (·.arg)).take ((as.map (·.arg)).length - (List.drop (0 - (as.map (·.arg)).length) ([] : List Value)).length)).filter fun n => (((as.map (·.arg)).zip cvs).lookup n).isNone).isEmpty) = true) ?_) ?_)
  · rw [hd0, List.length_nil, Nat.sub_zero, List.take_length, hmiss]; decide
  · show forIn (((as.map (·.arg)).drop ((as.map (·.arg)).length - (List.drop (0 - (as.map (·.arg)).length) ([] : List Value)).length)).zip (List.drop (0 - (as.map (·.arg)).length) ([] : List Value))) _ _ >>= _ = _
    rw [hd0, List.zip_nil_right]
    refine Eq.trans (b := (pure ((as.map Arg.arg ++ []).filterMap fun n => (((as.map Arg.arg).zip cvs).lookup n).map (n, ·)) : Sem (List (Str × Value)))) rfl ?_
    rw [List.append_nil, filterMap_zip (as.map Arg.arg) cvs hn hl _ key]

/-! ### what the written top says -/
theorem mg_of {W : Wd} {K : Frag} (hK : K.In W.base) {x : Str} {r : Option Value} (h : nsIn K mainGlobals x = some r) : W.mg x = r := by
  obtain ⟨o, es, ep, ho, hd, hs, hm⟩ := W.hg
  rw [← hm x]
  unfold nsFind findBy
  rw [← Array.find?_toList]
  unfold nsIn at h
  cases hl : K.lookup mainGlobals with
  | none => rw [hl] at h; cases h
  | some q =>
    rw [hl] at h
    obtain rfl := Option.some.inj (ho.symm.trans (hK _ _ hl))
    obtain ⟨cls, dict, da, sl⟩ := o
    obtain rfl : da = .dict es ep := hd
    have h : (match es.toList.find? (·.key.isStr x) with | some e => some (some e.val) | none => if es.toList.any (·.refKey) then none else some none) = some r := h
    cases he : es.toList.find? (·.key.isStr x) with
    | some e => rw [he] at h; exact Option.some.inj h
    | none =>
      rw [he] at h
      by_cases hk : es.toList.any (·.refKey) = true
      · have h : (if es.toList.any (·.refKey) then none else some none) = some r := h
        rw [if_pos hk] at h; cases h
      · have h : (if es.toList.any (·.refKey) then none else some none) = some r := h
        rw [if_neg hk] at h; exact Option.some.inj h

/-! ## M10 -/
section
variable {W : Wd} {h h' : Heap} {Φ Φ' : Addr → Prop} {μ μ' : Mu} {H : List O}
/-! ### less is foreign -/
theorem VOk.sub (hΦ : ∀ a, Φ' a → Φ a) {v : V} {cv : Value} (hv : VOk h Φ μ v cv) : VOk h Φ' μ v cv := by
  cases v with
  | ref i => exact hv
  | d x => obtain ⟨as, r, ho⟩ := hv; exact ⟨as, r, fun a ha => ⟨fun hp => (ho a ha).1 (hΦ a hp), (ho a ha).2⟩⟩
theorem OOk.sub (hΦ : ∀ a, Φ' a → Φ a) {p : Addr × Addr} {o : O} (ho : OOk W h Φ μ p o) : OOk W h Φ' μ p o := by
  cases o with
  | dict l => exact ho
  | list l =>
    obtain ⟨e, vs, as, hl, hr, hoff⟩ := ho
    exact ⟨e, vs, as, hl, hr, fun a ha => ⟨fun hp => (hoff a ha).1 (hΦ a hp), (hoff a ha).2⟩⟩
  | inst c fs =>
    obtain ⟨e, hi, mm, hn, h4⟩ := ho
    exact ⟨e, hi, mm, hn, fun x v hx => let ⟨cv, a, b⟩ := h4 x v hx; ⟨cv, a, b.sub hΦ⟩⟩
theorem HOk.sub (K : HOk W h Φ μ H) (hΦ : ∀ a, Φ' a → Φ a) : HOk W h Φ' μ H :=
  ⟨K.len, K.sep, fun a ha => ⟨(K.above a ha).1, fun hp => (K.above a ha).2 (hΦ a hp)⟩, fun i o e => let ⟨p, hp, ho⟩ := K.obj i o e; ⟨p, hp, ho.sub hΦ⟩⟩
theorem Loc.map {env : Env} {nm : List Str} {ρ : Rho} (L : Loc h Φ μ env nm ρ) (f : ∀ v cv, VOk h Φ μ v cv → VOk h Φ' μ v cv) : Loc h Φ' μ env nm ρ :=
  ⟨L.nodup, L.len, let ⟨m, hm, hv⟩ := L.ns; ⟨m, hm, fun i x v a b c => let ⟨cv, d, e⟩ := hv i x v a b c; ⟨cv, d, f v cv e⟩⟩,
    fun i x v a b c => let ⟨ce, cv, d, e, g⟩ := L.cell i x v a b c; ⟨ce, cv, d, e, f v cv g⟩, L.cells, L.apart⟩
end

section
variable {W : Wd} {sc : Scope} {nm : List Str} {env : Env} {Φ Φ' : Addr → Prop} {s s' : Shared} {μ μ' : Mu} {ρ : Rho} {H H' : List O} {A : Around} {E : Value → Shared → Prop}

theorem out_sub (hΦ : ∀ a, Φ' a → Φ a) : ∀ a, Out Φ' env a → Out Φ env a := fun a ha => ha.imp (hΦ a) id
theorem St.sub (S : St W env nm Φ s μ ρ H) (hΦ : ∀ a, Φ' a → Φ a) : St W env nm Φ' s μ ρ H :=
  ⟨S.inv, fun a ha => S.below a (out_sub hΦ a ha), S.hok.sub (out_sub hΦ), S.loc.map fun _ _ hv => hv.sub (out_sub hΦ), S.base, fun a ha hp => S.apart a ha (hΦ a hp), S.cellsAll⟩
/-- a new thing is foreign -/
theorem St.more (S : St W env nm Φ s μ ρ H) {I : Addr} (hI : s.heap.objs.size = I) {h' : Heap} {t : Nat} (hk : ∀ b o, s.heap.get? b = some o → h'.get? b = some o) (hs : s.heap.objs.size < h'.objs.size) :
    St W env nm (fun a => Φ a ∨ a = I) { s with heap := h', toks := t } μ ρ H ∧ (∀ v cv, VOk s.heap (Out Φ env) μ v cv → VOk h' (Out (fun a => Φ a ∨ a = I) env) μ v cv) := by
  have hΦ : ∀ a, Out (fun a => Φ a ∨ a = I) env a → Out Φ env a ∨ s.heap.objs.size ≤ a := fun a ha => by
    rcases ha with (ha | ha) | ha
    · exact .inl (.inl ha)
    · exact .inr (Nat.le_of_eq (hI.trans ha.symm))
    · exact .inl (.inr ha)
  have K := S.hok.more hΦ
  have mv := (Ext.grow hk (Nat.le_of_lt hs)).mv K
  refine ⟨⟨⟨fun b o e => hk b o (S.inv.keep b o e), S.inv.gens, S.inv.os, Nat.le_trans S.inv.size (Nat.le_of_lt hs)⟩, fun a ha => ?_, K.grow hk (Nat.le_of_lt hs), (S.loc.map fun _ _ hv => hv.more hΦ).mv mv fun a _ o e => hk a o e, S.base, ?_, S.cellsAll⟩, fun v cv hv => (hv.more hΦ).mv mv⟩
  · rcases ha with (ha | ha) | ha
    · exact Nat.lt_trans (S.below a (.inl ha)) hs
    · show a < h'.objs.size; rw [ha, ← hI]; exact hs
    · exact Nat.lt_trans (S.below a (.inr ha)) hs
  · rintro a ha (hp | hp)
    · exact S.apart a ha hp
    · have := S.below a (.inr ha); rw [hp, ← hI] at this; exact Nat.lt_irrefl _ this

/-- a step that turns one foreign thing -/
theorem St.turn (S : St W env nm Φ s μ ρ H) {I : Addr} (hI : Φ I) (hb : W.base.objs.size ≤ I) (hnt : ∀ o, s.heap.get? I = some o → ¬ TupObj o) {h' : Heap} {t : Nat} (hk : ∀ b o, b ∉ [I] → s.heap.get? b = some o → h'.get? b = some o) (hs : s.heap.objs.size ≤ h'.objs.size) :
    St W env nm Φ { s with heap := h', toks := t } μ ρ H ∧ Mv s.heap (Out Φ env) μ h' μ := by
  have hne : ∀ b, b ≠ I → b ∉ [I] := fun b hb hm => hb (List.mem_singleton.mp hm)
  have mv : Mv s.heap (Out Φ env) μ h' μ := ⟨⟨[], by simp, fun _ ha => absurd ha FP.nil⟩, hs, fun b o e ht => hk b o (hne b fun q => hnt o (q ▸ e) ht) e, fun b o e h1 _ => hk b o (hne b fun q => h1 (.inl (q ▸ hI))) e⟩
  have offI : ¬ FP μ I := fun hf => (S.hok.above I hf).2 (.inl hI)
  refine ⟨⟨⟨fun b o e => hk b o (hne b fun q => Nat.lt_irrefl _ (Nat.lt_of_lt_of_le (Heap.lt_size e) (q ▸ hb))) (S.inv.keep b o e), S.inv.gens, S.inv.os, Nat.le_trans S.inv.size hs⟩, fun a ha => Nat.lt_of_lt_of_le (S.below a ha) hs,
    ⟨S.hok.len, S.hok.sep, S.hok.above, fun i o e => let ⟨p, hp, ho⟩ := S.hok.obj i o e; ⟨p, hp, ho.mv mv (fun o e => hk _ o (hne _ fun q => offI (q ▸ (FP.at hp).1)) e) (fun o e => hk _ o (hne _ fun q => offI (q ▸ (FP.at hp).2)) e)⟩⟩,
    S.loc.mv mv fun a ha o e => hk a o (hne a fun q => S.apart a ha (q ▸ hI)) e, S.base, S.apart, S.cellsAll⟩, mv⟩

/-! ### things that a run may turn, by a set of places -/
structure ExtF (F : Addr → Prop) (h : Heap) (μ : Mu) (h' : Heap) (μ' : Mu) : Prop where
  new : ∃ ν, μ' = μ ++ ν ∧ ∀ a, FP ν a → h.objs.size ≤ a
  size : h.objs.size ≤ h'.objs.size
  keep : ∀ b o, h.get? b = some o → ¬ FP μ b → ¬ F b → h'.get? b = some o
theorem ExtF.refl {F : Addr → Prop} {h : Heap} {μ : Mu} : ExtF F h μ h μ := ⟨⟨[], by simp, fun _ ha => absurd ha FP.nil⟩, Nat.le_refl _, fun _ _ e _ _ => e⟩
theorem ExtF.trans {F : Addr → Prop} {h h₁ h₂ : Heap} {μ μ₁ μ₂ : Mu} (x : ExtF F h μ h₁ μ₁) (y : ExtF F h₁ μ₁ h₂ μ₂) : ExtF F h μ h₂ μ₂ := by
  obtain ⟨ν₁, rfl, n₁⟩ := x.new
  obtain ⟨ν₂, rfl, n₂⟩ := y.new
  refine ⟨⟨ν₁ ++ ν₂, by rw [List.append_assoc], fun a ha => (FP.app.mp ha).elim (n₁ a) fun h => Nat.le_trans x.size (n₂ a h)⟩, Nat.le_trans x.size y.size, fun b o e hf hg => ?_⟩
  refine y.keep b o (x.keep b o e hf hg) (fun hf' => (FP.app.mp hf').elim hf fun hn => ?_) hg
  exact Nat.lt_irrefl _ (Nat.lt_of_lt_of_le (Heap.lt_size e) (n₁ b hn))
theorem ExtS.f {F : Addr → Prop} {h h' : Heap} (x : ExtS env h μ h' μ') (hF : ∀ a, Foot env a → F a) : ExtF F h μ h' μ' := ⟨x.new, x.size, fun b o e hf hg => x.keep b o e hf fun q => hg (hF b q)⟩
theorem Ext.f {F : Addr → Prop} {h h' : Heap} (x : Ext h μ h' μ') : ExtF F h μ h' μ' := ⟨x.new, x.size, fun b o e hf _ => x.keep b o e hf⟩
theorem ExtF.toS {F : Addr → Prop} {h h₁ h₂ : Heap} {μ₁ μ₂ : Mu} (x : Ext h μ h₁ μ₁) (y : ExtF F h₁ μ₁ h₂ μ₂) (hF : ∀ a, F a → Foot env a ∨ h.objs.size ≤ a) : ExtS env h μ h₂ μ₂ := by
  obtain ⟨ν₁, rfl, n₁⟩ := x.new
  obtain ⟨ν₂, rfl, n₂⟩ := y.new
  refine ⟨⟨ν₁ ++ ν₂, by rw [List.append_assoc], fun a ha => (FP.app.mp ha).elim (n₁ a) fun h => Nat.le_trans x.size (n₂ a h)⟩, Nat.le_trans x.size y.size, fun b o e hf hg => ?_⟩
  refine y.keep b o (x.keep b o e hf) (fun hf' => (FP.app.mp hf').elim hf fun hn => ?_) fun hF' => (hF b hF').elim hg fun hl => ?_
  · exact Nat.lt_irrefl _ (Nat.lt_of_lt_of_le (Heap.lt_size e) (n₁ b hn))
  · exact Nat.lt_irrefl _ (Nat.lt_of_lt_of_le (Heap.lt_size e) hl)
theorem ExtF.toE {F : Addr → Prop} {h h₁ h₂ : Heap} {μ₁ μ₂ : Mu} (x : Ext h μ h₁ μ₁) (y : ExtF F h₁ μ₁ h₂ μ₂) (hF : ∀ a, F a → h.objs.size ≤ a) : Ext h μ h₂ μ₂ := by
  obtain ⟨ν₁, rfl, n₁⟩ := x.new
  obtain ⟨ν₂, rfl, n₂⟩ := y.new
  refine ⟨⟨ν₁ ++ ν₂, by rw [List.append_assoc], fun a ha => (FP.app.mp ha).elim (n₁ a) fun h => Nat.le_trans x.size (n₂ a h)⟩, Nat.le_trans x.size y.size, fun b o e hf => ?_⟩
  refine y.keep b o (x.keep b o e hf) (fun hf' => (FP.app.mp hf').elim hf fun hn => ?_) fun hF' => ?_
  · exact Nat.lt_irrefl _ (Nat.lt_of_lt_of_le (Heap.lt_size e) (n₁ b hn))
  · exact Nat.lt_irrefl _ (Nat.lt_of_lt_of_le (Heap.lt_size e) (hF b hF'))
theorem ExtF.mv {F : Addr → Prop} {h h' : Heap} (x : ExtF F h μ h' μ') (h1 : ∀ b, FP μ b → ∀ o, h.get? b = some o → ¬ TupObj o) (h2 : ∀ b, F b → Φ b ∧ ∀ o, h.get? b = some o → ¬ TupObj o) : Mv h Φ μ h' μ' :=
  ⟨x.new, x.size, fun b o e ht => x.keep b o e (fun hf => h1 b hf o e ht) (fun hf => (h2 b hf).2 o e ht), fun b o e hn hf => x.keep b o e hf fun q => hn (h2 b q).1⟩

/-! ### what a loop runs over -/
noncomputable abbrev TrI := Nat → Rho → List O → (List PyData → List O → Prop) → Prop

structure ItAt (W : Wd) (env : Env) (nm : List Str) (Φ : Addr → Prop) (s : Shared) (μ : Mu) (ρ : Rho) (A : Around) (it : Value) (s' : Shared) (items : List PyData) (H' : List O) (μ' : Mu) (I : Addr) (fp : List Addr) (P : Nat → Value → Prop) (T : Nat → Heap → Prop) : Prop where
  it : it = .ref I
  new : s.heap.objs.size ≤ I
  st : St W env nm (fun a => Φ a ∨ a = I) s' μ' ρ H'
  ext : Ext s.heap μ s'.heap μ'
  walks : Walks W.prog W.w A I fp [I] items.length P T
  at0 : T 0 s'.heap
  notTup : ∀ j h o, T j h → h.get? I = some o → ¬ TupObj o
  live : ∀ j h, T j h → I < h.objs.size
  fp : ∀ b ∈ fp, b ≠ I → ¬ FP μ' b ∧ ¬ Foot env b ∧ ∃ o, s'.heap.get? b = some o
  item : ∀ i v, P i v → ∃ y, items[i]? = some y ∧ VOk s'.heap (Out (fun a => Φ a ∨ a = I) env) μ' (.d y) v

noncomputable def PostI (W : Wd) (env : Env) (nm : List Str) (Φ : Addr → Prop) (s : Shared) (μ : Mu) (ρ : Rho) (A : Around) (Q : List PyData → List O → Prop) (it : Value) (s' : Shared) : Prop :=
  ∃ items H' μ' I fp P T, ItAt W env nm Φ s μ ρ A it s' items H' μ' I fp P T ∧ Q items H'

structure SndI (W : Wd) (sc : Scope) (nm : List Str) (e : Expr) (x : TrI) : Prop where
  mk ::
  go : ∀ Q (d : Nat) (A : Around) (E : Value → Shared → Prop) (s : Shared) (env : Env) (Φ : Addr → Prop) (μ : Mu) (ρ : Rho) (H : List O),
    EnvOk sc env → OkA d A → St W env nm Φ s μ ρ H → x d ρ H Q → wpAny (model W.prog W.w) A (eval e env) (fun xv s₁ => wpAny (model W.prog W.w) A (pyIter xv) (PostI W env nm Φ s μ ρ A Q) E s₁) E s

noncomputable def itemsV (v : V) (Q : List PyData → Prop) : Prop := match v with
  | .d x => (match x with | .tuple l => Q l | .list l => Q l | _ => False)
  | .ref _ => False
theorem itemsV_cases {v : V} {Q : List PyData → Prop} (h : itemsV v Q) : (∃ l, v = .d (.tuple l) ∧ Q l) ∨ ∃ l, v = .d (.list l) ∧ Q l := by
  cases v with
  | d x => cases x <;> first | exact False.elim h | exact .inl ⟨_, rfl, h⟩ | exact .inr ⟨_, rfl, h⟩
  | ref i => exact False.elim h

theorem foot_notTup (S : St W env nm Φ s μ ρ H) {b : Addr} (hf : Foot env b) : ∀ o, s.heap.get? b = some o → ¬ TupObj o := by
  rcases hf with rfl | ⟨x, hx⟩
  · obtain ⟨m, hm, _⟩ := S.loc.ns
    obtain ⟨o', es, ep, ho', hd', _⟩ := hm
    rintro o ho ⟨_, vs, n, hd⟩
    rw [ho] at ho'; cases ho'
    rw [hd] at hd'; cases hd'
  · obtain ⟨⟨ov, o', ho', hd'⟩, _⟩ := S.loc.cells x b hx
    rintro o ho ⟨_, vs, n, hd⟩
    rw [ho] at ho'; cases ho'
    rw [hd] at hd'; cases hd'

theorem PostI.after {Q : List PyData → List O → Prop} {s₁ : Shared} {μ₁ : Mu} {cv : Value} (x : Ext s.heap μ s₁.heap μ₁) (p : PostI W env nm Φ s₁ μ₁ ρ A Q cv s') : PostI W env nm Φ s μ ρ A Q cv s' :=
  let ⟨items, H', μ', I, fp, P, T, w, hq⟩ := p; ⟨items, H', μ', I, fp, P, T, ⟨w.it, Nat.le_trans x.size w.new, w.st, x.trans w.ext, w.walks, w.at0, w.notTup, w.live, w.fp, w.item⟩, hq⟩

theorem iter_ok {v : V} {cv : Value} {Q : List PyData → List O → Prop} (hh : A.handled = none) (S : St W env nm Φ s μ ρ H) (hv : VOk s.heap (Out Φ env) μ v cv) (hq : itemsV v fun l => Q l H) :
    wpAny (model W.prog W.w) A (pyIter cv) (PostI W env nm Φ s μ ρ A Q) E s := by
  replace hq := itemsV_cases hq
  rcases hq with ⟨l, rfl, hq⟩ | ⟨l, rfl, hq⟩
  · obtain ⟨as, r, ho⟩ := hv
    obtain ⟨a, vs, rfl, ht, hr⟩ := tup_of_reads r
    obtain ⟨oa, hoa, hca, na, hda⟩ := id ht
    have hlt : a ≠ s.heap.objs.size := Nat.ne_of_lt (Heap.lt_size hoa)
    refine wpAny_pyIter_tuple ht ?_
    have g : ∀ (x : Obj) b o, s.heap.get? b = some o → (s.heap.push x).get? b = some o := fun x b o e => Heap.get?_push_of_some _ e
    obtain ⟨S', up⟩ := S.more rfl (t := s.toks) (g { cls := .type "tuple_iterator", data := .fields #[.ref a, .int 0 0] }) (by rw [Heap.size_push]; exact Nat.lt_succ_self _)
    refine ⟨l, H, μ, s.heap.objs.size, [s.heap.objs.size, a], fun i v => vs.toArray[i]? = some v, fun i h => h.IsTupleIter s.heap.objs.size a i ∧ h.IsTuple a vs.toArray, ⟨rfl, Nat.le_refl _, S', Ext.grow (g _) (by rw [Heap.size_push]; exact Nat.le_succ _), ?_, ?_, ?_, ?_, ?_, ?_⟩, hq⟩
    · have := Walks.tuple (prog := W.prog) (w := W.w) (A := A) hh s.heap.objs.size a hlt vs.toArray
      have e : vs.toArray.size = l.length := (List.size_toArray ..).trans (readsAll_len hr)
      rw [e] at this; exact this
    · exact ⟨⟨_, Heap.get?_push_size _ rfl, rfl, rfl⟩, ht.push _⟩
    · rintro j h o ⟨⟨o', ho', hc, _⟩, _⟩ e ht
      rw [e] at ho'; cases ho'
      exact absurd (Value.type.inj (hc.symm.trans ht.1)) (by decide)
    · rintro j h ⟨⟨o', ho', _⟩, _⟩
      exact Heap.lt_size ho'
    · intro b hb hne
      have : b = a := by simpa [hne] using hb
      subst this
      exact ⟨fun hf => S.hok.notTup b hf oa hoa ⟨hca, _, _, hda⟩, fun hf => foot_notTup S hf oa hoa ⟨hca, _, _, hda⟩, oa, g _ _ _ hoa⟩
    · intro i v hi
      have hi' : vs[i]? = some v := by simpa using hi
      have hlen := readsAll_len hr
      have hil := (List.getElem?_eq_some_iff.mp hi').1
      obtain ⟨v', bs, e1, r1, hb⟩ := readsAll_get hr (i := i) (d := l[i]'(by lia)) (by simp)
      rw [hi'] at e1; cases e1
      exact ⟨l[i]'(by lia), by simp, up _ _ ⟨bs, r1, fun b hb' => ho b (hb b hb')⟩⟩
  · obtain ⟨as, r, ho⟩ := hv
    obtain ⟨a, vs, bs', rfl, hb0, ht, hr⟩ := reads_list_items r
    have hoffa : ∀ b, b = a ∨ b ∈ bs' → ¬ Out Φ env b ∧ ¬ FP μ b := fun b hb => ho b (by rw [hb0]; exact List.mem_cons.mpr hb)
    obtain ⟨oa, hoa, hca, na, hda⟩ := id ht
    have hlt : a ≠ s.heap.objs.size := Nat.ne_of_lt (Heap.lt_size hoa)
    refine wpAny_pyIter_list ht ?_
    have g : ∀ (x : Obj) b o, s.heap.get? b = some o → (s.heap.push x).get? b = some o := fun x b o e => Heap.get?_push_of_some _ e
    obtain ⟨S', up⟩ := S.more rfl (t := s.toks) (g { cls := .type "list_iterator", data := .fields #[.ref a, .int 0 0] }) (by rw [Heap.size_push]; exact Nat.lt_succ_self _)
    refine ⟨l, H, μ, s.heap.objs.size, [s.heap.objs.size, a], fun i v => vs.toArray[i]? = some v, fun i h => h.IsListIter s.heap.objs.size a i ∧ h.IsList a vs.toArray, ⟨rfl, Nat.le_refl _, S', Ext.grow (g _) (by rw [Heap.size_push]; exact Nat.le_succ _), ?_, ?_, ?_, ?_, ?_, ?_⟩, hq⟩
    · have := Walks.list (prog := W.prog) (w := W.w) (A := A) hh s.heap.objs.size a hlt vs.toArray
      have e : vs.toArray.size = l.length := (List.size_toArray ..).trans (readsAll_len hr)
      rw [e] at this; exact this
    · exact ⟨⟨_, Heap.get?_push_size _ rfl, rfl, rfl⟩, ht.push _⟩
    · rintro j h o ⟨⟨o', ho', hc, _⟩, _⟩ e ht
      rw [e] at ho'; cases ho'
      exact absurd (Value.type.inj (hc.symm.trans ht.1)) (by decide)
    · rintro j h ⟨⟨o', ho', _⟩, _⟩
      exact Heap.lt_size ho'
    · intro b hb hne
      have : b = a := by simpa [hne] using hb
      subst this
      exact ⟨(hoffa b (.inl rfl)).2, fun hf => (hoffa b (.inl rfl)).1 (.inr hf), oa, g _ _ _ hoa⟩
    · intro i v hi
      have hi' : vs[i]? = some v := by simpa using hi
      have hlen := readsAll_len hr
      have hil := (List.getElem?_eq_some_iff.mp hi').1
      obtain ⟨v', bs, e1, r1, hb⟩ := readsAll_get hr (i := i) (d := l[i]'(by lia)) (by simp)
      rw [hi'] at e1; cases e1
      exact ⟨l[i]'(by lia), by simp, up _ _ ⟨bs, r1, fun b hb' => hoffa b (.inr (hb b hb'))⟩⟩

noncomputable def t_sni_val (x : Tr) : TrI := fun d ρ H Q => x d ρ H fun v H => itemsV v fun l => Q l H
theorem sni_val {e : Expr} {x : Tr} (h : SndE W sc nm e x) : SndI W sc nm e (t_sni_val x) :=
  .mk fun Q d A E s env Φ μ ρ H hE hA S hq => by
    refine wpAny_mono (h.go _ d A E s env Φ μ ρ H hE hA S hq) (fun cv s₁ p => ?_) fun _ _ x => x
    refine PostE.use p fun v H₁ μ₁ S₁ x₁ hv hq => ?_
    clear p
    exact wpAny_mono (iter_ok hA.handled S₁ hv hq) (fun _ _ p => p.after x₁) fun _ _ x => x

/-! ### for -/
noncomputable def forL (d : Nat) (x : TrS) (i : Nat) : List PyData → Rho → List O → (Fl → Rho → List O → Prop) → Prop
  | [], ρ, H, Q => Q .next ρ H
  | y :: r, ρ, H, Q => x d (ρ.set i (some (.d y))) H fun fl ρ H => match fl with
    | .next => forL d x i r ρ H Q
    | .cont => forL d x i r ρ H Q
    | .brk => Q .next ρ H
    | fl => Q fl ρ H

theorem FlOk.sub {f : Flow} {fl : Fl} {h : Heap} (hf : FlOk h Φ μ fl f) (hΦ : ∀ a, Φ' a → Φ a) : FlOk h Φ' μ fl f := by
  have all : ∀ {vs : List V} {cvs : List Value}, VsOk h Φ μ vs cvs → VsOk h Φ' μ vs cvs := fun r => vsOk_ind (fun vs cvs => VsOk h Φ' μ vs cvs) trivial (fun a _ b => ⟨a.sub hΦ, b⟩) r
  cases hf with
  | next => exact .next
  | brk => exact .brk
  | cont => exact .cont
  | ret hv => exact .ret (hv.sub hΦ)
  | rett h1 h2 => exact .rett h1 (all h2)

noncomputable def t_sns_for (i : Nat) (u : TrI) (t : TrS) : TrS := fun d ρ H Q => u d ρ H fun items H => forL d t i items ρ H Q
theorem sns_for {x : Str} {px pos : Pos} {iter : Expr} {body : List Stmt} {i : Nat} {u : TrI} {t : TrS} (hi : slotSt sc nm x i = true) (h1 : SndI W sc nm iter u) (h2 : SndB W sc nm body t) (hs : ∀ env x, foldedSetIterable iter env x = pure x := by intro _ _; rfl) :
    SndS W sc nm (.For (.Name x px) iter body [] pos) (t_sns_for i u t) :=
  .mk fun Q d A E s env Φ μ ρ H hE hA S hq => by
    refine wpAny_For (wpAny_mono (h1.go _ d A _ s env Φ μ ρ H hE hA S hq) (fun xv s₁ p => wpAny_mono p (fun it s₂ p => ?_) fun _ _ x => x) fun _ _ x => x) (hs env)
    obtain ⟨items, H₂, μ₂, I, fp, P, T, w, hq⟩ := p
    obtain rfl := w.it
    let F : Addr → Prop := fun a => Foot env a ∨ a = I
    have hFI : ∀ a, F a → Foot env a ∨ s.heap.objs.size ≤ a := fun a ha => ha.imp id fun (e : a = I) => by rw [e]; exact w.new
    have hIb : W.base.objs.size ≤ I := Nat.le_trans S.inv.size w.new
    have mvF : ∀ {h' : Heap} {μ' : Mu}, ExtF F s₂.heap μ₂ h' μ' → Mv s₂.heap (Out (fun a => Φ a ∨ a = I) env) μ₂ h' μ' := fun x => x.mv (w.st.hok.notTup) fun b hb => by
      rcases hb with hb | rfl
      · exact ⟨.inr hb, foot_notTup w.st hb⟩
      · exact ⟨.inl (.inr rfl), fun o e => w.notTup 0 _ o w.at0 e⟩
    have hfin : ∀ {s' : Shared} {f : Flow} {fl : Fl} {ρ' : Rho} {H' : List O} {μ' : Mu}, St W env nm (fun a => Φ a ∨ a = I) s' μ' ρ' H' → ExtF F s₂.heap μ₂ s'.heap μ' → FlOk s'.heap (Out (fun a => Φ a ∨ a = I) env) μ' fl f → Q fl ρ' H' → PostS W env nm Φ s μ Q f s' :=
      fun S' x' hf hq => ⟨_, _, _, _, S'.sub fun a ha => .inl ha, ExtF.toS w.ext x' hFI, hf.sub (out_sub fun a ha => .inl ha), hq⟩
    refine codeAny_forLoop_any (fun n s' => ∃ j ρ' H' μ', n + j = items.length + 1 ∧ j ≤ items.length ∧ St W env nm (fun a => Φ a ∨ a = I) s' μ' ρ' H' ∧ ExtF F s₂.heap μ₂ s'.heap μ' ∧ T j s'.heap ∧ forL d t i (items.drop j) ρ' H' Q) ?_ (items.length + 1) ⟨0, ρ, H₂, μ₂, rfl, Nat.zero_le _, w.st, .refl, w.at0, hq⟩
    rintro n s' ⟨j, ρ', H', μ', hn, hj, S', x', hT, hq⟩
    have hnt : ∀ o, s'.heap.get? I = some o → ¬ TupObj o := fun o e => w.notTup j _ o hT e
    by_cases hlt : j < items.length
    · refine wpAny_size (w.walks.item j s' _ _ hlt hT fun v h₁ tk₁ hPv hT₁ hk₁ hsz => ?_)
      obtain ⟨S₁, mv₁⟩ := S'.turn (.inr rfl) hIb hnt (t := tk₁) hk₁ hsz
      obtain ⟨y, hy, hvy⟩ := w.item j v hPv
      have hv₁ : VOk h₁ (Out (fun a => Φ a ∨ a = I) env) μ' (.d y) v := (hvy.mv (mvF x')).mv mv₁
      have x₁ : ExtF F s₂.heap μ₂ h₁ μ' := x'.trans ⟨⟨[], by simp, fun _ ha => absurd ha FP.nil⟩, hsz, fun b o e _ hb => hk₁ b o (fun hm => hb (.inr (List.mem_singleton.mp hm))) e⟩
      show wpAny _ _ (letOwnedTupleGo (.Name x px) (.ref I) v) _ _ _
      refine wpAny_of_eq (show letOwnedTupleGo (.Name x px) (.ref I) v = pure () from rfl) ?_
      refine wpAny_assign_Name (store_ok hi hE S₁ hv₁ fun h₂ tk₂ S₂ x₂ _ => ?_)
      rw [List.drop_eq_getElem_cons hlt] at hq
      have hy' : items[j] = y := by rw [List.getElem?_eq_getElem hlt] at hy; exact Option.some.inj hy
      rw [hy'] at hq
      have xx : ExtF F s₂.heap μ₂ h₂ μ' := x₁.trans (x₂.f fun a ha => .inl ha)
      have hT₂ : ∀ {h' : Heap} {μ'' : Mu}, ExtS env h₁ μ' h' μ'' → T (j + 1) h' := fun {h' μ''} x3 => w.walks.frame _ _ _ hT₁ fun b hb o e => by
        by_cases hbI : b = I
        · subst hbI
          exact x3.keep b o e (fun hf => (S'.hok.above b hf).2 (.inl (.inr rfl))) (fun hf => S'.apart b hf (.inr rfl))
        · obtain ⟨h3, h4, o', h5⟩ := w.fp b hb hbI
          refine x3.keep b o e (fun hf => ?_) h4
          obtain ⟨ν, rfl, hν⟩ := x'.new
          exact (FP.app.mp hf).elim h3 fun hn => Nat.lt_irrefl _ (Nat.lt_of_lt_of_le (Heap.lt_size h5) (hν b hn))
      refine wpAny_mono (h2.go _ d A _ _ env _ μ' _ H' hE hA S₂ hq) (fun f s₃ p => ?_) fun _ _ x => x
      refine PostS.use p fun fl ρ₃ H₃ μ₃ S₃ x₃ hf hq => ?_
      clear p
      have x₃' : ExtF F s₂.heap μ₂ s₃.heap μ₃ := xx.trans (x₃.f fun a ha => .inl ha)
      have hT₃ : T (j + 1) s₃.heap := hT₂ (x₂.trans x₃)
      cases hf with
      | next => exact ⟨n - 1, by lia, j + 1, ρ₃, H₃, μ₃, by lia, hlt, S₃, x₃', hT₃, hq⟩
      | cont => exact ⟨n - 1, by lia, j + 1, ρ₃, H₃, μ₃, by lia, hlt, S₃, x₃', hT₃, hq⟩
      | brk => exact hfin S₃ x₃' .next hq
      | ret hv => exact hfin S₃ x₃' (.ret hv) hq
      | rett a b => exact hfin S₃ x₃' (.rett a b) hq
    · have hje : j = items.length := by lia
      subst hje
      refine wpAny_size (w.walks.done s' _ _ hT fun h₁ tk₁ hk₁ hsz => ?_)
      obtain ⟨S₁, mv₁⟩ := S'.turn (.inr rfl) hIb hnt (t := tk₁) hk₁ hsz
      have x₁ : ExtF F s₂.heap μ₂ h₁ μ' := x'.trans ⟨⟨[], by simp, fun _ ha => absurd ha FP.nil⟩, hsz, fun b o e _ hb => hk₁ b o (fun hm => hb (.inr (List.mem_singleton.mp hm))) e⟩
      rw [List.drop_length] at hq
      exact wpAny_execs_nil (hfin S₁ x₁ .next hq)

/-! ### while -/
noncomputable def whL (d : Nat) (t : TrB) (x : TrS) : Nat → Rho → List O → (Fl → Rho → List O → Prop) → Prop
  | 0, _, _, _ => False
  | n + 1, ρ, H, Q => t d ρ H fun c H => if c = true then x d ρ H fun fl ρ H => (match fl with
    | .next => whL d t x n ρ H Q
    | .cont => whL d t x n ρ H Q
    | .brk => Q .next ρ H
    | fl => Q fl ρ H) else Q .next ρ H

noncomputable def t_sns_while (u : TrB) (t : TrS) : TrS := fun d ρ H Q => ∃ n, whL d u t n ρ H Q
theorem sns_while {test : Expr} {body : List Stmt} {pos : Pos} {u : TrB} {t : TrS} (h1 : SndT W sc nm test u) (h2 : SndB W sc nm body t) : SndS W sc nm (.While test body [] pos) (t_sns_while u t) :=
  .mk fun Q d A E s env Φ μ ρ H hE hA S hq => by
    obtain ⟨n, hq⟩ := hq
    refine wpAny_While (codeAny_whileLoop (fun n s' => ∃ ρ' H' μ', St W env nm Φ s' μ' ρ' H' ∧ ExtS env s.heap μ s'.heap μ' ∧ whL d u t n ρ' H' Q) ?_ n ⟨ρ, H, μ, S, .refl, hq⟩)
    rintro n s' ⟨ρ', H', μ', S', x', hq⟩
    cases n with
    | zero => exact hq.elim
    | succ n =>
      refine wpAny_mono (h1.go _ d A _ s' env Φ μ' ρ' H' hE hA S' hq) (fun b s₂ p => ?_) fun _ _ x => x
      refine PostT.use p fun H₂ μ₂ S₂ x₂ hq => ?_
      clear p
      have xx := x'.trans x₂.s
      cases b with
      | false =>
        rw [if_neg Bool.false_ne_true] at hq ⊢
        exact wpAny_execs_nil ⟨.next, ρ', H₂, μ₂, S₂, xx, .next, hq⟩
      | true =>
        rw [if_pos rfl] at hq ⊢
        refine wpAny_mono (h2.go _ d A _ s₂ env Φ μ₂ ρ' H₂ hE hA S₂ hq) (fun f s₃ p => ?_) fun _ _ x => x
        refine PostS.use p fun fl ρ₃ H₃ μ₃ S₃ x₃ hf hq => ?_
        clear p
        cases hf with
        | next => exact ⟨n, Nat.lt_succ_self _, ρ₃, H₃, μ₃, S₃, xx.trans x₃, hq⟩
        | cont => exact ⟨n, Nat.lt_succ_self _, ρ₃, H₃, μ₃, S₃, xx.trans x₃, hq⟩
        | brk => exact ⟨_, ρ₃, H₃, μ₃, S₃, xx.trans x₃, .next, hq⟩
        | ret hv => exact ⟨_, ρ₃, H₃, μ₃, S₃, xx.trans x₃, .ret hv, hq⟩
        | rett a b => exact ⟨_, ρ₃, H₃, μ₃, S₃, xx.trans x₃, .rett a b, hq⟩
end

/-! ## M11 -/
/-! ### a display with for: its frame -/
noncomputable def relS (c sc : Scope) : Scope :=
  { c with names := c.names.map fun (n, k) => if (k == .free && sc.kind == .function && sc.names.lookup n == some .cell) then (n, .cell) else (n, k) }

theorem relabel_eq {c sc : Scope} {env : Env} (h : env.scope = sc) : relabel c env = relS c sc := by subst h; rfl

theorem lookup_map {α : Type} {f : Str × α → Str × α} (hf : ∀ p, (f p).1 = p.1) (l : List (Str × α)) (x : Str) : (l.map f).lookup x = (l.lookup x).map fun k => (f (x, k)).2 := by
  induction l with
  | nil => rfl
  | cons p r ih =>
    rw [List.map_cons, List.lookup_cons, hf p, List.lookup_cons]
    cases hx : x == p.1 with
    | true => rw [eq_of_beq hx]; rfl
    | false => exact ih
theorem rel_fst (sc : Scope) (p : Str × NameKind) : ((fun (n, k) => if (k == NameKind.free && sc.kind == .function && sc.names.lookup n == some .cell) then (n, NameKind.cell) else (n, k)) p : Str × NameKind).1 = p.1 := by
  show (if (p.2 == NameKind.free && sc.kind == .function && sc.names.lookup p.1 == some .cell) = true then (p.1, NameKind.cell) else (p.1, p.2)).1 = p.1
  by_cases h : (p.2 == NameKind.free && sc.kind == .function && sc.names.lookup p.1 == some .cell) = true
  · rw [if_pos h]
  · rw [if_neg h]
theorem lookup_rel {sc : Scope} {names : List (Str × NameKind)} {x : Str} {k : NameKind} (h : names.lookup x = some k) :
    (names.map fun (n, k) => if (k == NameKind.free && sc.kind == .function && sc.names.lookup n == some .cell) then (n, NameKind.cell) else (n, k)).lookup x =
      some (if (k == NameKind.free && sc.kind == .function && sc.names.lookup x == some .cell) then NameKind.cell else k) := by
  refine (lookup_map (rel_fst sc) names x).trans ?_
  rw [h]
  show some (if (k == NameKind.free && sc.kind == .function && sc.names.lookup x == some .cell) = true then (x, NameKind.cell) else (x, k)).2 = _
  by_cases h : (k == NameKind.free && sc.kind == .function && sc.names.lookup x == some .cell) = true
  · rw [if_pos h, if_pos h]
  · rw [if_neg h, if_neg h]
theorem lookup_rel_none {sc : Scope} {names : List (Str × NameKind)} {x : Str} (h : names.lookup x = none) :
    (names.map fun (n, k) => if (k == NameKind.free && sc.kind == .function && sc.names.lookup n == some .cell) then (n, NameKind.cell) else (n, k)).lookup x = none := by
  refine (lookup_map (rel_fst sc) names x).trans ?_
  rw [h]; rfl

theorem clos_loop {env : Env} (names : List (Str × NameKind)) : ∀ (acc : List (Str × Addr)), (∀ n, (n, NameKind.free) ∈ names → ∃ c, env.cells.lookup n = some c) →
    ∃ cl, (forIn names acc fun x r => (match x with | (name, kind) => if (kind == NameKind.free) = true then do let a ← cellOf env name; pure (ForInStep.yield ((name, a) :: r)) else pure (ForInStep.yield r) : Sem (ForInStep (List (Str × Addr))))) = pure cl ∧
      (∀ p ∈ cl, p ∈ acc ∨ env.cells.lookup p.1 = some p.2) ∧ (∀ p ∈ acc, p ∈ cl) ∧ (∀ n c, (n, NameKind.free) ∈ names → env.cells.lookup n = some c → (n, c) ∈ cl) := by
  induction names with
  | nil => exact fun acc _ => ⟨acc, List.forIn_nil .., fun _ h => .inl h, fun _ h => h, fun _ _ h => nomatch h⟩
  | cons p r ih =>
    intro acc h
    obtain ⟨n, k⟩ := p
    rw [List.forIn_cons]
    cases hk : k == NameKind.free with
    | false =>
      obtain ⟨cl, h1, h2, h3, h4⟩ := ih acc fun n hn => h n (.tail _ hn)
      refine ⟨cl, ?_, h2, h3, fun m c hm he => (List.mem_cons.mp hm).elim (fun e => absurd ((Prod.mk.inj e).2 ▸ rfl : (k == NameKind.free) = true) (by rw [hk]; exact Bool.false_ne_true)) fun hm => h4 m c hm he⟩
      dsimp only
      rw [hk]; exact h1
    | true =>
      obtain rfl : k = .free := eq_of_beq hk
      obtain ⟨c, hc⟩ := h n (.head _)
      obtain ⟨cl, h1, h2, h3, h4⟩ := ih ((n, c) :: acc) fun n hn => h n (.tail _ hn)
      refine ⟨cl, ?_, fun p hp => (h2 p hp).elim (fun hp => (List.mem_cons.mp hp).elim (fun e => .inr (e ▸ hc)) .inl) .inr, fun p hp => h3 p (.tail _ hp), fun m c' hm he => (List.mem_cons.mp hm).elim (fun e => ?_) fun hm => h4 m c' hm he⟩
      · have e : cellOf env n = pure c := by unfold cellOf; rw [hc]
        dsimp only
        rw [e]; exact h1
      · obtain rfl : m = n := (Prod.mk.inj e).1
        obtain rfl : c = c' := Option.some.inj (hc.symm.trans he)
        exact h3 _ (.head _)
theorem clos_of {scope : Scope} {env : Env} (h : ∀ n, (n, NameKind.free) ∈ scope.names → ∃ c, env.cells.lookup n = some c) :
    ∃ cl, closureFor scope env = pure cl ∧ (∀ x c, cl.lookup x = some c → env.cells.lookup x = some c) ∧ (∀ n c, (n, NameKind.free) ∈ scope.names → env.cells.lookup n = some c → cl.lookup n = some c) := by
  obtain ⟨cl, h1, h2, h3, h4⟩ := clos_loop scope.names [] h
  have h2' : ∀ p ∈ cl, env.cells.lookup p.1 = some p.2 := fun p hp => (h2 p hp).elim (fun h => nomatch h) id
  refine ⟨cl, ?_, fun x c e => h2' (x, c) (PySem.mem_of_lookup e), fun n c hn he => ?_⟩
  · unfold closureFor
    show (forIn scope.names [] _ >>= fun r => pure r) = _
    refine (congrArg (· >>= fun r => pure r) ?_).trans (show (pure cl >>= fun r => pure r : Sem _) = pure cl from rfl)
    exact h1
  · have hm := h4 n c hn he
    have : ∀ (l : List (Str × Addr)), (∀ p ∈ l, env.cells.lookup p.1 = some p.2) → (n, c) ∈ l → l.lookup n = some c := by
      intro l
      induction l with
      | nil => intro _ h; cases h
      | cons p l ih =>
        intro hl hm
        rw [List.lookup_cons]
        cases hx : n == p.1 with
        | true =>
          have e : n = p.1 := by simpa using hx
          have := hl p (.head _)
          rw [← e, he] at this
          simpa using this.symm
        | false =>
          rcases List.mem_cons.mp hm with rfl | hm
          · simp at hx
          · exact ih (fun q hq => hl q (.tail _ hq)) hm
    exact this cl h2' hm

noncomputable def compNm (x : Str) (caps : List (Str × Nat)) : List Str := x :: caps.map (·.1)
noncomputable def compRho (ρ : Rho) (caps : List (Str × Nat)) (y : V) : Rho := some y :: caps.map fun c => (ρ[c.2]?).join

noncomputable def compOk (c sc : Scope) (nm : List Str) (x : Str) (caps : List (Str × Nat)) : Bool :=
  c.kind == .function && sc.kind == .function && (c.names.all fun y => y.2 != .cell) && (c.names.all fun y => y.2 != .local || c.names.lookup y.1 == some .local) && c.names.lookup x == some .local &&
  (caps.all fun y => nm[y.2]? == some y.1 && c.names.lookup y.1 == some .free && sc.names.lookup y.1 == some .cell) && (c.names.all fun y => y.2 != .free || sc.names.lookup y.1 == some .cell) && decide (compNm x caps).Nodup

theorem compOk_spec {c sc : Scope} {nm : List Str} {x : Str} {caps : List (Str × Nat)} (h : compOk c sc nm x caps = true) :
    c.kind = .function ∧ sc.kind = .function ∧ (∀ y ∈ c.names, y.2 ≠ .cell) ∧ (∀ y ∈ c.names, y.2 = .local → c.names.lookup y.1 = some .local) ∧ c.names.lookup x = some .local ∧
    (∀ y ∈ caps, nm[y.2]? = some y.1 ∧ c.names.lookup y.1 = some .free ∧ sc.names.lookup y.1 = some .cell) ∧ (∀ n, (n, NameKind.free) ∈ c.names → sc.names.lookup n = some .cell) ∧ (compNm x caps).Nodup := by
  unfold compOk at h
  simp only [Bool.and_eq_true, beq_iff_eq] at h
  obtain ⟨⟨⟨⟨⟨⟨⟨h1, h2⟩, h3⟩, h4⟩, h5⟩, h6⟩, h7⟩, h8⟩ := h
  refine ⟨h1, h2, fun y hy => by simpa using List.all_eq_true.mp h3 y hy, fun y hy hl => ?_, h5, fun y hy => ?_, fun n hn => ?_, of_decide_eq_true h8⟩
  · have := List.all_eq_true.mp h4 y hy
    simpa [hl] using this
  · have := List.all_eq_true.mp h6 y hy
    simp only [Bool.and_eq_true, beq_iff_eq] at this
    exact ⟨this.1.1, this.1.2, this.2⟩
  · have := List.all_eq_true.mp h7 _ hn
    simpa using this

section
variable {W : Wd} {sc : Scope} {nm : List Str} {env : Env} {Φ : Addr → Prop} {s s' : Shared} {μ μ' : Mu} {ρ : Rho} {H H' : List O} {A : Around} {E : Value → Shared → Prop}

/-- into the frame of a display: from the outer frame, to which the inner one's names are foreign -/
theorem St.enter {c : Scope} {x : Str} {caps : List (Str × Nat)} {cl : List (Str × Addr)} {C : Addr} {m : Str → Option Value} {y : PyData} {cv : Value} (hok : compOk c sc nm x caps = true) (hE : EnvOk sc env) (S : St W env nm Φ s μ ρ H)
    (hcl1 : ∀ x c, cl.lookup x = some c → env.cells.lookup x = some c) (hcl2 : ∀ n a, (n, NameKind.free) ∈ c.names → env.cells.lookup n = some a → cl.lookup n = some a)
    (hC : Φ C) (hCb : W.base.objs.size ≤ C) (hns : s.heap.Ns C m) (hm : m x = some cv) (hv : VOk s.heap (Out Φ env) μ (.d y) cv) :
    ∃ Φ', EnvOk (relS c sc) (compEnvC c cl C env) ∧ St W (compEnvC c cl C env) (compNm x caps) Φ' s μ (compRho ρ caps (.d y)) H ∧ Out Φ' (compEnvC c cl C env) = Out Φ env := by
  obtain ⟨k1, k2, k3, k4, k5, k6, k7, k8⟩ := compOk_spec hok
  have hsc := hE.scope
  have hCn : ¬ Foot env C := fun hf => S.apart C hf hC
  have hft : ∀ a, Foot (compEnvC c cl C env) a → a = C ∨ Foot env a := fun a ha => ha.imp id fun ⟨x, e⟩ => .inr ⟨x, hcl1 x a e⟩
  let Φ' : Addr → Prop := fun a => (Φ a ∧ a ≠ C) ∨ (Foot env a ∧ ¬ Foot (compEnvC c cl C env) a)
  have hout : Out Φ' (compEnvC c cl C env) = Out Φ env := by
    funext a
    refine propext ⟨?_, ?_⟩
    · rintro ((⟨h, _⟩ | ⟨h, _⟩) | h)
      · exact .inl h
      · exact .inr h
      · exact (hft a h).elim (fun e => .inl (e ▸ hC)) .inr
    · rintro (h | h)
      · by_cases e : a = C
        · exact .inr (.inl e)
        · exact .inl (.inl ⟨h, e⟩)
      · by_cases e : Foot (compEnvC c cl C env) a
        · exact .inr e
        · exact .inl (.inr ⟨h, e⟩)
  have hkind : ∀ n, (compEnvC c cl C env).kindOf n = (relS c sc).names.lookup n := fun n => by
    show (relabel c env).names.lookup n = _
    rw [relabel_eq hsc]
  have hfree : ∀ n, c.names.lookup n = some .free → (relS c sc).names.lookup n = some .cell := fun n hn => by
    have := lookup_rel (sc := sc) hn
    have h7 := k7 n (PySem.mem_of_lookup hn)
    simpa [h7, k2, relS] using this
  have hcap : ∀ (j : Nat) (n : Str) (v : V), (compNm x caps)[j + 1]? = some n → (compRho ρ caps (.d y))[j + 1]? = some (some v) → ∃ i : Nat, nm[i]? = some n ∧ ρ[i]? = some (some v) ∧ c.names.lookup n = some .free ∧ sc.names.lookup n = some .cell := by
    intro j n v hn hv
    simp only [compNm, compRho, List.getElem?_cons_succ, List.getElem?_map] at hn hv
    cases hj : caps[j]? with
    | none => rw [hj] at hn; cases hn
    | some p =>
      rw [hj] at hn hv
      simp only [Option.map_some, Option.some.injEq] at hn hv
      subst hn
      obtain ⟨q1, q2, q3⟩ := k6 p (List.mem_of_getElem? hj)
      refine ⟨p.2, q1, ?_, q2, q3⟩
      cases hr : ρ[p.2]? with
      | none => rw [hr] at hv; cases hv
      | some r => rw [hr] at hv; simp only [Option.join_some] at hv; rw [hv]
  refine ⟨Φ', ⟨relabel_eq hsc, hE.globals, hE.builtins⟩, ⟨S.inv, by rw [hout]; exact S.below, by rw [hout]; exact S.hok, ?_, ?_, ?_, ?_⟩, hout⟩
  · rw [hout]
    refine ⟨k8, by simp [compNm, compRho], ⟨m, hns, ?_⟩, ?_, ?_, ?_⟩
    · intro j n v hn hk hr
      cases j with
      | zero =>
        simp only [compNm, List.getElem?_cons_zero, Option.some.injEq] at hn
        subst hn
        simp only [compRho, List.getElem?_cons_zero, Option.some.injEq] at hr
        subst hr
        exact ⟨cv, hm, hv⟩
      | succ j =>
        obtain ⟨i, _, _, q3, _⟩ := hcap j n v hn hr
        rw [hkind, hfree n q3] at hk; cases hk
    · intro j n v hn hk hr
      cases j with
      | zero =>
        simp only [compNm, List.getElem?_cons_zero, Option.some.injEq] at hn
        subst hn
        have e := lookup_rel (sc := sc) k5
        have e' : (relS c sc).names.lookup x = some .local := by simpa [relS] using e
        rw [hkind, e'] at hk
        exact hk.elim (fun h => by cases h) fun h => by cases h
      | succ j =>
        obtain ⟨i, q1, q2, q3, q4⟩ := hcap j n v hn hr
        obtain ⟨a, cw, e1, e2, e3⟩ := S.loc.cell i n v q1 (.inl (by show env.scope.names.lookup n = _; rw [hsc]; exact q4)) q2
        exact ⟨a, cw, hcl2 n a (PySem.mem_of_lookup q3) e1, e2, e3⟩
    · intro n a e
      have e' := hcl1 n a e
      obtain ⟨h1, h2⟩ := S.loc.cells n a e'
      exact ⟨h1, fun q => hCn (.inr ⟨n, by rw [e']; exact congrArg some q⟩)⟩
    · intro n n' a e1 e2
      exact S.loc.apart n n' a (hcl1 n a e1) (hcl1 n' a e2)
  · intro a ha
    rcases hft a ha with rfl | hf
    · exact hCb
    · exact S.base a hf
  · rintro a ha (⟨h1, h2⟩ | ⟨_, h2⟩)
    · rcases hft a ha with rfl | hf
      · exact h2 rfl
      · exact S.apart a hf h1
    · exact h2 ha
  · intro n hn
    rw [hkind] at hn
    cases hl : c.names.lookup n with
    | none => rw [show (relS c sc).names.lookup n = none from lookup_rel_none hl] at hn; cases hn
    | some k =>
      have e := lookup_rel (sc := sc) hl
      have e' : (relS c sc).names.lookup n = _ := e
      rw [e'] at hn
      by_cases hkf : k = .free
      · subst hkf
        obtain ⟨a, ha⟩ := S.cellsAll n (by show env.scope.names.lookup n = _; rw [hsc]; exact k7 n (PySem.mem_of_lookup hl))
        exact ⟨a, hcl2 n a (PySem.mem_of_lookup hl) ha⟩
      · have : k = .cell := by
          have hb : (k == NameKind.free) = false := by simpa using hkf
          simpa [hb] using hn
        exact absurd this (k3 _ (PySem.mem_of_lookup hl))

/-- the turns of a display -/
noncomputable def compL (d : Nat) (t : TrB) (x : Tr) (ρ : Rho) (caps : List (Str × Nat)) : List PyData → List PyData → List O → (List PyData → List O → Prop) → Prop
  | [], acc, H, Q => Q acc H
  | y :: r, acc, H, Q => t d (compRho ρ caps (.d y)) H fun b H => if b = true then x d (compRho ρ caps (.d y)) H fun v H => (match v with | .d z => compL d t x ρ caps r (acc ++ [z]) H Q | .ref _ => False) else compL d t x ρ caps r acc H Q

/-- the tests of a display: none, or one -/
structure SndF (W : Wd) (sc : Scope) (nm : List Str) (ifs : List Expr) (x : TrB) : Prop where
  mk ::
  go : ∀ Q, Run W sc nm (fun env => forIn ifs true fun c r => if r = true then do let ok ← isTrue c env (eval c env); pure (ForInStep.yield ok) else pure (ForInStep.yield r)) (fun env Φ s μ ρ => PostT W env nm Φ s μ ρ Q) fun d ρ H => x d ρ H Q
noncomputable def t_sndf_nil  : TrB := fun _ _ H Q => Q true H
theorem sndf_nil : SndF W sc nm [] t_sndf_nil :=
  .mk fun Q d A E s env Φ μ ρ H hE hA S hq => wpAny_tests_nil ⟨H, μ, S, Ext.refl, hq⟩
theorem sndf_one {c : Expr} {t : TrB} (h : SndT W sc nm c t) : SndF W sc nm [c] t :=
  .mk fun Q d A E s env Φ μ ρ H hE hA S hq => wpAny_tests_one (h.go Q d A E s env Φ μ ρ H hE hA S hq)

theorem readsAll_push {h : Heap} {bs : List Addr} {v : Value} {d : PyData} (q : Reads h v d bs) {vs : List Value} {ds : List PyData} {as : List Addr} (r : ReadsAll h vs ds as) : ReadsAll h (vs ++ [v]) (ds ++ [d]) (as ++ (bs ++ [])) :=
  readsAll_ind (fun vs ds as => ReadsAll h (vs ++ [v]) (ds ++ [d]) (as ++ (bs ++ []))) (by exact (ReadsAll.cons q .nil : ReadsAll h [v] [d] (bs ++ []))) (fun {_ _ _ _ as cs} h1 _ ih => (List.append_assoc as cs (bs ++ [])).symm ▸ ReadsAll.cons h1 ih) r

theorem sizeLine_big : (65536 : Nat) ≤ sizeLine := by rw [sizeLine_eq]; lia

set_option maxHeartbeats 4000000 in
/-- the whole of a display, to its end in its frame -/
theorem comp_core {elt iter : Expr} {x : Str} {px : Pos} {ifs : List Expr} {c : Scope} {pos pos' : Pos} {caps : List (Str × Nat)} {u : TrI} {t : TrB} {xe : Tr} {use : Option (Value → Sem Unit)} {Q : List PyData → List O → Prop} {R : Value → Shared → Prop} {d : Nat}
    (hok : compOk c sc nm x caps = true) (h1 : SndI W sc nm iter u) (h2 : SndF W (relS c sc) (compNm x caps) ifs t) (h3 : SndE W (relS c sc) (compNm x caps) elt xe)
    (hs : ∀ env x, foldedSetIterable iter env x = pure x) (hE : EnvOk sc env) (hA : OkA d A) (S : St W env nm Φ s μ ρ H)
    (hq : u d ρ H fun items H => items.length ≤ 65536 ∧ compL d t xe ρ caps items [] H Q)
    (hfin : ∀ (s' : Shared) (H' : List O) (μ' : Mu) (acc : List PyData) (D C I : Addr), St W env nm (fun a => (Φ a ∨ a = I) ∨ a = C) s' μ' ρ H' → ExtF (fun a => a = I ∨ a = D ∨ a = C) s.heap μ s'.heap μ' →
      s.heap.objs.size ≤ I → s.heap.objs.size ≤ C → s.heap.objs.size ≤ D → VOk s'.heap (Out (fun a => (Φ a ∨ a = I) ∨ a = C) env) μ' (.d (.list acc)) (.ref D) → (∃ ys, s'.heap.PlainList D ys) → (∃ m, s'.heap.Ns C m) → Q acc H' →
      compPost (model W.prog W.w) A E use R (.ref D) C (.ok .next) s') :
    wpAny (model W.prog W.w) A (comprehension (.ListComp elt [⟨.Name x px, iter, ifs, 0⟩] c pos) c env pos' (newList []) false (eval iter env) use) R E s := by
  obtain ⟨k1, k2, k3, k4, k5, k6, k7, k8⟩ := compOk_spec hok
  have hsc := hE.scope
  obtain ⟨cl, hcl, hcl1, hcl2⟩ := clos_of (scope := c) (env := env) fun n hn => S.cellsAll n (by show env.scope.names.lookup n = _; rw [hsc]; exact k7 n hn)
  refine wpAny_comprehension_free rfl (hs env) hcl k1 k4 (wpAny_mono (h1.go _ d A E s env Φ μ ρ H hE hA S hq) (fun xv s₁ p => wpAny_mono p (fun it s₂ p => ?_) fun _ _ x => x) fun _ _ x => x)
  obtain ⟨items, H₂, μ₂, I, fp, P, T, w, hlen, hq⟩ := p
  obtain rfl := w.it
  refine wpAny_newObj_type (wpAny_newFunctionEnv k3 (by intro y hy; simp at hy) (fun h₁ hns₁ hsb₁ => ?_) k1)
  dsimp only at hns₁ hsb₁ ⊢
  generalize hH2 : s₂.heap.push { cls := .type "list", dict := none, data := .seq ([] : List Value).toArray } = H2 at hns₁ hsb₁ ⊢
  have hD0 : H2.objs.size = s₂.heap.objs.size + 1 := by rw [← hH2, Heap.size_push]
  have g1 : ∀ b o, s₂.heap.get? b = some o → H2.get? b = some o := fun b o e => hH2 ▸ Heap.get?_push_of_some _ e
  have hplD : H2.PlainList s₂.heap.objs.size #[] := ⟨_, hH2 ▸ Heap.get?_push_size _ rfl⟩
  generalize hD : s₂.heap.objs.size = D at hplD hD0 ⊢
  generalize hC : H2.objs.size = C at hns₁ hsb₁ ⊢
  have hCD : C = D + 1 := by rw [← hC]; exact hD0
  have g2 : ∀ b o, H2.get? b = some o → h₁.get? b = some o := fun b o e => hsb₁.extBut b o (fun q => Nat.lt_irrefl _ (Nat.lt_of_lt_of_le (Heap.lt_size e) (by rw [q, hC]; exact Nat.le_refl _))) (Heap.get?_push_of_some _ e)
  have hsz1 : h₁.objs.size = C + 1 := by rw [hsb₁.1, Heap.size_push, hC]
  have hDle : D ≤ h₁.objs.size := by rw [hsz1, hCD]; exact Nat.le_succ_of_le (Nat.le_succ _)
  have hltI : I < D := by rw [← hD]; exact w.live 0 _ w.at0
  have hID : s.heap.objs.size ≤ D := Nat.le_trans w.new (Nat.le_of_lt hltI)
  have hIC : s.heap.objs.size ≤ C := by rw [hCD]; exact Nat.le_succ_of_le hID
  have hbase : W.base.objs.size ≤ s.heap.objs.size := S.inv.size
  obtain ⟨SD, upD⟩ := w.st.more hD (t := s₂.toks) g1 (by rw [hC, hCD, hD]; exact Nat.lt_succ_self _)
  obtain ⟨SC, upC⟩ := SD.more (s := { s₂ with heap := H2, toks := s₂.toks }) hC (t := s₂.toks) g2 (by show H2.objs.size < _; rw [hC, hsz1]; exact Nat.lt_succ_self _)
  have up : ∀ v cv, VOk s₂.heap (Out (fun a => Φ a ∨ a = I) env) μ₂ v cv → VOk h₁ (Out (fun a => ((Φ a ∨ a = I) ∨ a = D) ∨ a = C) env) μ₂ v cv := fun v cv hv => upC v cv (upD v cv hv)
  let Φ2 : Addr → Prop := fun a => ((Φ a ∨ a = I) ∨ a = D) ∨ a = C
  have hΦI : Φ2 I := .inl (.inl (.inr rfl))
  have hΦD : Φ2 D := .inl (.inr rfl)
  have hΦC : Φ2 C := .inr rfl
  have hIDne : I ≠ D := Nat.ne_of_lt hltI
  have hDCne : D ≠ C := by rw [hCD]; exact Nat.ne_of_lt (Nat.lt_succ_self _)
  have hICne : I ≠ C := by rw [hCD]; exact Nat.ne_of_lt (Nat.lt_succ_of_lt hltI)
  have hfpD : ∀ b ∈ fp, b ≠ D ∧ b ≠ C := fun b hb => by
    by_cases e : b = I
    · subst e; exact ⟨hIDne, hICne⟩
    · obtain ⟨_, _, o, ho⟩ := w.fp b hb e
      have := Heap.lt_size ho
      rw [hD] at this
      exact ⟨Nat.ne_of_lt this, by rw [hCD]; exact Nat.ne_of_lt (Nat.lt_succ_of_lt this)⟩
  let F : Addr → Prop := fun a => a = I ∨ a = D ∨ a = C
  let Inv2 : Nat → Shared → Prop := fun n s' => ∃ j acc ys as H' μ' m', n + j = items.length + 1 ∧ j ≤ items.length ∧ acc.length ≤ j ∧ St W env nm Φ2 s' μ' ρ H' ∧ ExtF F h₁ μ₂ s'.heap μ' ∧ T j s'.heap ∧
    s'.heap.PlainList D ys ∧ ReadsAll s'.heap ys.toList acc as ∧ Off (Out Φ2 env) μ' as ∧ s'.heap.Ns C m' ∧ compL d t xe ρ caps (items.drop j) acc H' Q
  have hnI : ∀ {h : Heap} {j : Nat}, T j h → ∀ o, h.get? I = some o → ¬ TupObj o := fun hT o e => w.notTup _ _ o hT e
  have hnD : ∀ {h : Heap} {ys : Array Value}, h.PlainList D ys → ∀ o, h.get? D = some o → ¬ TupObj o := fun hp => PlainList.notTup hp
  have hnC : ∀ {h : Heap} {m}, h.Ns C m → ∀ o, h.get? C = some o → ¬ TupObj o := by
    rintro h m ⟨o', es, ep, ho', hd', _⟩ o ho ⟨_, vs, n, hd⟩
    rw [ho] at ho'; cases ho'
    rw [hd] at hd'; cases hd'
  have I0 : Inv2 (items.length + 1) { s₂ with heap := h₁, toks := s₂.toks + ([] : List (Str × Value)).length } := by
    refine ⟨0, [], #[], [], H₂, μ₂, _, rfl, Nat.zero_le _, Nat.zero_le _, SC, .refl, ?_, ?_, .nil, (show Off (Out Φ2 env) μ₂ [] from fun a ha => by cases ha), hns₁, hq⟩
    · exact w.walks.frame 0 _ _ w.at0 fun b _ o e => g2 b o (g1 b o e)
    · obtain ⟨n, e⟩ := hplD; exact ⟨n, g2 _ _ e⟩
  have hbI : W.base.objs.size ≤ I := Nat.le_trans hbase w.new
  have hbD : W.base.objs.size ≤ D := Nat.le_trans hbase hID
  have hbC : W.base.objs.size ≤ C := Nat.le_trans hbase hIC
  have hbig := sizeLine_big
  have loop : codeAny (model W.prog W.w) A (.compLoop (.ListComp elt [⟨.Name x px, iter, ifs, 0⟩] c pos) 0 (.ref I) (.ref D) (compEnvC c cl C env)) (compPost (model W.prog W.w) A E use R (.ref D) C) { s₂ with heap := h₁, toks := s₂.toks + ([] : List (Str × Value)).length } := by
    refine codeAny_compLoop_tests Inv2 ?_ (items.length + 1) I0
    rintro n s' ⟨j, acc, ys, as, H', μ', m', hn, hj, hacc, S', x', hT, hpl, hra, hoff, hns, hq⟩
    have hfpk : ∀ {h h' : Heap} {k : Nat}, T k h → (∀ b ∈ fp, ∀ o, h.get? b = some o → h'.get? b = some o) → T k h' := fun hT hk => w.walks.frame _ _ _ hT hk
    have hnu : ∀ {μ'' : Mu}, (∃ ν, μ'' = μ₂ ++ ν ∧ ∀ a, FP ν a → h₁.objs.size ≤ a) → ∀ b ∈ fp, b ≠ I → ¬ FP μ'' b := fun {μ''} ⟨ν, e, hν⟩ b hb hbI hf => by
      subst e
      obtain ⟨q1, q2, o, q3⟩ := w.fp b hb hbI
      refine (FP.app.mp hf).elim q1 fun hn => ?_
      have e1 := Heap.lt_size q3
      rw [hD] at e1
      exact Nat.lt_irrefl _ (Nat.lt_of_lt_of_le e1 (Nat.le_trans hDle (hν b hn)))
    by_cases hlt : j < items.length
    · refine wpAny_size (w.walks.item j s' _ _ hlt hT fun v hh₁ tk₁ hPv hT₁ hk₁ hsz => ?_)
      obtain ⟨S₁, mv₁⟩ := S'.turn hΦI hbI (hnI hT) (t := tk₁) hk₁ hsz
      obtain ⟨y, hy, hvy⟩ := w.item j v hPv
      have hmv : ∀ {h' : Heap} {μ'' : Mu}, ExtF F h₁ μ₂ h' μ'' → Mv h₁ (Out Φ2 env) μ₂ h' μ'' := fun x => x.mv SC.hok.notTup fun b hb => by
        rcases hb with rfl | rfl | rfl
        · exact ⟨.inl hΦI, fun o e => by
            have hT0 : T 0 h₁ := hfpk w.at0 fun b _ o e => g2 b o (g1 b o e)
            exact w.notTup 0 _ o hT0 e⟩
        · refine ⟨.inl hΦD, fun o e => ?_⟩
          obtain ⟨n, e'⟩ := hplD
          exact hnD (ys := #[]) ⟨n, g2 _ _ e'⟩ o e
        · exact ⟨.inl hΦC, hnC hns₁⟩
      have hv₁ : VOk hh₁ (Out Φ2 env) μ' (.d y) v := ((up _ _ hvy).mv (hmv x')).mv mv₁
      have x₁ : ExtF F h₁ μ₂ hh₁ μ' := x'.trans ⟨⟨[], by simp, fun _ ha => absurd ha FP.nil⟩, hsz, fun b o e _ hb => hk₁ b o (fun hm => hb (.inl (List.mem_singleton.mp hm))) e⟩
      have hns1 : hh₁.Ns C m' := Heap.Ns.move hns fun o e => hk₁ _ o (fun hm => hICne (List.mem_singleton.mp hm).symm) e
      have hpl1 : hh₁.PlainList D ys := by obtain ⟨n, e⟩ := hpl; exact ⟨n, hk₁ _ _ (fun hm => hIDne (List.mem_singleton.mp hm).symm) e⟩
      have hacc1 : VOk hh₁ (Out Φ2 env) μ' (.d (.tuple acc)) (.none) ∨ True := .inr trivial
      refine wpAny_assign_Name (wpAny_storeName_local (env := compEnvC c cl C env) (m := m') (lookup_relabel_local k5) hns1 (fun hh₂ hns2 hsb2 => ?_) (by simp [compEnvC, relabel, k1]))
      have hkC : ∀ b o, b ∉ [C] → hh₁.get? b = some o → hh₂.get? b = some o := fun b o hb e => (hsb2.2 b fun q => hb (by rw [q]; exact .head _)).trans e
      obtain ⟨S₂, mv₂⟩ := S₁.turn (s := { s' with heap := hh₁, toks := tk₁ }) hΦC hbC (hnC hns1) (t := tk₁ + 1) hkC (Nat.le_of_eq hsb2.1.symm)
      have hv₂ : VOk hh₂ (Out Φ2 env) μ' (.d y) v := hv₁.mv mv₂
      have x₂ : ExtF F h₁ μ₂ hh₂ μ' := x₁.trans ⟨⟨[], by simp, fun _ ha => absurd ha FP.nil⟩, Nat.le_of_eq hsb2.1.symm, fun b o e _ hb => hkC b o (fun hm => hb (.inr (.inr (List.mem_singleton.mp hm)))) e⟩
      have hpl2 : hh₂.PlainList D ys := by obtain ⟨n, e⟩ := hpl1; exact ⟨n, hkC _ _ (fun hm => hDCne (List.mem_singleton.mp hm)) e⟩
      have hT₂ : T (j + 1) hh₂ := hfpk hT₁ fun b hb o e => hkC b o (fun hm => (hfpD b hb).2 (List.mem_singleton.mp hm)) e
      have hra2 : ReadsAll hh₂ ys.toList acc as := readsAll_move (fun b => ¬ Out Φ2 env b ∧ ¬ FP μ' b) (fun b o e hp => by
          refine hkC b o (fun hm => ?_) (hk₁ b o (fun hm => ?_) e)
          · have hbC := List.mem_singleton.mp hm
            subst hbC
            exact hp.elim (fun ht => hnC hns o e ht) fun hp => hp.1 (.inl hΦC)
          · have hbI := List.mem_singleton.mp hm
            subst hbI
            exact hp.elim (fun ht => hnI hT o e ht) fun hp => hp.1 (.inl hΦI)) hra hoff
      obtain ⟨Φi, hEi, Si, hout⟩ := S₂.enter hok hE hcl1 hcl2 hΦC hbC hns2 (by simp) hv₂
      rw [List.drop_eq_getElem_cons hlt] at hq
      have hy' : items[j] = y := by rw [List.getElem?_eq_getElem hlt] at hy; exact Option.some.inj hy
      rw [hy'] at hq
      refine wpAny_mono (h2.go _ d A _ _ _ _ μ' _ H' hEi hA Si hq) (fun b s₃ p => ?_) fun _ _ x => x
      refine PostT.use p fun H₃ μ₃ Si₃ x₃ hq => ?_
      clear p
      have S₃ : St W env nm Φ2 s₃ μ₃ ρ H₃ := S₂.ext (s := { s' with heap := hh₂, toks := tk₁ + 1 }) x₃ (hout ▸ Si₃.hok) (Si₃.inv.gens.trans S₂.inv.gens.symm) (Si₃.inv.os.trans S₂.inv.os.symm)
      have mv₃ := x₃.mv S₂.hok
      have kΦ : ∀ {s s'' : Shared} {μ μ'' : Mu} {H}, Ext s.heap μ s''.heap μ'' → St W env nm Φ2 s μ ρ H → ∀ b, Φ2 b → ∀ o, s.heap.get? b = some o → s''.heap.get? b = some o := fun x S b hb o e => x.keep b o e fun hf => (S.hok.above b hf).2 (.inl hb)
      have kS : ∀ {s s'' : Shared} {μ μ'' : Mu} {H} {k : Nat}, Ext s.heap μ s''.heap μ'' → St W env nm Φ2 s μ ρ H → (∃ ν, μ = μ₂ ++ ν ∧ ∀ a, FP ν a → h₁.objs.size ≤ a) → T k s.heap → T k s''.heap := fun {s s'' μ μ'' H k} x S hν hT => hfpk hT fun b hb o e => by
        by_cases hbI : b = I
        · subst hbI; exact kΦ x S b hΦI o e
        · exact x.keep b o e (hnu hν b hb hbI)
      have hT₃ : T (j + 1) s₃.heap := kS (s := { s' with heap := hh₂, toks := tk₁ + 1 }) x₃ S₂ x'.new hT₂
      have hpl3 : s₃.heap.PlainList D ys := by obtain ⟨n, e⟩ := hpl2; exact ⟨n, kΦ (s := { s' with heap := hh₂, toks := tk₁ + 1 }) x₃ S₂ D hΦD _ e⟩
      have hns3 := Heap.Ns.move hns2 (kΦ (s := { s' with heap := hh₂, toks := tk₁ + 1 }) x₃ S₂ C hΦC)
      obtain ⟨ν3, eν3, hν3⟩ := mv₃.new
      have hra3 : ReadsAll s₃.heap ys.toList acc as ∧ Off (Out Φ2 env) μ₃ as :=
        ⟨readsAll_move (fun b => ¬ Out Φ2 env b ∧ ¬ FP μ' b) (fun b o e hp => hp.elim (mv₃.tup b o e) fun hp => mv₃.off b o e hp.1 hp.2) hra2 hoff, by rw [eν3]; exact off_new hoff (readsAll_lt hra2) hν3⟩
      have x₃' : ExtF F h₁ μ₂ s₃.heap μ₃ := x₂.trans x₃.f
      cases b with
      | false =>
        rw [if_neg Bool.false_ne_true]
        rw [if_neg Bool.false_ne_true] at hq
        exact ⟨n - 1, by lia, j + 1, acc, ys, as, H₃, μ₃, _, by lia, hlt, by lia, S₃, x₃', hT₃, hpl3, hra3.1, hra3.2, hns3, hq⟩
      | true =>
        rw [if_pos rfl]
        rw [if_pos rfl] at hq
        refine wpAny_mono (h3.go _ d A _ _ _ _ μ₃ _ H₃ hEi hA Si₃ hq) (fun zv s₄ p => ?_) fun _ _ x => x
        refine PostE.use p fun z H₄ μ₄ Si₄ x₄ hz hq => ?_
        clear p
        have S₄ : St W env nm Φ2 s₄ μ₄ ρ H₄ := S₃.ext x₄ (hout ▸ Si₄.hok) (Si₄.inv.gens.trans S₃.inv.gens.symm) (Si₄.inv.os.trans S₃.inv.os.symm)
        have mv₄ := x₄.mv S₃.hok
        have hT₄ : T (j + 1) s₄.heap := kS x₄ S₃ x₃'.new hT₃
        have hpl4 : s₄.heap.PlainList D ys := by obtain ⟨n, e⟩ := hpl3; exact ⟨n, kΦ x₄ S₃ D hΦD _ e⟩
        have hns4 := Heap.Ns.move hns3 (kΦ x₄ S₃ C hΦC)
        obtain ⟨ν4, eν4, hν4⟩ := mv₄.new
        have hra4 : ReadsAll s₄.heap ys.toList acc as ∧ Off (Out Φ2 env) μ₄ as :=
          ⟨readsAll_move (fun b => ¬ Out Φ2 env b ∧ ¬ FP μ₃ b) (fun b o e hp => hp.elim (mv₄.tup b o e) fun hp => mv₄.off b o e hp.1 hp.2) hra3.1 hra3.2, by rw [eν4]; exact off_new hra3.2 (readsAll_lt hra3.1) hν4⟩
        have x₄' : ExtF F h₁ μ₂ s₄.heap μ₄ := x₃'.trans x₄.f
        cases z with
        | ref k => exact hq.elim
        | d z =>
          rw [hout] at hz
          obtain ⟨bs, rz, oz⟩ := hz
          have hyl : ys.size = acc.length := by rw [← readsAll_len hra4.1]; simp
          refine wpAny_list_append_plain (hsz := by lia) hpl4 fun hh₅ hpl5 hsb5 => ?_
          have hkD : ∀ b o, b ∉ [D] → s₄.heap.get? b = some o → hh₅.get? b = some o := fun b o hb e => (hsb5.2 b fun q => hb (by rw [q]; exact .head _)).trans e
          obtain ⟨S₅, mv₅⟩ := S₄.turn hΦD hbD (hnD hpl4) (t := s₄.toks) hkD (Nat.le_of_eq hsb5.1.symm)
          have hT₅ : T (j + 1) hh₅ := hfpk hT₄ fun b hb o e => hkD b o (fun hm => (hfpD b hb).1 (List.mem_singleton.mp hm)) e
          have hns5 := Heap.Ns.move hns4 fun o e => hkD C o (fun hm => hDCne (List.mem_singleton.mp hm).symm) e
          have hra5 := readsAll_push rz hra4.1
          have hoff5 : Off (Out Φ2 env) μ₄ (as ++ (bs ++ [])) := fun a ha => by
            rcases List.mem_append.mp ha with ha | ha
            · exact hra4.2 a ha
            · exact oz a (by simpa using ha)
          have hra5' : ReadsAll hh₅ (ys.push zv).toList (acc ++ [z]) (as ++ (bs ++ [])) := by
            rw [Array.toList_push]
            exact readsAll_move (fun b => ¬ Out Φ2 env b ∧ ¬ FP μ₄ b) (fun b o e hp => hp.elim (mv₅.tup b o e) fun hp => mv₅.off b o e hp.1 hp.2) hra5 hoff5
          have x₅ : ExtF F h₁ μ₂ hh₅ μ₄ := x₄'.trans ⟨⟨[], by simp, fun _ ha => absurd ha FP.nil⟩, Nat.le_of_eq hsb5.1.symm, fun b o e _ hb => hkD b o (fun hm => hb (.inr (.inl (List.mem_singleton.mp hm)))) e⟩
          exact ⟨n - 1, by lia, j + 1, acc ++ [z], _, _, H₄, μ₄, _, by lia, hlt, by simp; lia, S₅, x₅, hT₅, hpl5, hra5', hoff5, hns5, hq⟩
    · have hje : j = items.length := by lia
      subst hje
      refine wpAny_size (w.walks.done s' _ _ hT fun hh₁ tk₁ hk₁ hsz => ?_)
      obtain ⟨S₁, mv₁⟩ := S'.turn hΦI hbI (hnI hT) (t := tk₁) hk₁ hsz
      have x₁ : ExtF F h₁ μ₂ hh₁ μ' := x'.trans ⟨⟨[], by simp, fun _ ha => absurd ha FP.nil⟩, hsz, fun b o e _ hb => hk₁ b o (fun hm => hb (.inl (List.mem_singleton.mp hm))) e⟩
      have hns1 : hh₁.Ns C m' := Heap.Ns.move hns fun o e => hk₁ _ o (fun hm => hICne (List.mem_singleton.mp hm).symm) e
      have hpl1 : hh₁.PlainList D ys := by obtain ⟨n, e⟩ := hpl; exact ⟨n, hk₁ _ _ (fun hm => hIDne (List.mem_singleton.mp hm).symm) e⟩
      rw [List.drop_length] at hq
      have hra1 : ReadsAll hh₁ ys.toList acc as := readsAll_move (fun b => ¬ Out Φ2 env b ∧ ¬ FP μ' b) (fun b o e hp => hp.elim (mv₁.tup b o e) fun hp => mv₁.off b o e hp.1 hp.2) hra hoff
      have hsub : ∀ a, ((Φ a ∨ a = I) ∨ a = C) → Φ2 a := fun a ha => ha.elim (fun h => .inl (.inl h)) .inr
      have xs : ExtF F s.heap μ s₂.heap μ₂ := w.ext.f
      have xg : ExtF F s₂.heap μ₂ h₁ μ₂ := (Ext.grow (fun b o e => g2 b o (g1 b o e)) (by rw [hsz1, hCD, hD]; lia)).f
      refine hfin { s' with heap := hh₁, toks := tk₁ } H' μ' acc D C I (S₁.sub hsub) ((xs.trans xg).trans x₁) w.new hIC hID ⟨D :: as, ?_, ?_⟩ ⟨ys, hpl1⟩ ⟨m', hns1⟩ hq
      · obtain ⟨n, e⟩ := hpl1
        exact reads_list_at e rfl rfl hra1
      · intro a ha
        rcases List.mem_cons.mp ha with e | ha
        · refine ⟨?_, fun hf => (S₁.hok.above _ hf).2 (.inl (by rw [e]; exact hΦD))⟩
          rw [e]
          rintro (((h | h) | h) | h)
          · exact Nat.lt_irrefl _ (Nat.lt_of_lt_of_le (S.below D (.inl h)) hID)
          · exact hIDne h.symm
          · exact hDCne h
          · exact S₁.apart D h hΦD
        · exact ⟨fun h => (hoff a ha).1 (out_sub hsub a h), (hoff a ha).2⟩
  exact codeAny_compStart_list loop (w.walks.self 0 _ _ _ (w.walks.frame 0 _ _ w.at0 fun b _ o e => g2 b o (g1 b o e)) loop)
end

/-! ## M12 -/
section
variable {W : Wd} {sc : Scope} {nm : List Str}

noncomputable def t_snd_comp (caps : List (Str × Nat)) (u : TrI) (t : TrB) (xe : Tr) : Tr := fun d ρ H Q => u d ρ H fun items H => items.length ≤ 65536 ∧ compL d t xe ρ caps items [] H fun acc H => Q (.d (.list acc)) H
/-- a display with for, frozen at once -/
theorem snd_comp {elt iter : Expr} {x : Str} {px : Pos} {ifs : List Expr} {c : Scope} {pos : Pos} (caps : List (Str × Nat)) {u : TrI} {t : TrB} {xe : Tr}
    (hok : compOk c sc nm x caps = true) (h1 : SndI W sc nm iter u) (h2 : SndF W (relS c sc) (compNm x caps) ifs t) (h3 : SndE W (relS c sc) (compNm x caps) elt xe)
    (hs : ∀ env x, foldedSetIterable iter env x = pure x := by intro _ _; rfl) :
    SndE W sc nm (.ListComp elt [⟨.Name x px, iter, ifs, 0⟩] c pos) (t_snd_comp caps u t xe) :=
  .mk fun Q d A E s env Φ μ ρ H hE hA S hq => by
    show wpAny _ _ (eval (.ListComp elt [⟨.Name x px, iter, ifs, 0⟩] c pos) env) _ _ _
    rw [eval_ListComp]
    refine comp_core (use := none) (Q := fun acc H => Q (.d (.list acc)) H) hok h1 h2 h3 hs hE hA S hq ?_
    intro s' H' μ' acc D C I S' x' hI hC hD hv hplD ⟨m, hn⟩ hq
    refine ⟨m, hn, fun h' hs' => ?_⟩
    have hCb : W.base.objs.size ≤ C := Nat.le_trans S.inv.size hC
    have hnC : ∀ o, s'.heap.get? C = some o → ¬ TupObj o := by
      obtain ⟨o', es, ep, ho', hd', _⟩ := hn
      rintro o ho ⟨_, vs, n, hd⟩
      rw [ho] at ho'; cases ho'
      rw [hd] at hd'; cases hd'
    have hk : ∀ b o, b ∉ [C] → s'.heap.get? b = some o → h'.get? b = some o := fun b o hb e => (hs'.2 b fun q => hb (by rw [q]; exact .head _)).trans e
    obtain ⟨S₂, mv⟩ := S'.turn (t := s'.toks) (.inr rfl) hCb hnC hk (Nat.le_of_eq hs'.1.symm)
    have hsub : ∀ a, Φ a → ((Φ a ∨ a = I) ∨ a = C) := fun a ha => .inl (.inl ha)
    refine ⟨.d (.list acc), H', μ', S₂.sub hsub, ?_, (hv.mv mv).sub (out_sub hsub), hq⟩
    refine ExtF.toE (F := fun a => a = I ∨ a = D ∨ a = C) Ext.refl (x'.trans ⟨⟨[], by simp, fun _ ha => absurd ha FP.nil⟩, Nat.le_of_eq hs'.1.symm, fun b o e _ hb => hk b o (fun hm => hb (.inr (.inr (List.mem_singleton.mp hm)))) e⟩) ?_
    rintro a (rfl | rfl | rfl)
    · exact hI
    · exact hD
    · exact hC

noncomputable def t_sns_assign_comp (caps : List (Str × Nat)) (i : Nat) (u : TrI) (t : TrB) (xe : Tr) : TrS := fun d ρ H Q => u d ρ H fun items H => items.length ≤ 65536 ∧ compL d t xe ρ caps items [] H fun acc H => Q .next (ρ.set i (some (.d (.list acc)))) H
/-- a display with for, put to a name on its own line -/
theorem sns_assign_comp {elt iter : Expr} {x y : Str} {px py : Pos} {ifs : List Expr} {c : Scope} {pos spos : Pos} (caps : List (Str × Nat)) {i : Nat} {u : TrI} {t : TrB} {xe : Tr}
    (hi : slotSt sc nm y i = true) (hok : compOk c sc nm x caps = true) (h1 : SndI W sc nm iter u) (h2 : SndF W (relS c sc) (compNm x caps) ifs t) (h3 : SndE W (relS c sc) (compNm x caps) elt xe)
    (hsw : (sc.kind == .function && sc.names.lookup y == some .local && py.line == pos.line && !(c.names.any fun (n, k) => n == y && (k == .local || k == .cell))) = true)
    (hs : ∀ env x, foldedSetIterable iter env x = pure x := by intro _ _; rfl) :
    SndS W sc nm (.Assign [.Name y py] (.ListComp elt [⟨.Name x px, iter, ifs, 0⟩] c pos) spos) (t_sns_assign_comp caps i u t xe) :=
  .mk fun Q d A E s env Φ μ ρ H hE hA S hq => by
    have hsw' : swapsWith (.ListComp elt [⟨.Name x px, iter, ifs, 0⟩] c pos) (some (.Name y py)) spos.line env = pure true := by
      have hk : sc.kind = .function := by
        simp only [Bool.and_eq_true, beq_iff_eq] at hsw
        exact hsw.1.1.1
      have e : env.blockKind = .function := by
        unfold Env.blockKind
        rw [hE.scope, hk]; rfl
      show pure (env.blockKind == .function && env.kindOf y == some .local && py.line == pos.line && !(c.names.any fun (n, k) => n == y && (k == .local || k == .cell))) = _
      have e2 : env.kindOf y = sc.names.lookup y := by show env.scope.names.lookup y = _; rw [hE.scope]
      rw [hk] at hsw
      rw [e, e2, hsw]
    show wpAny _ _ (exec (.Assign [.Name y py] (.ListComp elt [⟨.Name x px, iter, ifs, 0⟩] c pos) spos) env) _ _ _
    rw [exec_Assign_Name_used _ _ _ _ hsw']
    refine wpAny_bind (wpAny_standAt (wpAny_bind ?_))
    show wpAny _ _ (do let _ ← comprehension (.ListComp elt [⟨.Name x px, iter, ifs, 0⟩] c pos) c env _ (newList []) false (eval iter env) (some (assign (.Name y py) env))) _ _ s
    refine wpAny_bind (wpAny_mono (comp_core (use := some (assign (.Name y py) env)) (Q := fun acc H => Q .next (ρ.set i (some (.d (.list acc)))) H) (R := fun _ s' => PostS W env nm Φ s μ Q .next s') (E := E) hok h1 h2 h3 hs hE hA S hq ?_) (fun _ _ h => wpAny_pure (wpAny_pure h)) fun _ _ x => x)
    intro s' H' μ' acc D C I S' x' hI hC hD hv hplD ⟨m, hn⟩ hq
    show wpAny _ _ (assign (.Name y py) env (.ref D)) _ _ _
    have hCb : W.base.objs.size ≤ C := Nat.le_trans S.inv.size hC
    refine wpAny_assign_Name (store_ok hi hE S' hv fun h₂ t₂ S₂ x₂ _ => ?_)
    have hCe : ¬ FP μ' C ∧ ¬ Foot env C := ⟨fun hf => (S'.hok.above C hf).2 (.inl (.inr rfl)), fun hf => S'.apart C hf (.inr rfl)⟩
    have hn₂ : h₂.Ns C m := Heap.Ns.move hn fun o e => x₂.keep C o e hCe.1 hCe.2
    refine ⟨m, hn₂, fun h' hs' => ?_⟩
    have hnC : ∀ o, h₂.get? C = some o → ¬ TupObj o := by
      obtain ⟨o', es, ep, ho', hd', _⟩ := hn₂
      rintro o ho ⟨_, vs, n, hd⟩
      rw [ho] at ho'; cases ho'
      rw [hd] at hd'; cases hd'
    have hk : ∀ b o, b ∉ [C] → h₂.get? b = some o → h'.get? b = some o := fun b o hb e => (hs'.2 b fun q => hb (by rw [q]; exact .head _)).trans e
    obtain ⟨S₃, mv⟩ := S₂.turn (s := { s' with heap := h₂, toks := t₂ }) (t := t₂) (.inr rfl) hCb hnC hk (Nat.le_of_eq hs'.1.symm)
    have hsub : ∀ a, Φ a → ((Φ a ∨ a = I) ∨ a = C) := fun a ha => .inl (.inl ha)
    refine ⟨.next, _, H', μ', S₃.sub hsub, ?_, .next, hq⟩
    refine ExtF.toS (F := fun a => (a = I ∨ a = D ∨ a = C) ∨ Foot env a) Ext.refl ((ExtF.trans (⟨x'.new, x'.size, fun b o e hf hg => x'.keep b o e hf fun q => hg (.inl q)⟩ : ExtF _ s.heap μ s'.heap μ') (x₂.f fun a ha => .inr ha)).trans
      ⟨⟨[], by simp, fun _ ha => absurd ha FP.nil⟩, Nat.le_of_eq hs'.1.symm, fun b o e _ hb => hk b o (fun hm => hb (.inl (.inr (.inr (List.mem_singleton.mp hm))))) e⟩) ?_
    rintro a ((rfl | rfl | rfl) | hf)
    · exact .inr hI
    · exact .inr hD
    · exact .inr hC
    · exact .inl hf

/-! ### range -/
noncomputable def rangeItems (n : Int) : List PyData := (List.range n.toNat).map fun (i : Nat) => PyData.int (i : Int)
noncomputable def rangeV (v : V) (Q : List PyData → Prop) : Prop := intV v fun n => -1000000 ≤ n ∧ n ≤ 1000000 ∧ Q (rangeItems n)
theorem rangeV_some {v : V} {Q : List PyData → Prop} (h : rangeV v Q) : ∃ n, v = .d (.int n) ∧ -1000000 ≤ n ∧ n ≤ 1000000 ∧ Q (rangeItems n) := intV_some h
noncomputable def one_ (vs : List V) (Q : V → Prop) : Prop := match vs with | [] => False | v :: r => (match r with | [] => Q v | _ :: _ => False)
theorem one_some {vs : List V} {Q : V → Prop} (h : one_ vs Q) : ∃ v, vs = [v] ∧ Q v := by
  cases vs with
  | nil => exact False.elim h
  | cons v r => cases r with
    | nil => exact ⟨v, rfl, h⟩
    | cons => exact False.elim h

noncomputable def t_sni_range (x : Tr) : TrI := fun d ρ H Q => x d ρ H fun v H => rangeV v fun l => Q l H
theorem sni_range {id : Str} {fp pos : Pos} {e : Expr} {x : Tr} (hg : globOk sc id = true) (hm : W.mg id = none) (hb : W.mb id = some (.type "range")) (hp : plainArgs [e] = true) (h : SndE W sc nm e x) :
    SndI W sc nm (.Call (.Name id fp) [e] [] pos) (t_sni_range x) :=
  .mk fun Q d A E s env Φ μ ρ H hE hA S hq => by
    refine wpAny_Call_Name_kw ?_
    refine load_builtin hg hE S hm hb ?_
    show wpAny _ _ (callWith pos (.type "range") [] (backTo pos (starEach [e] env)) []) _ _ _
    have hl : SndL W sc nm [e] fun d ρ H Q => x d ρ H fun v H => Q [v] H := snd_cons h snd_nil (by simpa [plainArgs] using hp)
    refine PySem.callWith_type (starEach_plain hp env pos) (args_ok (Q := fun vs H => one_ vs fun v => rangeV v fun l => Q l H) hl hp hE hA S hq fun cvs s₁ p => ?_)
    refine PostEs.use p fun vs H₁ μ₁ S₁ x₁ hvs hq => ?_
    clear p
    obtain ⟨v, rfl, hq1⟩ := one_some hq
    obtain ⟨n, rfl, hlo, hhi, hq⟩ := rangeV_some hq1
    cases cvs with
    | nil => exact hvs.elim
    | cons cv r => cases r with
      | cons => exact hvs.2.elim
      | nil =>
        obtain ⟨as, r, hoff⟩ := hvs.1
        obtain ⟨tN, rfl⟩ := reads_int r
        show wpAny _ _ (call (.type "range") [.int n tN]) _ _ _
        refine call_range_1 ?_
        refine wpAny_pyIter_range (IsRange.new ..) (small_one (by decide) (by decide) (by lia) (by lia)) ?_
        have hsz : Builtin.Range.rangeSize 0 n 1 = (n.toNat : Int) := by rw [rangeSize_one]; by_cases hc : 0 < n <;> simp only [hc, if_true, if_false] <;> lia
        let ob : Obj := { cls := .type "range", data := .fields #[.int 0 s₁.toks, .int n tN, .int 1 (s₁.toks + 1)] }
        let h1 : Heap := s₁.heap.push ob
        have g1 : ∀ b o, s₁.heap.get? b = some o → h1.get? b = some o := fun b o e => Heap.get?_push_of_some _ e
        have S₂ : St W env nm Φ { s₁ with heap := h1, toks := s₁.toks + 1 + 1 } μ₁ ρ H₁ := S₁.grow (s' := { s₁ with heap := h1, toks := s₁.toks + 1 + 1 }) g1 (by show _ ≤ (s₁.heap.push ob).objs.size; rw [Heap.size_push]; exact Nat.le_succ _) rfl rfl
        let it : Obj := { cls := .type "range_iterator", data := .fields #[rawInt 0, rawInt (Builtin.Range.rangeSize 0 n 1), rawInt 1] }
        have g2 : ∀ b o, h1.get? b = some o → (h1.push it).get? b = some o := fun b o e => Heap.get?_push_of_some _ e
        obtain ⟨S₃, _⟩ := S₂.more (s := { s₁ with heap := h1, toks := s₁.toks + 1 + 1 }) rfl (t := s₁.toks + 1 + 1) g2 (by show h1.objs.size < (h1.push it).objs.size; exact (Heap.size_push h1 it).symm ▸ Nat.lt_succ_self _)
        have hlen : (rangeItems n).length = n.toNat := by simp [rangeItems]
        refine ⟨rangeItems n, H₁, μ₁, h1.objs.size, [h1.objs.size], fun i v => i < n.toNat ∧ ∃ t, v = .int (0 + (i : Nat) * 1) t, fun i h => IsRangeIter h h1.objs.size (0 + (i : Nat) * 1) ((n.toNat : Int) - (i : Nat)) 1, ⟨rfl, ?_, S₃, x₁.trans ((Ext.grow g1 ?_).trans (Ext.grow g2 ?_)), ?_, ?_, ?_, ?_, ?_, ?_⟩, hq⟩
        · show s.heap.objs.size ≤ (s₁.heap.push ob).objs.size
          rw [Heap.size_push]; exact Nat.le_succ_of_le x₁.size
        · show _ ≤ (s₁.heap.push ob).objs.size
          rw [Heap.size_push]; exact Nat.le_succ _
        · exact (Heap.size_push h1 it).symm ▸ Nat.le_succ _
        · rw [hlen]; exact (Walks.range hA.handled _ 0 1 n.toNat).bound
        · have e1 : (0 + ((0 : Nat) : Int) * 1) = 0 := by simp
          have e2 : ((n.toNat : Int) - ((0 : Nat) : Int)) = Builtin.Range.rangeSize 0 n 1 := by rw [hsz]; simp
          rw [e1, e2]
          exact Heap.get?_push_size _ rfl
        · intro j h o hT e ht
          have hT' : h.get? h1.objs.size = some _ := hT
          rw [e] at hT'
          cases hT'
          exact absurd (Value.type.inj ht.1) (by decide)
        · intro j h hT
          have hT' : h.get? h1.objs.size = some _ := hT
          exact Heap.lt_size hT'
        · intro b hb hne
          exact absurd (List.mem_singleton.mp hb) hne
        · rintro i v ⟨hi, t, rfl⟩
          refine ⟨.int (i : Int), ?_, ?_⟩
          · simp [rangeItems, hi]
          · have : (0 + (i : Int) * 1) = (i : Int) := by lia
            rw [this]
            exact vok_val (.int _ _)
end

/-! ## M13 -/
theorem cells_some (names : List (Str × NameKind)) : ∀ (n : Nat) (acc : List (Str × Addr)) (x : Str), ((x, NameKind.cell) ∈ names ∨ (acc.lookup x).isSome = true) → ((cellsFrom n names acc).lookup x).isSome = true := by
  induction names with
  | nil => exact fun n acc x h => h.elim (fun h => nomatch h) id
  | cons p r ih =>
    obtain ⟨y, k⟩ := p
    intro n acc x h
    unfold cellsFrom
    by_cases hk : (k == .cell) = true
    · rw [if_pos hk]
      refine ih (n + 1) _ x (h.elim (fun h => (List.mem_cons.mp h).elim (fun e => .inr ?_) .inl) fun h => .inr ?_)
      · rw [List.lookup_cons, (Prod.mk.inj e).1, beq_self_eq_true]; rfl
      · rw [List.lookup_cons]
        cases hx : x == y with
        | true => rfl
        | false => exact h
    · rw [if_neg hk]
      exact ih n _ x (h.elim (fun h => (List.mem_cons.mp h).elim (fun e => absurd ((Prod.mk.inj e).2 ▸ rfl) hk) .inl) .inr)

theorem bindL_out {kindOf : Str → Option NameKind} {x : Str} : ∀ {bs : List (Str × Value)} {m : Str → Option Value}, x ∉ bs.map (·.1) → bindL kindOf bs m x = m x := by
  intro bs
  induction bs with
  | nil => exact fun _ => rfl
  | cons p r ih =>
    intro m h
    rw [List.map_cons, List.mem_cons, not_or] at h
    refine (ih h.2).trans ?_
    by_cases hk : kindOf p.1 = some .local
    · rw [if_pos hk]; exact if_neg h.1
    · rw [if_neg hk]
theorem bindC_out {kindOf : Str → Option NameKind} {x : Str} : ∀ {bs : List (Str × Value)} {m : Str → Option Value}, x ∉ bs.map (·.1) → bindC kindOf bs m x = m x := by
  intro bs
  induction bs with
  | nil => exact fun _ => rfl
  | cons p r ih =>
    intro m h
    rw [List.map_cons, List.mem_cons, not_or] at h
    refine (ih h.2).trans ?_
    by_cases hk : kindOf p.1 = some .local
    · rw [if_pos hk]
    · rw [if_neg hk]; exact if_neg h.1
theorem bindL_in {kindOf : Str → Option NameKind} {x : Str} {v : Value} (hk : kindOf x = some .local) : ∀ {bs : List (Str × Value)} {m : Str → Option Value}, (bs.map (·.1)).Nodup → (x, v) ∈ bs → bindL kindOf bs m x = some v := by
  intro bs
  induction bs with
  | nil => exact fun _ hm => nomatch hm
  | cons p r ih =>
    intro m hn hm
    rw [List.map_cons, List.nodup_cons] at hn
    rcases List.mem_cons.mp hm with e | hm
    · subst e
      exact (bindL_out hn.1).trans (by rw [if_pos hk]; exact if_pos rfl)
    · exact ih hn.2 hm
theorem bindC_in {kindOf : Str → Option NameKind} {x : Str} {v : Value} (hk : kindOf x = some .cell) : ∀ {bs : List (Str × Value)} {m : Str → Option Value}, (bs.map (·.1)).Nodup → (x, v) ∈ bs → bindC kindOf bs m x = some v := by
  intro bs
  induction bs with
  | nil => exact fun _ hm => nomatch hm
  | cons p r ih =>
    intro m hn hm
    rw [List.map_cons, List.nodup_cons] at hn
    rcases List.mem_cons.mp hm with e | hm
    · subst e
      exact (bindC_out hn.1).trans (by rw [if_neg (by rw [hk]; decide)]; exact if_pos rfl)
    · exact ih hn.2 hm

/-- a def of the text, some names of which are captured -/
theorem callW_fnC {W : Wd} {sc : Scope} {nm ps : List Str} {f : Addr} {o : Obj} {fd : FuncData} {body : List Stmt} {x : TrS} (ho : W.base.get? f = some o) (hdat : o.data = .func fd) (hcd : W.base.CodeRec fd.code fd.qualname)
    (hbody : fd.body = .stmts body) (hsc : fd.scope = sc) (hgl : fd.globals = mainGlobals) (hbt : fd.builtins = builtinsNs) (hcl : fd.closure = [])
    (hk : sc.kind = .function) (hco : sc.isCoroutine = false) (hgen : sc.isGenerator = false) (hcell : (sc.names.all fun x => x.2 != .free) = true)
    (hbind : ∀ cvs : List Value, cvs.length = ps.length → bindArgs fd ⟨cvs, []⟩ = pure (ps.zip cvs)) (hps : (ps.all fun p => sc.names.lookup p == some .local || sc.names.lookup p == some .cell) = true) (hnm : nm.take ps.length = ps) (hnd : nm.Nodup)
    (hx : SndB W sc nm body x) {d : Nat} {args : List V} {H : List O} {Q : V → List O → Prop} (hlen : args.length = ps.length) (hq : Closed H → x d (initRho nm.length args) H fun fl _ H' => RetW H.length fl H' Q) :
    CallW W f (d + 1) args H Q := .mk fun A E s Φ μ cargs hA I B K hargs => by
  subst hsc
  have hl : cargs.length = ps.length := by rw [← hargs.length]; exact hlen
  have hnofree : ∀ x, fd.scope.names.lookup x ≠ some .free := fun x e => by
    have := List.all_eq_true.mp hcell _ (PySem.mem_of_lookup e)
    simp at this
  have hpn : ps.Nodup := by rw [← hnm]; exact hnd.sublist (List.take_sublist _ _)
  have hzk : ((ps.zip cargs).map (·.1)).Nodup := by rw [List.map_fst_zip (by lia)]; exact hpn
  have hcs : ∀ x, fd.scope.names.lookup x = some .cell → ((cellsFrom (s.heap.objs.size + 1) fd.scope.names []).lookup x).isSome = true := fun x e => cells_some _ _ _ _ (.inl (PySem.mem_of_lookup e))
  have hloc : ∀ y ∈ ps.zip cargs, fd.scope.names.lookup y.1 = some .local ∨ (fd.scope.names.lookup y.1 = some .cell ∧ ((cellsFrom (s.heap.objs.size + 1) fd.scope.names []).lookup y.1).isSome = true) := fun y hy => by
    have := List.all_eq_true.mp hps y.1 (List.of_mem_zip hy).1
    simp only [Bool.or_eq_true, beq_iff_eq] at this
    exact this.imp id fun h => ⟨h, hcs _ h⟩
  refine (codeAny_call_cells hA.lt (I.keep _ _ ho) hdat (W.nolimit.keeps I.keep) (hcd.keeps I.keep) hbody (hbind cargs hl) hcl hloc (fun s₁ hin => ?_) hco hgen hk)
  generalize henv : callEnvC fd s.heap.objs.size f = env at hin ⊢
  have e1 : env.locals = s.heap.objs.size := by rw [← henv]; rfl
  have e2 : env.scope = fd.scope := by rw [← henv]; rfl
  have e3 : env.globals = mainGlobals := by rw [← henv]; exact hgl
  have e4 : env.builtins = builtinsNs := by rw [← henv]; exact hbt
  have e5 : env.cells = cellsFrom (s.heap.objs.size + 1) fd.scope.names [] := by rw [← henv]; rfl
  obtain ⟨⟨⟨h₀, tk, rfl⟩, hns, hkeep, _⟩, hcellv, hapart, habove⟩ := hin
  have hsz0 : s.heap.objs.size < h₀.objs.size := by have := hns.lt; rw [e1] at this; exact this
  have hsz : s.heap.objs.size ≤ h₀.objs.size := Nat.le_of_lt hsz0
  have hfoot : ∀ a, Foot env a → s.heap.objs.size ≤ a ∧ a < h₀.objs.size := fun a ha => by
    rcases ha with rfl | ⟨x, e⟩
    · exact ⟨Nat.le_of_eq e1.symm, by rw [e1]; exact hsz0⟩
    · have h1 := habove x a (PySem.mem_of_lookup e)
      rw [e1] at h1
      exact ⟨Nat.le_of_lt h1, (hcellv x a e).lt⟩
  have hΦ : ∀ a, Out Φ env a → Φ a ∨ s.heap.objs.size ≤ a := fun a ha => ha.imp id fun hf => (hfoot a hf).1
  have hΦ' : ∀ a, Out Φ env a → a < h₀.objs.size := fun a ha => ha.elim (fun hp => Nat.lt_of_lt_of_le (B a hp) hsz) fun hf => (hfoot a hf).2
  have K₀ : HOk W h₀ (Out Φ env) μ H := (K.more hΦ).grow hkeep hsz
  have mv : Mv s.heap (Out Φ env) μ h₀ μ := (Ext.grow hkeep hsz).mv (K.more hΦ)
  have hko : ∀ x, env.kindOf x = fd.scope.names.lookup x := fun x => by show env.scope.names.lookup x = _; rw [e2]
  have hat : ∀ {i : Nat} {y : Str} {v : V}, nm[i]? = some y → (initRho nm.length args)[i]? = some (some v) → ∃ cv, (y, cv) ∈ ps.zip cargs ∧ VOk h₀ (Out Φ env) μ v cv := fun {i y v} h1 h3 => by
    have h4 := initRho_at h3
    obtain ⟨cv, h5, h6⟩ := hargs.at h4
    have hi : i < ps.length := by have := (List.getElem?_eq_some_iff.mp h4).1; lia
    have h7 : ps[i]? = some y := by rw [← hnm, List.getElem?_take_of_lt hi]; exact h1
    exact ⟨cv, List.mem_of_getElem? (i := i) (by rw [List.getElem?_zip_eq_some]; exact ⟨h7, h5⟩), (h6.more hΦ).mv mv⟩
  have S₀ : St W env nm Φ { s with heap := h₀, toks := tk } μ (initRho nm.length args) H := by
    refine ⟨⟨fun b o e => hkeep b o (I.keep b o e), I.gens, I.os, Nat.le_trans I.size hsz⟩, hΦ', K₀, ⟨hnd, ?_, ⟨_, hns, ?_⟩, ?_, ?_, ?_⟩, ?_, ?_, ?_⟩
    · unfold initRho
      have hle : ps.length ≤ nm.length := by rw [← hnm, List.length_take]; exact Nat.min_le_right _ _
      rw [List.length_append, List.length_map, List.length_replicate, hlen]; lia
    · intro i y v h1 h2 h3
      obtain ⟨cv, h4, h5⟩ := hat h1 h3
      exact ⟨cv, bindL_in h2 hzk h4, h5⟩
    · intro i y v h1 h2 h3
      obtain ⟨cv, h4, h5⟩ := hat h1 h3
      have hc : env.kindOf y = some .cell := h2.elim id fun h => absurd (by rw [← hko]; exact h) (hnofree y)
      obtain ⟨c, hc'⟩ := Option.isSome_iff_exists.mp (hcs y (by rw [← hko]; exact hc))
      rw [← e5] at hc'
      refine ⟨c, cv, hc', ?_, h5⟩
      have := hcellv y c hc'
      rwa [bindC_in hc hzk h4] at this
    · intro x c e
      exact ⟨⟨_, hcellv x c e⟩, Nat.ne_of_gt (habove x c (PySem.mem_of_lookup e))⟩
    · intro x y c ex ey
      exact PySem.name_of_addr hapart (PySem.mem_of_lookup ex) (PySem.mem_of_lookup ey)
    · intro a ha; exact Nat.le_trans I.size (hfoot a ha).1
    · intro a ha hp; exact Nat.lt_irrefl _ (Nat.lt_of_lt_of_le (B a hp) (hfoot a ha).1)
    · intro x e
      obtain ⟨c, hc'⟩ := Option.isSome_iff_exists.mp (hcs x (by rw [← hko]; exact e))
      exact ⟨c, by rw [e5]; exact hc'⟩
  have hA' : OkA d (A.deeper env) := ⟨hA.handled, by have := hA.depth; show A.depth + 1 + d ≤ 900; lia, by have := hA.units; show A.units + 3 + 20 * d ≤ 8000; lia⟩
  refine wpAny_mono (hx.go _ d _ _ _ _ Φ μ _ H ⟨e2, e3, e4⟩ hA' S₀ (hq K.closed)) (fun fl s' p => ?_) fun _ _ x => x
  have r := ret_ok (env := env) (fun b o e => ⟨hkeep b o e, fun hf => Nat.lt_irrefl _ (Nat.lt_of_lt_of_le (Heap.lt_size e) (hfoot b hf).1)⟩) hsz K.len p
  cases fl <;> exact r

/-- what a function's own data say, for a call of it (the world and the place apart: a method too) -/
noncomputable def fdPs (fd : FuncData) : List Str := fd.params.args.map (·.arg)
noncomputable def fdBody (fd : FuncData) : List Stmt := match fd.body with | .stmts b => b | _ => []
noncomputable def fdNames (fd : FuncData) : List Str := fdPs fd ++ (fd.scope.names.filterMap fun (n, k) => if (k == .local || k == .cell) && !(fdPs fd).contains n then some n else none)
noncomputable def parOk (p : Arguments) : Bool := p.posonlyargs.isEmpty && (p.vararg.isNone && (p.kwonlyargs.isEmpty && (p.kw_defaults.isEmpty && (p.kwarg.isNone && p.defaults.isEmpty))))
theorem parOk_spec {p : Arguments} (h : parOk p = true) : p = ⟨[], p.args, none, [], [], none, []⟩ := by
  obtain ⟨a, b, c, d, e, f, g⟩ := p
  obtain ⟨h1, h⟩ := Bool.and_eq_true_iff.mp h
  obtain ⟨h2, h⟩ := Bool.and_eq_true_iff.mp h
  obtain ⟨h3, h⟩ := Bool.and_eq_true_iff.mp h
  obtain ⟨h4, h⟩ := Bool.and_eq_true_iff.mp h
  obtain ⟨h5, h6⟩ := Bool.and_eq_true_iff.mp h
  rw [show a = [] from List.isEmpty_iff.mp h1, show c = none from Option.isNone_iff_eq_none.mp h2, show d = [] from List.isEmpty_iff.mp h3, show e = [] from List.isEmpty_iff.mp h4, show f = none from Option.isNone_iff_eq_none.mp h5, show g = [] from List.isEmpty_iff.mp h6]
noncomputable def isNoneV : Value → Bool
  | .none => true
  | _ => false
theorem isNoneV_spec {v : Value} (h : isNoneV v = true) : v = .none := by cases v <;> first | rfl | cases h
noncomputable def isStmts : FuncBody → Bool
  | .stmts _ => true
  | _ => false
noncomputable def fdCheck (K : Frag) (fd : FuncData) : Bool := isStmts fd.body && (parOk fd.params && (fd.globals == mainGlobals && (fd.builtins == builtinsNs && (fd.closure.isEmpty && (isNoneV fd.defaults && (codeIn K fd.code fd.qualname &&
  (fd.scope.kind == .function && (!fd.scope.isCoroutine && (!fd.scope.isGenerator && ((fd.scope.names.all fun x => x.2 != .free) && (((fdPs fd).all fun p => fd.scope.names.lookup p == some .local || fd.scope.names.lookup p == some .cell) && decide (fdNames fd).Nodup)))))))))))

theorem callW_fd {W : Wd} {K : Frag} (hK : K.In W.base) {a : Addr} {o : Obj} {fd : FuncData} {t : TrS} (h2 : W.base.get? a = some o) (h3 : o.data = .func fd) (hc : fdCheck K fd = true) (hx : SndB W fd.scope (fdNames fd) (fdBody fd) t) {d : Nat} {args : List V} {H : List O} {Q : V → List O → Prop}
    (hlen : args.length = (fdPs fd).length) (hq : Closed H → t d (initRho (fdNames fd).length args) H fun fl _ H' => RetW H.length fl H' Q) : CallW W a (d + 1) args H Q := by
  obtain ⟨a1, hc⟩ := Bool.and_eq_true_iff.mp hc
  obtain ⟨a2, hc⟩ := Bool.and_eq_true_iff.mp hc
  obtain ⟨c1, hc⟩ := Bool.and_eq_true_iff.mp hc
  obtain ⟨c2, hc⟩ := Bool.and_eq_true_iff.mp hc
  obtain ⟨c3, hc⟩ := Bool.and_eq_true_iff.mp hc
  obtain ⟨c4, hc⟩ := Bool.and_eq_true_iff.mp hc
  obtain ⟨c5, hc⟩ := Bool.and_eq_true_iff.mp hc
  obtain ⟨c6, hc⟩ := Bool.and_eq_true_iff.mp hc
  obtain ⟨c7, hc⟩ := Bool.and_eq_true_iff.mp hc
  obtain ⟨c8, hc⟩ := Bool.and_eq_true_iff.mp hc
  obtain ⟨c9, hc⟩ := Bool.and_eq_true_iff.mp hc
  obtain ⟨c10, c11⟩ := Bool.and_eq_true_iff.mp hc
  have e1 : fd.body = .stmts (fdBody fd) := by
    unfold fdBody
    cases eb : fd.body with
    | stmts b => rfl
    | expr b => rw [eb] at a1; cases a1
  have hnd := of_decide_eq_true c11
  have hpn : (fdPs fd).Nodup := (List.nodup_append.mp (show (fdPs fd ++ _).Nodup from hnd)).1
  exact callW_fnC (sc := fd.scope) (nm := fdNames fd) (ps := fdPs fd) (body := fdBody fd) h2 h3 (codeRec_of hK c5) e1 rfl (eq_of_beq c1) (eq_of_beq c2) (List.isEmpty_iff.mp c3) (eq_of_beq c6) (Bool.not_eq_true' _ ▸ c7) (Bool.not_eq_true' _ ▸ c8) c9
    (fun cvs hl => bind_pos (parOk_spec a2) (isNoneV_spec c4) hpn hl) c10 (List.take_left' rfl) hnd hx hlen hq

/-! ## M14 -/
section
variable {W : Wd} {sc : Scope} {nm : List Str} {env : Env} {Φ : Addr → Prop} {s s' : Shared} {μ μ' : Mu} {ρ : Rho} {H H' : List O} {A : Around} {E : Value → Shared → Prop}

/-- one object is turned -/
theorem St.setObj (S : St W env nm Φ s μ ρ H) {i : Nat} {p : Addr × Addr} {o' : O} (hp : μ[i]? = some p) {h' : Heap} {t : Nat} (hk : ∀ b o, b ≠ p.1 → b ≠ p.2 → s.heap.get? b = some o → h'.get? b = some o) (hs : s.heap.objs.size ≤ h'.objs.size)
    (ho : OOk W h' (Out Φ env) μ p o') : St W env nm Φ { s with heap := h', toks := t } μ ρ (H.set i o') ∧ Ext s.heap μ h' μ := by
  have hne : ∀ b, ¬ FP μ b → b ≠ p.1 ∧ b ≠ p.2 := fun b hb => ⟨fun e => hb (e ▸ (FP.at hp).1), fun e => hb (e ▸ (FP.at hp).2)⟩
  have x : Ext s.heap μ h' μ := ⟨⟨[], by simp, fun _ ha => absurd ha FP.nil⟩, hs, fun b o e hf => hk b o (hne b hf).1 (hne b hf).2 e⟩
  have mv := x.mv S.hok
  have K : HOk W h' (Out Φ env) μ (H.set i o') := by
    refine ⟨by rw [List.length_set]; exact S.hok.len, S.hok.sep, S.hok.above, fun j o hj => ?_⟩
    by_cases hij : i = j
    · subst hij
      have hl := (List.getElem?_eq_some_iff.mp hj).1
      rw [List.length_set] at hl
      rw [List.getElem?_set_self hl] at hj
      exact Option.some.inj hj ▸ ⟨p, hp, ho⟩
    · rw [List.getElem?_set_ne hij] at hj
      obtain ⟨q, hq, hok⟩ := S.hok.obj j o hj
      have h1 := fun e => hij (S.hok.sep i j p q hp hq e)
      exact ⟨q, hq, hok.mv mv (fun o e => hk q.1 o (fun e => h1 (.inl e.symm)) (fun e => h1 (.inr (.inr (.inl e.symm)))) e) (fun o e => hk q.2 o (fun e => h1 (.inr (.inl e.symm))) (fun e => h1 (.inr (.inr (.inr e.symm)))) e)⟩
  exact ⟨S.ext (s' := { s with heap := h', toks := t }) x K rfl rfl, x⟩

/-- a new object -/
theorem St.newObj (S : St W env nm Φ s μ ρ H) {p : Addr × Addr} {o : O} {h' : Heap} {t : Nat} (hp1 : s.heap.objs.size ≤ p.1) (hp2 : s.heap.objs.size ≤ p.2) (hk : ∀ b o, s.heap.get? b = some o → h'.get? b = some o) (hs : s.heap.objs.size ≤ h'.objs.size)
    (ho : OOk W h' (Out Φ env) (μ ++ [p]) p o) : St W env nm Φ { s with heap := h', toks := t } (μ ++ [p]) ρ (H ++ [o]) ∧ Ext s.heap μ h' (μ ++ [p]) := by
  have hfp : ∀ a, FP [p] a → s.heap.objs.size ≤ a := fun a ⟨q, hq, hqa⟩ => by
    rw [List.mem_singleton.mp hq] at hqa
    exact hqa.elim (fun e => e ▸ hp1) fun e => e ▸ hp2
  have x : Ext s.heap μ h' (μ ++ [p]) := ⟨⟨[p], rfl, hfp⟩, hs, fun b o e _ => hk b o e⟩
  have mv := x.mv S.hok
  have hold : ∀ {j : Nat} {q : Addr × Addr}, μ[j]? = some q → q.1 < s.heap.objs.size ∧ q.2 < s.heap.objs.size := fun hq => ⟨S.hok.lt (FP.at hq).1, S.hok.lt (FP.at hq).2⟩
  have hat : ∀ {j : Nat} {q : Addr × Addr}, (μ ++ [p])[j]? = some q → (j < μ.length ∧ μ[j]? = some q) ∨ (j = μ.length ∧ q = p) := by
    intro j q hq
    by_cases hj : j < μ.length
    · left
      rw [List.getElem?_append_left hj] at hq
      exact ⟨hj, hq⟩
    · right
      rw [List.getElem?_append_right (by lia)] at hq
      have hjl := (List.getElem?_eq_some_iff.mp hq).1
      have hj0 : j - μ.length = 0 := by simpa using hjl
      rw [hj0] at hq
      exact ⟨by lia, by simpa using hq.symm⟩
  have K : HOk W h' (Out Φ env) (μ ++ [p]) (H ++ [o]) := by
    refine ⟨by rw [List.length_append, List.length_append, S.hok.len]; rfl, ?_, ?_, ?_⟩
    · intro j k q r hq hr hqr
      rcases hat hq with ⟨h1, h2⟩ | ⟨h1, rfl⟩ <;> rcases hat hr with ⟨h3, h4⟩ | ⟨h3, rfl⟩
      · exact S.hok.sep j k q r h2 h4 hqr
      · obtain ⟨a, b⟩ := hold h2
        exfalso
        rcases hqr with e | e | e | e
        · exact Nat.lt_irrefl _ (Nat.lt_of_lt_of_le a (e ▸ hp1))
        · exact Nat.lt_irrefl _ (Nat.lt_of_lt_of_le a (e ▸ hp2))
        · exact Nat.lt_irrefl _ (Nat.lt_of_lt_of_le b (e ▸ hp1))
        · exact Nat.lt_irrefl _ (Nat.lt_of_lt_of_le b (e ▸ hp2))
      · obtain ⟨a, b⟩ := hold h4
        exfalso
        rcases hqr with e | e | e | e
        · exact Nat.lt_irrefl _ (Nat.lt_of_lt_of_le a (e ▸ hp1))
        · exact Nat.lt_irrefl _ (Nat.lt_of_lt_of_le b (e ▸ hp1))
        · exact Nat.lt_irrefl _ (Nat.lt_of_lt_of_le a (e ▸ hp2))
        · exact Nat.lt_irrefl _ (Nat.lt_of_lt_of_le b (e ▸ hp2))
      · lia
    · intro a ha
      rcases FP.app.mp ha with ha | ha
      · exact S.hok.above a ha
      · exact ⟨Nat.le_trans S.inv.size (hfp a ha), fun hp => Nat.lt_irrefl _ (Nat.lt_of_lt_of_le (S.below a hp) (hfp a ha))⟩
    · intro j oo hoo
      by_cases hj : j < H.length
      · rw [List.getElem?_append_left hj] at hoo
        obtain ⟨q, hq, hok⟩ := S.hok.obj j oo hoo
        exact ⟨q, by rw [List.getElem?_append_left (by rw [S.hok.len]; exact hj)]; exact hq, hok.mv mv (fun o e => hk _ o e) fun o e => hk _ o e⟩
      · rw [List.getElem?_append_right (by lia)] at hoo
        have hjl := (List.getElem?_eq_some_iff.mp hoo).1
        have hj0 : j - H.length = 0 := by simpa using hjl
        rw [hj0] at hoo
        have : oo = o := by simpa using hoo.symm
        subst this
        exact ⟨p, by rw [List.getElem?_append_right (by rw [S.hok.len]; lia), S.hok.len, hj0]; rfl, ho⟩
  exact ⟨S.ext (s' := { s with heap := h', toks := t }) x K rfl rfl, x⟩

/-- a new list, of what reads -/
theorem St.newList (S : St W env nm Φ s μ ρ H) {vs : List Value} {ds : List PyData} {as : List Addr} (r : ReadsAll s.heap vs ds as) (ho : Off (Out Φ env) μ as) {h' : Heap} {t : Nat} {a : Addr} (ha : s.heap.objs.size ≤ a) (hk : ∀ b o, s.heap.get? b = some o → h'.get? b = some o)
    (hs : s.heap.objs.size ≤ h'.objs.size) (hl : h'.PlainList a vs.toArray) : St W env nm Φ { s with heap := h', toks := t } (μ ++ [(a, a)]) ρ (H ++ [.list ds]) ∧ Ext s.heap μ h' (μ ++ [(a, a)]) ∧ VOk h' (Out Φ env) (μ ++ [(a, a)]) (.ref H.length) (.ref a) := by
  have hoff : Off (Out Φ env) (μ ++ [(a, a)]) as := off_new ho (readsAll_lt r) fun b ⟨q, hq, hqa⟩ => by
    rw [List.mem_singleton.mp hq] at hqa
    exact hqa.elim (fun e => e ▸ ha) fun e => e ▸ ha
  obtain ⟨S', x⟩ := S.newObj (p := (a, a)) (o := .list ds) (t := t) ha ha hk hs ⟨rfl, vs.toArray, as, hl, by simpa using ReadsAll.keeps hk r, hoff⟩
  exact ⟨S', x, (a, a), by rw [← S.hok.len]; simp, rfl⟩

noncomputable def t_snd_listm (xs : TrL) : Tr := fun d ρ H Q => xs d ρ H fun vs H => withD vs fun ds => guard (Nat.ble ds.length 65536) (Q (.ref H.length) (H ++ [.list ds]))
/-- a list display that is turned behind it -/
theorem snd_listm {es : List Expr} {pos} {xs : TrL} (h : SndL W sc nm es xs) : SndE W sc nm (.List es pos) (t_snd_listm xs) :=
  .mk fun Q d A E s env Φ μ ρ H hE hA S hq => by
    refine wpAny_List_spliced (wpAny_mono (h.go pos _ d A E s env Φ μ ρ H hE hA S hq) (fun cvs s₁ p => ?_) fun _ _ x => x)
    refine PostEs.use p fun vs H₁ μ₁ S₁ x₁ hvs hq => ?_
    clear p
    obtain ⟨ds, hds, hq⟩ := withD_some hq
    obtain ⟨hle, hq⟩ := gd_elim hq
    obtain ⟨as, hr, ho⟩ := allD_ok hvs hds
    have hlen : cvs.length = ds.length := readsAll_len hr
    refine ⟨by rw [sizeLine_eq]; lia, ?_⟩
    have g : ∀ b o, s₁.heap.get? b = some o → (s₁.heap.push { cls := .type "list", data := .seq cvs.toArray }).get? b = some o := fun b o e => Heap.get?_push_of_some _ e
    obtain ⟨S₂, x₂, hv⟩ := S₁.newList hr ho (a := s₁.heap.objs.size) (t := s₁.toks) (Nat.le_refl _) g (by rw [Heap.size_push]; exact Nat.le_succ _) ⟨0, Heap.get?_push_size _ rfl⟩
    exact ⟨.ref H₁.length, _, _, S₂, x₁.trans x₂, hv, hq⟩

/-! ### lists turned -/
@[reducible, simp] noncomputable def O.onL (o : O) (Q : List PyData → Prop) : Prop := match o with
  | .list l => Q l
  | _ => False
noncomputable def lstV0 (v : V) (H : List O) (Q : Nat → List PyData → Prop) : Prop := match v with
  | .ref i => (match H[i]? with | some o => o.onL (Q i) | none => False)
  | _ => False
structure lstV (v : V) (H : List O) (Q : Nat → List PyData → Prop) : Prop where
  mk ::
  go : lstV0 v H Q
theorem lstV_some {v : V} {H : List O} {Q : Nat → List PyData → Prop} (h : lstV v H Q) : ∃ i l, v = .ref i ∧ H[i]? = some (.list l) ∧ Q i l := by
  replace h := h.go
  cases v with
  | d x => exact False.elim h
  | ref i =>
    have h : (match H[i]? with | some o => o.onL (Q i) | none => False) := h
    cases e : H[i]? with
    | none => rw [e] at h; exact False.elim h
    | some o => rw [e] at h; cases o <;> first | exact False.elim h | exact ⟨i, _, rfl, e, h⟩

/-- the list behind a turn -/
theorem St.turnList (S : St W env nm Φ s μ ρ H) {i : Nat} {l l' : List PyData} {p : Addr × Addr} (hi : H[i]? = some (.list l)) (hp : μ[i]? = some p) {h' : Heap} {t : Nat} {vs' : Array Value} {as : List Addr} (hs : Heap.SameBut p.1 s.heap h') (hl : h'.PlainList p.1 vs')
    (r : ReadsAll s.heap vs'.toList l' as) (ho : Off (Out Φ env) μ as) : St W env nm Φ { s with heap := h', toks := t } μ ρ (H.set i (.list l')) ∧ Ext s.heap μ h' μ := by
  obtain ⟨hpp, vs, as0, hl0, _, _⟩ := S.hok.list hi hp
  refine S.setObj hp (fun b o h1 _ e => (hs.2 b h1).trans e) (Nat.le_of_eq hs.1.symm) ⟨hpp, vs', as, hl, ?_, ho⟩
  refine readsAll_move (fun b => ¬ Out Φ env b ∧ ¬ FP μ b) (fun b o e hp' => ?_) r ho
  refine (hs.2 b fun q => ?_).trans e
  subst q
  exact hp'.elim (fun ht => PlainList.notTup hl0 o e ht) fun hp' => hp'.2 (FP.at hp).1

theorem list_off (S : St W env nm Φ s μ ρ H) {i : Nat} {l : List PyData} (hi : H[i]? = some (.list l)) : ∃ p vs as, μ[i]? = some p ∧ s.heap.PlainList p.1 vs ∧ ReadsAll s.heap vs.toList l as ∧ Off (Out Φ env) μ as := by
  obtain ⟨p, hp, _⟩ := S.hok.obj i _ hi
  obtain ⟨_, vs, as, a, b, c⟩ := S.hok.list hi hp
  exact ⟨p, vs, as, hp, a, b, c⟩

theorem readsAll_app {h : Heap} {vs ws : List Value} {ds es : List PyData} {as bs : List Addr} (r : ReadsAll h vs ds as) (q : ReadsAll h ws es bs) : ReadsAll h (vs ++ ws) (ds ++ es) (as ++ bs) :=
  readsAll_ind (fun vs ds as => ReadsAll h (vs ++ ws) (ds ++ es) (as ++ bs)) q (fun {v vs d ds as cs} h1 _ ih => (List.append_assoc as cs bs).symm ▸ ReadsAll.cons h1 ih) r
theorem Off.app {Φ : Addr → Prop} {μ : Mu} {as bs : List Addr} (h : Off Φ μ as) (q : Off Φ μ bs) : Off Φ μ (as ++ bs) := fun a ha => (List.mem_append.mp ha).elim (h a) (q a)

theorem readsAll_uncons {h : Heap} {vs : List Value} {d : PyData} {ds : List PyData} {as : List Addr} (r : ReadsAll h vs (d :: ds) as) : ∃ v ws bs cs, vs = v :: ws ∧ Reads h v d bs ∧ ReadsAll h ws ds cs ∧ as = bs ++ cs := reads_cons r
theorem readsAll_unapp {h : Heap} {es : List PyData} (ds : List PyData) : ∀ {vs : List Value} {as : List Addr}, ReadsAll h vs (ds ++ es) as → ∃ ws zs bs cs, vs = ws ++ zs ∧ ReadsAll h ws ds bs ∧ ReadsAll h zs es cs ∧ as = bs ++ cs := by
  induction ds with
  | nil => exact fun {vs as} r => ⟨[], vs, [], as, rfl, .nil, r, rfl⟩
  | cons d ds ih => exact fun r => let ⟨v, ws, bs, cs, e, h1, h2, e'⟩ := reads_cons r; let ⟨ws', zs, bs', cs', f, h3, h4, f'⟩ := ih h2; ⟨v :: ws', zs, bs ++ bs', cs', e.trans (congrArg _ f), .cons h1 h3, h4, e'.trans ((congrArg _ f').trans (List.append_assoc ..).symm)⟩

theorem extend_listW (l : Addr) (items : Array Value) (n : Nat) (b : Addr) (items2 : Array Value) (n2 : Nat) (dd : Option Addr) (sl : Array (Option Value)) (hc0 : ¬(!items.isEmpty && Builtin.List.listTooLong (items.size + items2.size)) = true) (hc1 : items.size ≤ sizeLine) (hs2 : items.size + items2.size ≤ sizeLine + 1) :
    Meets (Builtin.«list.extend» ⟨[.ref l, .ref b], []⟩) (fun _ R s => s.heap.get? l = some { cls := .type "list", dict := none, data := .seq items n, slots := #[] } ∧ s.heap.get? b = some { cls := .type "list", dict := dd, data := .seq items2 n2, slots := sl } ∧ R (.ok (.ret Value.none)) { s with heap := s.heap.update l (Obj.mapSeq fun x => x ++ items2), toks := s.toks }) :=
  .of_wp fun prog w A R s h => by
    obtain ⟨hp, g, d, tk, os⟩ := s; obtain ⟨hl, hb, h⟩ := h; have f1 := AutoSeq1.idx_int; have f2 := AutoSeq1.sub_tuple_tuple; have f3 := AutoSeq1.sub_list_list; have f4 := AutoSeq1.sub_tuple_list; have f5 := AutoSeq1.sub_list_tuple;
    have hz' : (items ++ items2).size ≤ sizeLine + 1 := by rw [Array.size_append]; exact hs2
    wp_walk using (wpAny_updateSeq hl rfl (hz := hc1) (_hz' := hz')), wpAny_loadPart' hl, wpAny_loadPart' hb; exact ⟨_, rfl, h⟩
theorem extend_tupleW (l : Addr) (items : Array Value) (n : Nat) (b : Addr) (items2 : Array Value) (n2 : Nat) (dd : Option Addr) (sl : Array (Option Value)) (hc0 : ¬(!items.isEmpty && Builtin.List.listTooLong (items.size + items2.size)) = true) (hc1 : items.size ≤ sizeLine) (hs2 : items.size + items2.size ≤ sizeLine + 1) :
    Meets (Builtin.«list.extend» ⟨[.ref l, .ref b], []⟩) (fun _ R s => s.heap.get? l = some { cls := .type "list", dict := none, data := .seq items n, slots := #[] } ∧ s.heap.get? b = some { cls := .type "tuple", dict := dd, data := .seq items2 n2, slots := sl } ∧ R (.ok (.ret Value.none)) { s with heap := s.heap.update l (Obj.mapSeq fun x => x ++ items2), toks := s.toks }) :=
  .of_wp fun prog w A R s h => by
    obtain ⟨hp, g, d, tk, os⟩ := s; obtain ⟨hl, hb, h⟩ := h; have f1 := AutoSeq1.idx_int; have f2 := AutoSeq1.sub_tuple_tuple; have f3 := AutoSeq1.sub_list_list; have f4 := AutoSeq1.sub_tuple_list; have f5 := AutoSeq1.sub_list_tuple;
    have hz' : (items ++ items2).size ≤ sizeLine + 1 := by rw [Array.size_append]; exact hs2
    wp_walk using (wpAny_updateSeq hl rfl (hz := hc1) (_hz' := hz')), wpAny_loadPart' hl, wpAny_loadPart' hb; exact ⟨_, rfl, h⟩
end

/-! ## M15 -/
section
variable {W : Wd} {sc : Scope} {nm : List Str}

theorem trees1 {e : Expr} (h : plainArgs [e] = true) (env : Env) (pos : Pos) : backTo pos (starEach [e] env) = [(false, eval e env)] := by
  have h' : isStarred e = false := by simpa [plainArgs] using h
  rw [star1 h']; rfl
theorem trees2 {e f : Expr} (h : plainArgs [e, f] = true) (env : Env) (pos : Pos) : backTo pos (starEach [e, f] env) = [(false, eval e env), (false, eval f env)] := by
  have h' : isStarred e = false ∧ isStarred f = false := by simpa [plainArgs] using h
  rw [star1 h'.1, star1 h'.2]; rfl

noncomputable def oneD (v : V) (Q : PyData → Prop) : Prop := match v with | .d z => Q z | .ref _ => False
theorem oneD_some {v : V} {Q : PyData → Prop} (h : oneD v Q) : ∃ z, v = .d z ∧ Q z := by
  cases v with
  | d z => exact ⟨z, rfl, h⟩
  | ref i => exact h.elim

theorem list_ref {env : Env} {Φ : Addr → Prop} {s : Shared} {μ : Mu} {ρ : Rho} {H : List O} {i : Nat} {l : List PyData} {cv : Value} (S : St W env nm Φ s μ ρ H) (hi : H[i]? = some (.list l)) (hv : VOk s.heap (Out Φ env) μ (.ref i) cv) :
    ∃ p vs as n, cv = .ref p.1 ∧ μ[i]? = some p ∧ IsL s.heap p.1 vs n ∧ ReadsAll s.heap vs.toList l as ∧ Off (Out Φ env) μ as := by
  obtain ⟨p, vs, as, hp, ⟨n, hl⟩, hr, ho⟩ := list_off S hi
  obtain ⟨q, hq, rfl⟩ := hv
  rw [hp] at hq; cases hq
  exact ⟨p, vs, as, n, rfl, hp, hl, hr, ho⟩
theorem list_size {h : Heap} {vs : Array Value} {l : List PyData} {as : List Addr} (r : ReadsAll h vs.toList l as) : vs.size = l.length := by
  have := readsAll_len r; simpa using this

noncomputable def t_snd_append (x : Tr) (y : Tr) : Tr := fun d ρ H Q => x d ρ H fun v1 H => lstV v1 H fun _ _ => y d ρ H fun v2 H => lstV v1 H fun i l => oneD v2 fun z => l.length ≤ 65536 ∧ Q (.d .none) (H.set i (.list (l ++ [z])))
theorem snd_append {o e : Expr} {apos pos : Pos} {x y : Tr} (h1 : SndE W sc nm o x) (h2 : SndE W sc nm e y) (hline : (apos.endLine == pos.line) = true) (hp : plainArgs [e] = true)
    (hbase : ∀ env, attributeBase o "append" env (eval o env) = eval o env := by intro _; rfl) :
    SndE W sc nm (.Call (.Attribute o "append" apos) [e] [] pos) (t_snd_append x y) :=
  .mk fun Q d A E s env Φ μ ρ H hE hA S hq => by
    refine wpAny_Call_method1_late (hbase env) hline (trees1 hp env pos) (wpAny_mono (h1.go _ d A E s env Φ μ ρ H hE hA S hq) (fun ov s₁ p => ?_) fun _ _ x => x)
    refine PostE.use p fun v1 H₁ μ₁ S₁ x₁ hv1 hq => ?_
    clear p
    obtain ⟨i, l, rfl, hi, hq⟩ := lstV_some hq
    obtain ⟨p, vs, as, n, rfl, hp1, hl, _, _⟩ := list_ref S₁ hi hv1
    refine ⟨"list", "list.append", PySem.F.plainAttrs_list, PySem.F.slot_list_append, PySem.F.type_list_append, ⟨_, hl, rfl⟩, fun a e => by cases e; exact ⟨_, hl, rfl⟩, P.append_list (wpAny_mono (h2.go _ d A E s₁ env Φ μ₁ ρ H₁ hE hA S₁ hq) (fun v s₂ p => ?_) fun _ _ x => x)⟩
    refine PostE.use p fun v2 H₂ μ₂ S₂ x₂ hv2 hq => ?_
    clear p
    obtain ⟨j, l2, e, hi2, hq⟩ := lstV_some hq
    cases e
    obtain ⟨z, rfl, hle, hq⟩ := oneD_some hq
    obtain ⟨q, vs2, as2, n2, e, hq2, hl2, hr2, ho2⟩ := list_ref S₂ hi2 (hv1.mv (x₂.mv S₁.hok))
    have hpq : p.1 = q.1 := Value.ref.inj e
    rw [hpq]
    obtain ⟨bs, rz, oz⟩ := hv2
    have hsz := list_size hr2
    have hbig := sizeLine_big
    refine ⟨vs2, n2, by lia, hl2, ?_⟩
    have u := IsL.update hl2 (fun xs => xs.push v)
    obtain ⟨S₃, x₃⟩ := S₂.turnList hi2 hq2 (t := s₂.toks) (Heap.SameBut.update ..) ⟨_, u⟩ (by rw [Array.toList_push]; exact readsAll_push rz hr2) (Off.app ho2 (Off.app oz fun a ha => by cases ha))
    exact ⟨.d .none, _, μ₂, S₃, (x₁.trans x₂).trans x₃, vok_val .none, hq⟩

noncomputable def t_snd_pop (x : Tr) : Tr := fun d ρ H Q => x d ρ H fun v1 H => lstV v1 H fun i l => l.length ≤ 65536 ∧ ∃ l' z, l = l' ++ [z] ∧ Q (.d z) (H.set i (.list l'))
theorem snd_pop {o : Expr} {apos pos : Pos} {x : Tr} (h1 : SndE W sc nm o x) (hline : (apos.endLine == pos.line) = true)
    (hbase : ∀ env, attributeBase o "pop" env (eval o env) = eval o env := by intro _; rfl) :
    SndE W sc nm (.Call (.Attribute o "pop" apos) [] [] pos) (t_snd_pop x) :=
  .mk fun Q d A E s env Φ μ ρ H hE hA S hq => by
    refine wpAny_Call_method0_late (hbase env) hline (wpAny_mono (h1.go _ d A E s env Φ μ ρ H hE hA S hq) (fun ov s₁ p => ?_) fun _ _ x => x)
    refine PostE.use p fun v1 H₁ μ₁ S₁ x₁ hv1 hq => ?_
    clear p
    obtain ⟨i, l, rfl, hi, hle, l', z, rfl, hq⟩ := lstV_some hq
    obtain ⟨p, vs, as, n, rfl, hp1, hl, hr, ho⟩ := list_ref S₁ hi hv1
    obtain ⟨ws, zs, bs, cs, e1, r1, r2, rfl⟩ := readsAll_unapp _ hr
    obtain ⟨zv, zr, bs2, cs2, rfl, rz, r3, rfl⟩ := readsAll_uncons r2
    obtain ⟨rfl, rfl⟩ := reads_nil r3 rfl
    have hsz := list_size hr
    have hbig := sizeLine_big
    have hws : ws.length = vs.size - 1 := by
      have h2 : vs.toList.length = (ws ++ [zv]).length := by rw [e1]
      simp only [Array.length_toList, List.length_append, List.length_singleton] at h2
      lia
    have hget : vs[vs.size - 1]? = some zv := by
      rw [← Array.getElem?_toList, e1, ← hws]
      simp
    refine ⟨"list", "list.pop", PySem.F.plainAttrs_list, PySem.F.slot_list_pop, PySem.F.type_list_pop, ⟨_, hl, rfl⟩, fun a e => by cases e; exact ⟨_, hl, rfl⟩, P.pop_list hl hget ?_ (by lia)⟩
    have u := IsL.update hl (fun xs => xs.eraseIdxIfInBounds (vs.size - 1))
    have hvs : (vs.eraseIdxIfInBounds (vs.size - 1)).toList = ws := by
      rw [Array.toList_eraseIdxIfInBounds, e1, ← hws, List.eraseIdx_append_of_length_le (Nat.le_refl _), Nat.sub_self]
      show ws ++ [] = ws
      exact List.append_nil _
    obtain ⟨S₂, x₂⟩ := S₁.turnList hi hp1 (t := s₁.toks) (as := bs) (l' := l') (Heap.SameBut.update ..) ⟨_, u⟩ (by rw [hvs]; exact r1) (fun a ha => ho a (List.mem_append.mpr (.inl ha)))
    have mv := x₂.mv S₁.hok
    refine ⟨.d z, _, μ₁, S₂, x₁.trans x₂, ?_, hq⟩
    have hz : VOk s₁.heap (Out Φ env) μ₁ (.d z) zv := ⟨bs2, rz, fun a ha => ho a (List.mem_append.mpr (.inr (List.mem_append.mpr (.inl ha))))⟩
    exact hz.mv mv

noncomputable def t_snd_pop0 (x : Tr) : Tr := fun d ρ H Q => x d ρ H fun v1 H => lstV v1 H fun i l => l.length ≤ 65536 ∧ ∃ z l', l = z :: l' ∧ Q (.d z) (H.set i (.list l'))
theorem snd_pop0 {o : Expr} {apos pos : Pos} {k ip} {x : Tr} (h1 : SndE W sc nm o x) (hline : (apos.endLine == pos.line) = true)
    (hbase : ∀ env, attributeBase o "pop" env (eval o env) = eval o env := by intro _; rfl) :
    SndE W sc nm (.Call (.Attribute o "pop" apos) [.Constant (.int 0) k ip] [] pos) (t_snd_pop0 x) :=
  .mk fun Q d A E s env Φ μ ρ H hE hA S hq => by
    refine wpAny_Call_method1_late (hbase env) hline rfl (wpAny_mono (h1.go _ d A E s env Φ μ ρ H hE hA S hq) (fun ov s₁ p => ?_) fun _ _ x => x)
    refine PostE.use p fun v1 H₁ μ₁ S₁ x₁ hv1 hq => ?_
    clear p
    obtain ⟨i, l, rfl, hi, hle, z, l', rfl, hq⟩ := lstV_some hq
    obtain ⟨p, vs, as, n, rfl, hp1, hl, hr, ho⟩ := list_ref S₁ hi hv1
    obtain ⟨zv, ws, bs, cs, e1, rz, r1, rfl⟩ := readsAll_uncons hr
    have hsz := list_size hr
    have hbig := sizeLine_big
    have hlen : (z :: l').length = l'.length + 1 := rfl
    have hget : vs[0]? = some zv := by rw [← Array.getElem?_toList, e1]; rfl
    refine ⟨"list", "list.pop", PySem.F.plainAttrs_list, PySem.F.slot_list_pop, PySem.F.type_list_pop, ⟨_, hl, rfl⟩, fun a e => by cases e; exact ⟨_, hl, rfl⟩, P.pop_at_list (wpAny_Constant_int ⟨vs, n, 0, _, 0, zv, by lia, rfl, hl, by decide, ?_, hget, ?_⟩)⟩
    · have h0 : 0 < vs.size := by lia
      unfold seqIndex?
      simp [h0]
    have u := IsL.update hl (fun xs => xs.eraseIdxIfInBounds 0)
    have hvs : (vs.eraseIdxIfInBounds 0).toList = ws := by
      rw [Array.toList_eraseIdxIfInBounds, e1]
      rfl
    obtain ⟨S₂, x₂⟩ := S₁.turnList hi hp1 (t := s₁.toks + 1) (as := cs) (l' := l') (Heap.SameBut.update ..) ⟨_, u⟩ (by rw [hvs]; exact r1) (fun a ha => ho a (List.mem_append.mpr (.inr ha)))
    have mv := x₂.mv S₁.hok
    refine ⟨.d z, _, μ₁, S₂, x₁.trans x₂, ?_, hq⟩
    have hz : VOk s₁.heap (Out Φ env) μ₁ (.d z) zv := ⟨bs, rz, fun a ha => ho a (List.mem_append.mpr (.inl ha))⟩
    exact hz.mv mv

noncomputable def seqV0 (v : V) (H : List O) (Q : List PyData → Prop) : Prop := match viewD H v with
  | some x => (match x with | .list l => Q l | .tuple l => Q l | _ => False)
  | none => False
structure seqS (v : V) (H : List O) (Q : List PyData → Prop) : Prop where
  mk ::
  go : seqV0 v H Q
noncomputable def seqV (v : V) (H : List O) (Q : List PyData → Prop) : Prop := match v with
  | .d x => (match x with
    | .list l => Q l
    | .tuple l => Q l
    | x => seqS (.d x) H Q)
  | .ref i => seqS (.ref i) H Q
theorem seqV.go {v : V} {H : List O} {Q : List PyData → Prop} (h : seqV v H Q) : seqV0 v H Q := by
  cases v with
  | ref i => exact seqS.go h
  | d x => cases x <;> first | exact h | exact seqS.go h
theorem seqV_cases {v : V} {H : List O} {Q : List PyData → Prop} (h : seqV v H Q) : (∃ l, viewD H v = some (.list l) ∧ Q l) ∨ ∃ l, viewD H v = some (.tuple l) ∧ Q l := by
  replace h := h.go
  unfold seqV0 at h
  cases e : viewD H v with
  | none => rw [e] at h; exact False.elim h
  | some x => rw [e] at h; cases x <;> first | exact False.elim h | exact .inl ⟨_, rfl, h⟩ | exact .inr ⟨_, rfl, h⟩
/-- what a sequence is in the heap -/
theorem seqV_some {v : V} {cv : Value} {Q : List PyData → Prop} {env : Env} {Φ : Addr → Prop} {s : Shared} {μ : Mu} {ρ : Rho} {H : List O} (S : St W env nm Φ s μ ρ H) (hv : VOk s.heap (Out Φ env) μ v cv) (h : seqV v H Q) :
    ∃ a vs as l, cv = .ref a ∧ (IsTup s.heap a (vs : List Value).toArray ∨ s.heap.IsList a vs.toArray) ∧ ReadsAll s.heap vs l as ∧ Off (Out Φ env) μ as ∧ Q l := by
  replace h := seqV_cases h
  rcases h with ⟨l, e, h⟩ | ⟨l, e, h⟩
  · exact let ⟨a, vs, as, ea, ht, hr, ho⟩ := view_list S.hok hv e; ⟨a, vs, as, l, ea, .inr ht, hr, ho, h⟩
  · exact let ⟨a, vs, as, ea, ht, hr, ho⟩ := view_tup hv e; ⟨a, vs, as, l, ea, .inl ht, hr, ho, h⟩

noncomputable def t_snd_extend (x : Tr) (y : Tr) : Tr := fun d ρ H Q => x d ρ H fun v1 H => lstV v1 H fun _ _ => y d ρ H fun v2 H => lstV v1 H fun i l => seqV v2 H fun l2 => l.length + l2.length ≤ 65536 ∧ Q (.d .none) (H.set i (.list (l ++ l2)))
theorem snd_extend {o e : Expr} {apos pos : Pos} {x y : Tr} (h1 : SndE W sc nm o x) (h2 : SndE W sc nm e y) (hline : (apos.endLine == pos.line) = true) (hp : plainArgs [e] = true)
    (hbase : ∀ env, attributeBase o "extend" env (eval o env) = eval o env := by intro _; rfl) :
    SndE W sc nm (.Call (.Attribute o "extend" apos) [e] [] pos) (t_snd_extend x y) :=
  .mk fun Q d A E s env Φ μ ρ H hE hA S hq => by
    refine wpAny_Call_method1_late (hbase env) hline (trees1 hp env pos) (wpAny_mono (h1.go _ d A E s env Φ μ ρ H hE hA S hq) (fun ov s₁ p => ?_) fun _ _ x => x)
    refine PostE.use p fun v1 H₁ μ₁ S₁ x₁ hv1 hq => ?_
    clear p
    obtain ⟨i, l, rfl, hi, hq⟩ := lstV_some hq
    obtain ⟨p, vs, as, n, rfl, hp1, hl, _, _⟩ := list_ref S₁ hi hv1
    refine ⟨"list", "list.extend", PySem.F.plainAttrs_list, PySem.F.slot_list_extend, PySem.F.type_list_extend, ⟨_, hl, rfl⟩, fun a e => by cases e; exact ⟨_, hl, rfl⟩, seqMethod1_meets PySem.F.slot_list_extend PySem.F.entry_list_extend (wpAny_mono (h2.go _ d A E s₁ env Φ μ₁ ρ H₁ hE hA S₁ hq) (fun v s₂ p => ?_) fun _ _ x => x)⟩
    refine PostE.use p fun v2 H₂ μ₂ S₂ x₂ hv2 hq => ?_
    clear p
    obtain ⟨j, l1, e, hi2, hq⟩ := lstV_some hq
    cases e
    obtain ⟨b, ws, bs, l2, rfl, hb, hrb, hob, hle, hq⟩ := seqV_some S₂ hv2 hq
    obtain ⟨q, vs2, as2, n2, e, hq2, hl2, hr2, ho2⟩ := list_ref S₂ hi2 (hv1.mv (x₂.mv S₁.hok))
    have hpq : p.1 = q.1 := Value.ref.inj e
    rw [hpq]
    have hsz := list_size hr2
    have hsw := readsAll_len hrb
    have hbig := sizeLine_big
    have hws : ws.toArray.size = l2.length := by simpa using hsw
    have h0 : ¬(!vs2.isEmpty && Builtin.List.listTooLong (vs2.size + ws.toArray.size)) = true := by
      have : Builtin.List.listTooLong (vs2.size + ws.toArray.size) = false := by
        unfold Builtin.List.listTooLong
        simp only [decide_eq_false_iff_not, ge_iff_le, Nat.not_le, gt_iff_lt, Nat.not_lt]
        lia
      rw [this]; simp
    have u := IsL.update hl2 (fun xs => xs ++ ws.toArray)
    obtain ⟨S₃, x₃⟩ := S₂.turnList hi2 hq2 (t := s₂.toks) (Heap.SameBut.update ..) ⟨_, u⟩ (by rw [Array.toList_append]; exact readsAll_app hr2 (by simpa using hrb)) (Off.app ho2 hob)
    refine ⟨⟨_, hl2, rfl⟩, PySem.F.args_list_extend_2 _ _, ?_⟩
    have fin : PostE W env nm Φ s μ ρ Q .none { s₂ with heap := s₂.heap.update q.1 (Obj.mapSeq fun x => x ++ ws.toArray), toks := s₂.toks } := ⟨.d .none, _, μ₂, S₃, (x₁.trans x₂).trans x₃, vok_val .none, hq⟩
    rcases hb with ⟨ob, hob1, hob2, nb, hob3⟩ | ⟨ob, hob1, hob2, nb, hob3⟩
    · obtain ⟨oc, od, odt, osl⟩ := ob
      dsimp only at hob2 hob3
      subst hob2; subst hob3
      exact ⟨_, extend_tupleW q.1 vs2 n2 b ws.toArray nb od osl h0 (by lia) (by lia), hl2, hob1, fin⟩
    · obtain ⟨oc, od, odt, osl⟩ := ob
      dsimp only at hob2 hob3
      subst hob2; subst hob3
      exact ⟨_, extend_listW q.1 vs2 n2 b ws.toArray nb od osl h0 (by lia) (by lia), hl2, hob1, fin⟩

noncomputable def t_snd_insert0 (x : Tr) (y : Tr) : Tr := fun d ρ H Q => x d ρ H fun v1 H => lstV v1 H fun _ _ => y d ρ H fun v2 H => lstV v1 H fun i l => oneD v2 fun z => l.length ≤ 65536 ∧ Q (.d .none) (H.set i (.list (z :: l)))
/-- l.insert(0, e) -/
theorem snd_insert0 {o e : Expr} {apos pos : Pos} {k ip} {x y : Tr} (h1 : SndE W sc nm o x) (h2 : SndE W sc nm e y) (hline : (apos.endLine == pos.line) = true) (hp : plainArgs [e] = true)
    (hbase : ∀ env, attributeBase o "insert" env (eval o env) = eval o env := by intro _; rfl) :
    SndE W sc nm (.Call (.Attribute o "insert" apos) [.Constant (.int 0) k ip, e] [] pos) (t_snd_insert0 x y) :=
  .mk fun Q d A E s env Φ μ ρ H hE hA S hq => by
    have hp' : plainArgs [.Constant (.int 0) k ip, e] = true := by
      have : isStarred e = false := by simpa [plainArgs] using hp
      simp [plainArgs, this]; rfl
    refine wpAny_Call_method2_late (hbase env) hline (trees2 hp' env pos) (wpAny_mono (h1.go _ d A E s env Φ μ ρ H hE hA S hq) (fun ov s₁ p => ?_) fun _ _ x => x)
    refine PostE.use p fun v1 H₁ μ₁ S₁ x₁ hv1 hq => ?_
    clear p
    obtain ⟨i, l, rfl, hi, hq⟩ := lstV_some hq
    obtain ⟨p, vs, as, n, rfl, hp1, hl, _, _⟩ := list_ref S₁ hi hv1
    refine ⟨"list", "list.insert", PySem.F.plainAttrs_list, PySem.F.slot_list_insert, PySem.F.type_list_insert, ⟨_, hl, rfl⟩, fun a e => by cases e; exact ⟨_, hl, rfl⟩, ?_⟩
    refine method_meets PySem.F.slot_list_insert PySem.F.entry_list_insert rfl (Calls.evalArgs_plain (Calls.spliced_cons (wpAny_Constant_int (Calls.spliced_cons (wpAny_mono (h2.go _ d A E { s₁ with toks := s₁.toks + 1 } env Φ μ₁ ρ H₁ hE hA (S₁.toks _) hq) (fun v s₂ p => Calls.spliced_nil ?_) fun _ _ x => x)))))
    refine PostE.use p fun v2 H₂ μ₂ S₂ x₂ hv2 hq => ?_
    clear p
    obtain ⟨j, l2, e, hi2, hq⟩ := lstV_some hq
    cases e
    obtain ⟨z, rfl, hle, hq⟩ := oneD_some hq
    obtain ⟨q, vs2, as2, n2, e, hq2, hl2, hr2, ho2⟩ := list_ref S₂ hi2 (hv1.mv (Ext.mv (h := s₁.heap) x₂ S₁.hok))
    have hpq : p.1 = q.1 := Value.ref.inj e
    rw [hpq]
    obtain ⟨bs, rz, oz⟩ := hv2
    have hsz := list_size hr2
    have hbig := sizeLine_big
    refine ⟨rfl, ⟨_, hl2, rfl⟩, PySem.F.args_list_insert_3 _ _ _, _, AutoListH.list_insert_list_int_val_1 q.1 vs2 n2 0 _ v (by decide) (by lia), hl2, ?_⟩
    have u := IsL.update hl2 (fun xs => have k := if (0 : Int) < 0 then ((0 : Int) + ((xs.size : Nat) : Int)).toNat else min (0 : Int).toNat xs.size; (xs.extract 0 k).push v ++ xs.extract k)
    have hvs : ((fun xs : Array Value => have k := if (0 : Int) < 0 then ((0 : Int) + ((xs.size : Nat) : Int)).toNat else min (0 : Int).toNat xs.size; (xs.extract 0 k).push v ++ xs.extract k) vs2).toList = v :: vs2.toList := by
      simp
    obtain ⟨S₃, x₃⟩ := S₂.turnList hi2 hq2 (t := s₂.toks) (as := bs ++ as2) (l' := z :: l2) (Heap.SameBut.update ..) ⟨_, u⟩ (by rw [hvs]; exact .cons rz hr2) (Off.app oz ho2)
    exact ⟨.d .none, _, μ₂, S₃, (x₁.trans x₂).trans x₃, vok_val .none, hq⟩
end

/-! ## M16 -/
section
variable {prog : Program} {w : World} {A : Around} {E : Value → Shared → Prop} {s : Shared}

theorem part_ok {v : Value} {k : Option Int} {Q : Option Int → Shared → Prop} (hv : IsPart v k) (h : Q k s) : wpAny (model prog w) A (Builtin.Slice.slicePartIndex v) Q E s := by
  cases hv with
  | none => exact wpAny_pure h
  | int i t =>
    unfold Builtin.Slice.slicePartIndex
    rw [if_neg (show ¬ ((Value.int i t == Value.none) = true) from Bool.false_ne_true)]
    refine wpAny_bind (wpAny_specialOf (T := "int") (typeIs_int s i t) int_index ?_)
    simp only [Option.isNone_some, Bool.false_eq_true, if_false]
    exact wpAny_bind (wpAny_of_eq (a := i) rfl (wpAny_pure h))

/-- a tuple's cut (the library lacks it) -/
theorem getItem_tuple_slice {t sl : Addr} {items : Array Value} {vl vu vs : Value} {lo hi st : Option Int} {Q : Value → Shared → Prop} (ht : IsTup s.heap t items) (hs : s.heap.IsSliceOf sl vl vu vs) (pl : IsPart vl lo) (pu : IsPart vu hi) (ps : IsPart vs st)
    (h0 : (st.getD 1 == 0) = false) {a b : Int} {n : Nat} (e1 : Builtin.Slice.sliceAdjust lo hi (st.getD 1) (items.size : Int) = (a, b)) (e2 : Builtin.Slice.slicePlaces a b (st.getD 1) = n) {zs : Array Value}
    (e3 : ((List.range n).filterMap fun (k : Nat) => items[(a + (k : Int) * st.getD 1).toNat]?).toArray = zs) (hz : zs.size ≤ sizeLine)
    (hq1 : (a == 0 && st.getD 1 == 1 && (n : Nat) == items.size) = true → Q (.ref t) s) (hq2 : Q (.ref s.heap.objs.size) { s with heap := s.heap.push { cls := .type "tuple", data := .seq zs } }) :
    wpAny (model prog w) A (getItem (.ref t) (.ref sl)) Q E s := by
  obtain ⟨os, hos, hcs, hds⟩ := id hs
  have hTs : s.TypeIs (.ref sl) "slice" := ⟨os, hos, hcs⟩
  unfold getItem
  try with_reducible refine wpAny_holding ?_
  first | refine wpAny_bind (wpAny_pure ?_) | skip
  refine wpAny_bind (wpAny_sequenceKey ht.typeIs (by decide) ?_)
  refine wpAny_bind (wpAny_callSpecial?_slot (name := Str.ofString "__getitem__") ht.typeIs slot_tuple_getitem
    (wpAny_call_entry slot_tuple_getitem ht.typeIs entry_tuple_getitem ?_ (args_tuple_getitem _ _)))
  show wpAny _ _ (Builtin.Tuple.tupleItemsOf (.ref t) >>= _) _ _ s
  refine wpAny_bind (tupleItemsOf_ ht ?_)
  refine wpAny_bind (wpAny_typeOf hTs ?_)
  rw [if_pos (by decide)]
  refine wpAny_bind ?_
  unfold Builtin.Slice.sliceApplied
  refine wpAny_bind ?_
  unfold Builtin.Slice.sliceFields
  refine wpAny_bind (wpAny_field hos hds (x := vl) rfl (wpAny_bind (wpAny_field hos hds (x := vu) rfl (wpAny_bind (wpAny_field hos hds (x := vs) rfl (wpAny_pure ?_))))))
  dsimp only
  refine wpAny_bind (part_ok ps ?_)
  rw [h0]
  rw [if_neg Bool.false_ne_true]
  refine wpAny_bind (part_ok pl (wpAny_bind (part_ok pu (wpAny_bind (wpAny_pure ?_)))))
  rw [e1]
  refine wpAny_pure ?_
  dsimp only
  rw [e2]
  rw [e3]
  by_cases h : (a == 0 && st.getD 1 == 1 && (n : Nat) == items.size) = true
  · rw [if_pos h]
    refine wpAny_bind ?_
    unfold Builtin.Tuple.tupleIsExact
    refine wpAny_bind (wpAny_typeOf ht.typeIs (wpAny_pure ?_))
    rw [if_pos (by decide)]
    exact wpAny_bind (wpAny_rule (wpAny_pure ⟨_, rfl, wpAny_pure (hq1 h)⟩))
  · rw [if_neg h]
    refine wpAny_bind ?_
    unfold Builtin.Tuple.tupleExact
    exact wpAny_newObj_type (wpAny_pure ⟨_, rfl, wpAny_pure hq2⟩) hz
end

theorem pick_int (xs : Array Value) (a n : Nat) : (List.range n).filterMap (fun (k : Nat) => xs[((a : Int) + (k : Int) * 1).toNat]?) = (xs.toList.drop a).take n := by
  rw [← pick_run, List.filterMap_map]
  congr 1
  funext k
  have : ((a : Int) + (k : Int) * 1).toNat = a + k := by lia
  rw [this]; rfl
theorem pick_rev (xs : Array Value) : (List.range xs.size).filterMap (fun (k : Nat) => xs[(((xs.size : Int) - 1) + (k : Int) * (-1)).toNat]?) = xs.toList.reverse := by
  have h1 : (List.range xs.size).filterMap (fun (k : Nat) => xs[(((xs.size : Int) - 1) + (k : Int) * (-1)).toNat]?) = ((List.range xs.size).map fun k => xs.size - 1 - k).filterMap (xs[·]?) := by
    rw [List.filterMap_map]
    congr 1
    funext k
    have : (((xs.size : Int) - 1) + (k : Int) * (-1)).toNat = xs.size - 1 - k := by lia
    rw [this]; rfl
  rw [h1, krv_range, List.filterMap_reverse, krv_all]

noncomputable def tupV0 (v : V) (H : List O) (Q : List PyData → Prop) : Prop := match viewD H v with
  | some x => (match x with | .tuple l => Q l | _ => False)
  | none => False
structure tupS (v : V) (H : List O) (Q : List PyData → Prop) : Prop where
  mk ::
  go : tupV0 v H Q
noncomputable def tupV (v : V) (H : List O) (Q : List PyData → Prop) : Prop := match v with
  | .d x => (match x with
    | .tuple l => Q l
    | x => tupS (.d x) H Q)
  | .ref i => tupS (.ref i) H Q
theorem tupV.go {v : V} {H : List O} {Q : List PyData → Prop} (h : tupV v H Q) : tupV0 v H Q := by
  cases v with
  | ref i => exact tupS.go h
  | d x => cases x <;> first | exact h | exact tupS.go h
theorem tupV_some {v : V} {H : List O} {Q : List PyData → Prop} (h : tupV v H Q) : ∃ l, viewD H v = some (.tuple l) ∧ Q l := by
  replace h := h.go
  unfold tupV0 at h
  cases e : viewD H v with
  | none => rw [e] at h; exact False.elim h
  | some x => rw [e] at h; cases x <;> first | exact False.elim h | exact ⟨_, rfl, h⟩

section
variable {W : Wd} {sc : Scope} {nm : List Str}

/-- what a cut of a tuple leaves -/
theorem cut_ok {env : Env} {Φ : Addr → Prop} {s : Shared} {μ : Mu} {ρ : Rho} {H : List O} {A : Around} {E : Value → Shared → Prop} {v : V} {cv vl vu vs : Value} {l l' : List PyData} {lo hi st : Option Int} {P : Value → Shared → Prop} (S : St W env nm Φ s μ ρ H) (hv : VOk s.heap (Out Φ env) μ v cv) (e : viewD H v = some (.tuple l)) (hle : l.length ≤ 65536)
    (pl : IsPart vl lo) (pu : IsPart vu hi) (ps : IsPart vs st) (h0 : (st.getD 1 == 0) = false) {a b : Int} {n : Nat} (e1 : Builtin.Slice.sliceAdjust lo hi (st.getD 1) (l.length : Int) = (a, b)) (e2 : Builtin.Slice.slicePlaces a b (st.getD 1) = n)
    (e3 : ∀ ws : List Value, ws.length = l.length → ∃ zs, (List.range n).filterMap (fun (k : Nat) => ws.toArray[(a + (k : Int) * st.getD 1).toNat]?) = zs ∧ (∀ h as, ReadsAll h ws l as → ∃ bs, ReadsAll h zs l' bs ∧ ∀ x ∈ bs, x ∈ as) ∧ zs.length ≤ ws.length)
    (ewhole : (a == 0 && st.getD 1 == 1 && n == l.length) = true → l' = l)
    (hP : ∀ r h' t, St W env nm Φ { s with heap := h', toks := t } μ ρ H → Ext s.heap μ h' μ → VOk h' (Out Φ env) μ (.d (.tuple l')) r → P r { s with heap := h', toks := t }) :
    wpAny (model W.prog W.w) A (getItem cv (.ref s.heap.objs.size)) P E { s with heap := s.heap.push { cls := .type "slice", data := .fields #[vl, vu, vs] } } := by
  obtain ⟨t, ws, as, rfl, ht, hr, ho⟩ := view_tup hv e
  have hlen := readsAll_len hr
  have hbig := sizeLine_big
  have g : ∀ b o, s.heap.get? b = some o → (s.heap.push { cls := .type "slice", data := .fields #[vl, vu, vs] }).get? b = some o := fun b o e => Heap.get?_push_of_some _ e
  have S₁ := S.grow (s' := { s with heap := s.heap.push { cls := .type "slice", data := .fields #[vl, vu, vs] } }) g (by rw [Heap.size_push]; exact Nat.le_succ _) rfl rfl
  obtain ⟨zs, z1, z2, z3⟩ := e3 ws hlen
  obtain ⟨bs, r1, hb⟩ := z2 _ as hr
  refine getItem_tuple_slice (zs := zs.toArray) (IsTup.keeps ht g) (Heap.IsSliceOf.new ..) pl pu ps h0 (a := a) (b := b) (n := n) (by rw [List.size_toArray, hlen]; exact e1) e2 (by rw [z1]) (by rw [List.size_toArray]; lia) (fun hw => ?_) ?_
  · have hw' : (a == 0 && st.getD 1 == 1 && n == l.length) = true := by rw [List.size_toArray, hlen] at hw; exact hw
    have := ewhole hw'
    subst this
    exact hP _ _ s.toks S₁ (Ext.grow g (by rw [Heap.size_push]; exact Nat.le_succ _)) ⟨as, reads_tuple_at (Heap.get?_push_of_some _ ht.choose_spec.1) ht.choose_spec.2.1 ht.choose_spec.2.2.choose_spec (readsAll_at (ReadsAll.keeps g hr)), ho⟩
  · let h1 := s.heap.push { cls := .type "slice", data := .fields #[vl, vu, vs] }
    have g2 : ∀ b o, h1.get? b = some o → (h1.push { cls := .type "tuple", data := .seq zs.toArray }).get? b = some o := fun b o e => Heap.get?_push_of_some _ e
    have S₂ := S₁.grow (s' := { s with heap := h1.push { cls := .type "tuple", data := .seq zs.toArray } }) g2 (by show h1.objs.size ≤ (h1.push _).objs.size; exact (Heap.size_push h1 _).symm ▸ Nat.le_succ _) rfl rfl
    refine hP _ _ s.toks S₂ (Ext.grow (fun b o e => g2 b o (g b o e)) (by rw [Heap.size_push, Heap.size_push]; lia)) ⟨bs, ?_, fun x hx => ho x (hb x hx)⟩
    exact reads_tuple_at (Heap.get?_push_size _ rfl) rfl rfl (readsAll_at (ReadsAll.keeps (fun b o e => g2 b o (g b o e)) r1))

theorem readsAll_drop {h : Heap} {n : Nat} {vs : List Value} {ds : List PyData} {as : List Addr} (r : ReadsAll h vs ds as) : ∃ bs, ReadsAll h (vs.drop n) (ds.drop n) bs ∧ ∀ x ∈ bs, x ∈ as := by
  refine readsAll_ind (fun vs ds as => ∀ n, ∃ bs, ReadsAll h (vs.drop n) (ds.drop n) bs ∧ ∀ x ∈ bs, x ∈ as) (fun n => ⟨[], by rw [List.drop_nil, List.drop_nil]; exact .nil, all_nil⟩) (fun h1 h2 ih n => ?_) r n
  cases n with
  | zero => exact ⟨_, .cons h1 h2, fun _ h => h⟩
  | succ n => exact let ⟨bs, r, hb⟩ := ih n; ⟨bs, r, fun x hx => List.mem_append.mpr (.inr (hb x hx))⟩
theorem readsAll_take {h : Heap} {n : Nat} {vs : List Value} {ds : List PyData} {as : List Addr} (r : ReadsAll h vs ds as) : ∃ bs, ReadsAll h (vs.take n) (ds.take n) bs ∧ ∀ x ∈ bs, x ∈ as := by
  refine readsAll_ind (fun vs ds as => ∀ n, ∃ bs, ReadsAll h (vs.take n) (ds.take n) bs ∧ ∀ x ∈ bs, x ∈ as) (fun n => ⟨[], by rw [List.take_nil, List.take_nil]; exact .nil, all_nil⟩) (fun h1 _ ih n => ?_) r n
  cases n with
  | zero => exact ⟨[], .nil, all_nil⟩
  | succ n => exact let ⟨bs, r, hb⟩ := ih n; ⟨_, .cons h1 r, fun x hx => List.mem_append.mpr ((List.mem_append.mp hx).imp id (hb x))⟩
theorem readsAll_rev {h : Heap} {vs : List Value} {ds : List PyData} {as : List Addr} (r : ReadsAll h vs ds as) : ∃ bs, ReadsAll h vs.reverse ds.reverse bs ∧ ∀ x ∈ bs, x ∈ as := by
  refine readsAll_ind (fun vs ds as => ∃ bs, ReadsAll h vs.reverse ds.reverse bs ∧ ∀ x ∈ bs, x ∈ as) ⟨[], .nil, fun _ h => h⟩ (fun h1 _ ih => ?_) r
  obtain ⟨bs, r, hb⟩ := ih
  rw [List.reverse_cons, List.reverse_cons]
  exact ⟨_, readsAll_push h1 r, all_app (fun x hx => List.mem_append.mpr (.inr (hb x hx))) (all_app (fun x hx => List.mem_append.mpr (.inl hx)) all_nil)⟩

noncomputable def t_snd_from1 (x : Tr) : Tr := fun d ρ H Q => x d ρ H fun v H => tupV v H fun l => l.length ≤ 65536 ∧ Q (.d (.tuple (l.drop 1))) H
/-- x[1:] of a tuple -/
theorem snd_from1 {value : Expr} {k kp p pos} {x : Tr} (h1 : SndE W sc nm value x) :
    SndE W sc nm (.Subscript value (.Slice (some (.Constant (.int 1) k kp)) none none p) pos) (t_snd_from1 x) :=
  .mk fun Q d A E s env Φ μ ρ H hE hA S hq => by
    refine Subscript_ (wpAny_mono (h1.go _ d A E s env Φ μ ρ H hE hA S hq) (fun a s₁ p => ?_) fun _ _ x => x)
    refine PostE.use p fun v H₁ μ₁ S₁ x₁ hv hq => ?_
    clear p
    obtain ⟨l, e, hle, hq⟩ := tupV_some hq
    obtain ⟨t, ws, as, rfl, ht, hr, ho⟩ := view_tup hv e
    refine wpAny_Slice ?_
    rw [evalPart_some]
    refine wpAny_Constant_int ?_
    rw [evalPart_none]
    refine wpAny_pure (wpAny_pure ?_)
    have S₂ := S₁.toks (s₁.toks + 1)
    refine tail_any (IsTup.push ht _).typeIs slot_tuple_getitem.lookup (cut_ok (s := { s₁ with toks := s₁.toks + 1 }) (l' := l.drop 1) (st := none) (a := ((min 1 l.length : Nat) : Int)) (b := (l.length : Int)) (n := l.length - min 1 l.length) S₂ hv e hle (.int 1 _) .none .none rfl ?_ ?_ ?_ ?_ fun r h' t' S₃ x₃ hv₃ => ⟨.d (.tuple (l.drop 1)), H₁, μ₁, S₃, x₁.trans x₃, hv₃, hq⟩) (by rfl)
    · simp only [Builtin.Slice.sliceAdjust, Option.getD_none]
      simp
      lia
    · simp only [Builtin.Slice.slicePlaces, Option.getD_none]
      simp
      split <;> lia
    · intro ws hws
      refine ⟨ws.drop 1, ?_, fun h as r => readsAll_drop r, by simp⟩
      simp only [Option.getD_none]
      rw [pick_int]
      simp only []
      by_cases h0 : l.length = 0
      · have : ws = [] := List.length_eq_zero_iff.mp (hws.trans h0)
        subst this; simp
      · have : min 1 l.length = 1 := by lia
        rw [this, List.take_of_length_le (by simp; lia)]
    · intro hw
      simp only [Bool.and_eq_true, beq_iff_eq] at hw
      have : l.length = 0 := by lia
      have : l = [] := List.length_eq_zero_iff.mp this
      subst this; rfl

noncomputable def t_snd_but1 (x : Tr) : Tr := fun d ρ H Q => x d ρ H fun v H => tupV v H fun l => l.length ≤ 65536 ∧ Q (.d (.tuple (l.take (l.length - 1)))) H
/-- x[:-1] of a tuple -/
theorem snd_but1 {value : Expr} {k kp p2 p pos} {x : Tr} (h1 : SndE W sc nm value x) :
    SndE W sc nm (.Subscript value (.Slice none (some (.UnaryOp .USub (.Constant (.int 1) k kp) p2)) none p) pos) (t_snd_but1 x) :=
  .mk fun Q d A E s env Φ μ ρ H hE hA S hq => by
    refine Subscript_ (wpAny_mono (h1.go _ d A E s env Φ μ ρ H hE hA S hq) (fun a s₁ p => ?_) fun _ _ x => x)
    refine PostE.use p fun v H₁ μ₁ S₁ x₁ hv hq => ?_
    clear p
    obtain ⟨l, e, hle, hq⟩ := tupV_some hq
    obtain ⟨t, ws, as, rfl, ht, hr, ho⟩ := view_tup hv e
    refine wpAny_Slice ?_
    rw [evalPart_none]
    refine wpAny_pure ?_
    rw [evalPart_some]
    refine UnaryOp_ (wpAny_Constant_int (PyProof.Rows.neg_int (wpAny_pure ?_)))
    have S₂ := S₁.toks (s₁.toks + 1 + 1)
    refine tail_any (IsTup.push ht _).typeIs slot_tuple_getitem.lookup (cut_ok (s := { s₁ with toks := s₁.toks + 1 + 1 }) (l' := l.take (l.length - 1)) (st := none) (a := ((0 : Nat) : Int)) (b := ((l.length - 1 : Nat) : Int)) (n := l.length - 1) S₂ hv e hle .none (.int (-1) _) .none rfl ?_ ?_ ?_ ?_ fun r h' t' S₃ x₃ hv₃ => ⟨.d (.tuple (l.take (l.length - 1))), H₁, μ₁, S₃, x₁.trans x₃, hv₃, hq⟩) (by rfl)
    · simp only [Builtin.Slice.sliceAdjust, Option.getD_none]
      simp
      lia
    · simp only [Builtin.Slice.slicePlaces, Option.getD_none]
      simp
      split <;> lia
    · intro ws hws
      refine ⟨ws.take (l.length - 1), ?_, fun h as r => readsAll_take r, by rw [List.length_take]; lia⟩
      simp only [Option.getD_none]
      rw [pick_int]
      simp
    · intro hw
      simp only [Bool.and_eq_true, beq_iff_eq] at hw
      have : l.length = 0 := by lia
      have : l = [] := List.length_eq_zero_iff.mp this
      subst this; rfl

noncomputable def t_snd_revt (x : Tr) : Tr := fun d ρ H Q => x d ρ H fun v H => tupV v H fun l => l.length ≤ 65536 ∧ Q (.d (.tuple l.reverse)) H
/-- x[::-1] of a tuple -/
theorem snd_revt {value : Expr} {k kp p2 p pos} {x : Tr} (h1 : SndE W sc nm value x) :
    SndE W sc nm (.Subscript value (.Slice none none (some (.UnaryOp .USub (.Constant (.int 1) k kp) p2)) p) pos) (t_snd_revt x) :=
  .mk fun Q d A E s env Φ μ ρ H hE hA S hq => by
    refine Subscript_ (wpAny_mono (h1.go _ d A E s env Φ μ ρ H hE hA S hq) (fun a s₁ p => ?_) fun _ _ x => x)
    refine PostE.use p fun v H₁ μ₁ S₁ x₁ hv hq => ?_
    clear p
    obtain ⟨l, e, hle, hq⟩ := tupV_some hq
    obtain ⟨t, ws, as, rfl, ht, hr, ho⟩ := view_tup hv e
    refine wpAny_Slice ?_
    rw [evalPart_none]
    refine wpAny_pure (wpAny_pure ?_)
    rw [evalPart_some]
    refine UnaryOp_ (wpAny_Constant_int (PyProof.Rows.neg_int ?_))
    have S₂ := S₁.toks (s₁.toks + 1 + 1)
    refine tail_any (IsTup.push ht _).typeIs slot_tuple_getitem.lookup (cut_ok (s := { s₁ with toks := s₁.toks + 1 + 1 }) (l' := l.reverse) (st := some (-1)) (a := (l.length : Int) - 1) (b := -1) (n := l.length) S₂ hv e hle .none .none (.int (-1) _) rfl ?_ ?_ ?_ ?_ fun r h' t' S₃ x₃ hv₃ => ⟨.d (.tuple l.reverse), H₁, μ₁, S₃, x₁.trans x₃, hv₃, hq⟩) (by rfl)
    · rfl
    · simp only [Builtin.Slice.slicePlaces, Option.getD_some]
      simp
      split <;> lia
    · intro ws hws
      refine ⟨ws.reverse, ?_, fun h as r => readsAll_rev r, by simp⟩
      simp only [Option.getD_some]
      have := pick_rev ws.toArray
      simp only [List.size_toArray, hws] at this
      exact this
    · intro hw
      simp only [Bool.and_eq_true, beq_iff_eq, Option.getD_some] at hw
      exact absurd hw.1.2 (by decide)

noncomputable def t_snd_revl (x : Tr) : Tr := fun d ρ H Q => x d ρ H fun v H => lstV v H fun _ l => l.length ≤ 65536 ∧ Q (.ref H.length) (H ++ [.list l.reverse])
/-- x[::-1] of a list: a new list -/
theorem snd_revl {value : Expr} {k kp p2 p pos} {x : Tr} (h1 : SndE W sc nm value x) :
    SndE W sc nm (.Subscript value (.Slice none none (some (.UnaryOp .USub (.Constant (.int 1) k kp) p2)) p) pos) (t_snd_revl x) :=
  .mk fun Q d A E s env Φ μ ρ H hE hA S hq => by
    refine Subscript_ (wpAny_mono (h1.go _ d A E s env Φ μ ρ H hE hA S hq) (fun a s₁ p => ?_) fun _ _ x => x)
    refine PostE.use p fun v H₁ μ₁ S₁ x₁ hv hq => ?_
    clear p
    obtain ⟨i, l, rfl, hi, hle, hq⟩ := lstV_some hq
    obtain ⟨p, vs, as, n, rfl, hp1, hl, hr, ho⟩ := list_ref S₁ hi hv
    refine wpAny_Slice ?_
    rw [evalPart_none]
    refine wpAny_pure (wpAny_pure ?_)
    rw [evalPart_some]
    refine UnaryOp_ (wpAny_Constant_int (PyProof.Rows.neg_int ?_))
    have hbig := sizeLine_big
    have hsz := list_size hr
    have g : ∀ (o : Obj) b oo, s₁.heap.get? b = some oo → (s₁.heap.push o).get? b = some oo := fun o b oo e => Heap.get?_push_of_some _ e
    refine tail_any (IsL.push hl _).isList.typeIs slot_list_getitem.lookup (wpAny_getItem_list_slice (IsL.push hl _).isList (Heap.IsSliceOf.new ..) .none .none (.int (-1) _) (by decide) ?_ (by lia)) (by rfl)
    rw [krv_pick]
    let h1 := s₁.heap.push { cls := .type "slice", data := .fields #[.none, .none, .int (-1) (s₁.toks + 1)] }
    have g2 : ∀ (o : Obj) b oo, h1.get? b = some oo → (h1.push o).get? b = some oo := fun o b oo e => Heap.get?_push_of_some _ e
    obtain ⟨bs, r2, hb⟩ := readsAll_rev hr
    obtain ⟨S₂, x₂, hv₂⟩ := S₁.newList (t := s₁.toks + 1 + 1) (a := h1.objs.size) (h' := h1.push { cls := .type "list", data := .seq vs.toList.reverse.toArray }) r2 (fun a ha => ho a (hb a ha)) (by show _ ≤ (s₁.heap.push _).objs.size; rw [Heap.size_push]; exact Nat.le_succ _) (fun b o e => g2 _ b o (g _ b o e)) (by rw [Heap.size_push]; show _ ≤ (s₁.heap.push _).objs.size + 1; rw [Heap.size_push]; lia) ⟨0, Heap.get?_push_size _ rfl⟩
    exact ⟨.ref H₁.length, _, _, S₂, x₁.trans x₂, hv₂, hq⟩
end

/-! ## M17 -/
noncomputable def addW (x y : PyData) (Q : PyData → Prop) : Prop :=
  onInt x (fun a => onInt y (fun b => Q (.int (a + b))) False) (onStr x (fun a => onStr y (fun b => a.length + b.length ≤ 65536 ∧ Q (.str (a ++ b))) False)
    (onList x (fun a => onList y (fun b => a.length + b.length ≤ 65536 ∧ Q (.list (a ++ b))) False) (onTup x (fun a => onTup y (fun b => a.length + b.length ≤ 65536 ∧ Q (.tuple (a ++ b))) False) False)))
theorem addW_cases {x y : PyData} {Q : PyData → Prop} (h : addW x y Q) : (∃ a b, x = .int a ∧ y = .int b ∧ Q (.int (a + b))) ∨ (∃ a b, x = .str a ∧ y = .str b ∧ a.length + b.length ≤ 65536 ∧ Q (.str (a ++ b))) ∨
    (∃ a b, x = .list a ∧ y = .list b ∧ a.length + b.length ≤ 65536 ∧ Q (.list (a ++ b))) ∨ ∃ a b, x = .tuple a ∧ y = .tuple b ∧ a.length + b.length ≤ 65536 ∧ Q (.tuple (a ++ b)) := by
  refine (onInt_or h).elim (fun ⟨a, ea, h⟩ => (onInt_or h).elim (fun ⟨b, eb, h⟩ => .inl ⟨a, b, ea, eb, h⟩) False.elim) fun h => .inr ?_
  refine (onStr_or h).elim (fun ⟨a, ea, h⟩ => (onStr_or h).elim (fun ⟨b, eb, h⟩ => .inl ⟨a, b, ea, eb, h⟩) False.elim) fun h => .inr ?_
  refine (onList_or h).elim (fun ⟨a, ea, h⟩ => (onList_or h).elim (fun ⟨b, eb, h⟩ => .inl ⟨a, b, ea, eb, h⟩) False.elim) fun h => ?_
  exact (onTup_or h).elim (fun ⟨a, ea, h⟩ => (onTup_or h).elim (fun ⟨b, eb, h⟩ => .inr ⟨a, b, ea, eb, h⟩) False.elim) False.elim
noncomputable def opW (op : Operator) (x y : PyData) (Q : PyData → Prop) : Prop := match op with
  | .Add => addW x y Q
  | .Sub => intW x y fun a b => Q (.int (a - b))
  | .Mult => intW x y fun a b => IntMulOk a b ∧ Q (.int (a * b))
  | .Mod => intW x y fun a b => b ≠ 0 ∧ Q (.int (a.fmod b))
  | .FloorDiv => intW x y fun a b => b ≠ 0 ∧ b.natAbs < 1073741824 ∧ Q (.int (a.fdiv b))
  | .Pow => intW x y fun a b => 0 ≤ b ∧ (Builtin.Int.intBits a : Int) * b ≤ 2 ^ 27 ∧ Q (.int (a ^ b.toNat))
  | _ => False

noncomputable def opV0 (op : Operator) (v1 v2 : V) (H : List O) (Q : PyData → Prop) : Prop := match viewD H v1, viewD H v2 with
  | some x, some y => opW op x y Q
  | _, _ => False
theorem opV0_cases {op : Operator} {v1 v2 : V} {H : List O} {Q : PyData → Prop} (h : opV0 op v1 v2 H Q) : ∃ x y, viewD H v1 = some x ∧ viewD H v2 = some y ∧ opW op x y Q := by
  unfold opV0 at h
  cases e1 : viewD H v1 with
  | none => rw [e1] at h; exact h.elim
  | some x =>
    cases e2 : viewD H v2 with
    | none => rw [e1, e2] at h; exact h.elim
    | some y => rw [e1, e2] at h; exact ⟨x, y, rfl, rfl, h⟩
structure opS (op : Operator) (v1 v2 : V) (H : List O) (Q : PyData → Prop) : Prop where
  mk ::
  go : opV0 op v1 v2 H Q
noncomputable def opV (op : Operator) (v1 v2 : V) (H : List O) (Q : PyData → Prop) : Prop := match v1, v2 with
  | .d x, .d y => opW op x y Q
  | v1, v2 => opS op v1 v2 H Q
theorem opV.go {op : Operator} {v1 v2 : V} {H : List O} {Q : PyData → Prop} (h : opV op v1 v2 H Q) : opV0 op v1 v2 H Q := by
  cases v1 with
  | d x => cases v2 with
    | d y => exact h
    | ref j => exact opS.go h
  | ref i => exact opS.go h

section
variable {W : Wd} {sc : Scope} {nm : List Str} {env : Env} {Φ : Addr → Prop} {s s' : Shared} {μ μ' : Mu} {ρ : Rho} {H H' : List O} {A : Around} {E : Value → Shared → Prop}

theorem view_off {v : V} {cv : Value} {l : List PyData} (S : St W env nm Φ s μ ρ H) (hv : VOk s.heap (Out Φ env) μ v cv) (e : viewD H v = some (.list l)) : ∃ a vs as oa od sl n, cv = .ref a ∧ s.heap.get? a = some { cls := .type "list", dict := od, data := .seq (vs : List Value).toArray n, slots := sl } ∧ ReadsAll s.heap vs l as ∧ Off (Out Φ env) μ as ∧ oa = a := by
  obtain ⟨a, vs, as, rfl, ht, hr, ho⟩ := view_list S.hok hv e
  obtain ⟨⟨c, d, dt, sl⟩, h1, h2, n, h3⟩ := ht
  dsimp only at h2 h3
  subst h2; subst h3
  exact ⟨a, vs, as, a, d, sl, n, rfl, h1, hr, ho, rfl⟩

theorem add_list {v1 v2 : V} {a b : Value} {l1 l2 : List PyData} {Q : PyData → Prop} {P : Value → Shared → Prop} (S : St W env nm Φ s μ ρ H) (ha : VOk s.heap (Out Φ env) μ v1 a) (hb : VOk s.heap (Out Φ env) μ v2 b) (e1 : viewD H v1 = some (.list l1)) (e2 : viewD H v2 = some (.list l2)) (h : l1.length + l2.length ≤ 65536 ∧ Q (.list (l1 ++ l2)))
    (hP : ∀ z r h' t, St W env nm Φ { s with heap := h', toks := t } μ ρ H → Ext s.heap μ h' μ → VOk h' (Out Φ env) μ (.d z) r → Q z → P r { s with heap := h', toks := t }) : wpAny (model W.prog W.w) A (binaryOp .Add a b) P E s := by
  have hbig := sizeLine_big
  obtain ⟨p, vs, as, _, d1, sl1, n1, rfl, g1, r1, o1, _⟩ := view_off S ha e1
  obtain ⟨q, ws, bs, _, d2, sl2, n2, rfl, g2, r2, o2, _⟩ := view_off S hb e2
  have e : vs.toArray ++ ws.toArray = (vs ++ ws).toArray := by simp
  have l1' := readsAll_len r1
  have l2' := readsAll_len r2
  refine concat_meets ⟨_, g1, rfl⟩ ⟨_, g2, rfl⟩ noFill_list_add seq_list_add PySem.F.slot_list_add PySem.F.entry_list_add (PySem.F.args_list_add_2 _ _) (list_addW p q vs.toArray ws.toArray n1 n2 d1 d2 sl1 sl2 (by simp only [List.size_toArray]; lia)) ⟨g1, g2, ?_⟩
  rw [e]
  have g : ∀ b o, s.heap.get? b = some o → (s.heap.push { cls := .type "list", data := .seq (vs ++ ws).toArray }).get? b = some o := fun b o e => Heap.get?_push_of_some _ e
  have S₂ := S.grow (s' := { s with heap := s.heap.push { cls := .type "list", data := .seq (vs ++ ws).toArray } }) g (by rw [Heap.size_push]; exact Nat.le_succ _) rfl rfl
  refine hP _ _ _ s.toks S₂ (Ext.grow g (by rw [Heap.size_push]; exact Nat.le_succ _)) ⟨s.heap.objs.size :: (as ++ bs), reads_list_at (Heap.get?_push_size _ rfl) rfl rfl (readsAll_at (ReadsAll.keeps g (readsAll_app r1 r2))), fun a ha => ?_⟩ h.2
  rcases List.mem_cons.mp ha with rfl | ha
  · exact ⟨fun hp => Nat.lt_irrefl _ (S.below _ hp), fun hf => Nat.lt_irrefl _ (S.hok.lt hf)⟩
  · exact (Off.app o1 o2) a ha
theorem add_tup {v1 v2 : V} {a b : Value} {l1 l2 : List PyData} {Q : PyData → Prop} {P : Value → Shared → Prop} (S : St W env nm Φ s μ ρ H) (ha : VOk s.heap (Out Φ env) μ v1 a) (hb : VOk s.heap (Out Φ env) μ v2 b) (e1 : viewD H v1 = some (.tuple l1)) (e2 : viewD H v2 = some (.tuple l2)) (h : l1.length + l2.length ≤ 65536 ∧ Q (.tuple (l1 ++ l2)))
    (hP : ∀ z r h' t, St W env nm Φ { s with heap := h', toks := t } μ ρ H → Ext s.heap μ h' μ → VOk h' (Out Φ env) μ (.d z) r → Q z → P r { s with heap := h', toks := t }) : wpAny (model W.prog W.w) A (binaryOp .Add a b) P E s := by
  have hbig := sizeLine_big
  obtain ⟨p, vs, as, rfl, t1, r1, o1⟩ := view_tup ha e1
  obtain ⟨q, ws, bs, rfl, t2, r2, o2⟩ := view_tup hb e2
  obtain ⟨⟨c1, d1, dt1, sl1⟩, g1, c1', n1, f1⟩ := id t1
  obtain ⟨⟨c2, d2, dt2, sl2⟩, g2, c2', n2, f2⟩ := id t2
  dsimp only at c1' f1 c2' f2
  subst c1'; subst f1; subst c2'; subst f2
  have e : vs.toArray ++ ws.toArray = (vs ++ ws).toArray := by simp
  have l1' := readsAll_len r1
  have l2' := readsAll_len r2
  by_cases h0 : vs = []
  · subst h0
    have : l1 = [] := List.length_eq_zero_iff.mp l1'.symm
    subst this
    obtain ⟨_, rfl⟩ := reads_nil r1 rfl
    refine concat_meets t1.typeIs t2.typeIs noFill_tuple_add seq_tuple_add PySem.F.slot_tuple_add PySem.F.entry_tuple_add (PySem.F.args_tuple_add_2 _ _) (tuple_addW0 p q #[] ws.toArray n1 n2 d1 d2 sl1 sl2 rfl) ⟨g1, g2, ?_⟩
    exact hP _ _ s.heap s.toks S Ext.refl ⟨bs, reads_tuple_at g2 rfl rfl (readsAll_at r2), o2⟩ h.2
  · have hne : ¬ (vs.toArray.isEmpty = true) := by simpa using h0
    by_cases h1 : ws = []
    · subst h1
      have : l2 = [] := List.length_eq_zero_iff.mp l2'.symm
      subst this
      obtain ⟨_, rfl⟩ := reads_nil r2 rfl
      refine concat_meets t1.typeIs t2.typeIs noFill_tuple_add seq_tuple_add PySem.F.slot_tuple_add PySem.F.entry_tuple_add (PySem.F.args_tuple_add_2 _ _) (tuple_addW1 p q vs.toArray #[] n1 n2 d1 d2 sl1 sl2 hne rfl) ⟨g1, g2, ?_⟩
      exact hP _ _ s.heap s.toks S Ext.refl ⟨as, reads_tuple_at g1 rfl rfl (readsAll_at (by simpa using r1)), o1⟩ h.2
    · have hne2 : ¬ (ws.toArray.isEmpty = true) := by simpa using h1
      refine concat_meets t1.typeIs t2.typeIs noFill_tuple_add seq_tuple_add PySem.F.slot_tuple_add PySem.F.entry_tuple_add (PySem.F.args_tuple_add_2 _ _) (tuple_addW2 p q vs.toArray ws.toArray n1 n2 d1 d2 sl1 sl2 hne hne2 (by simp only [List.size_toArray]; lia)) ⟨g1, g2, ?_⟩
      rw [e]
      have g : ∀ b o, s.heap.get? b = some o → (s.heap.push { cls := .type "tuple", data := .seq (vs ++ ws).toArray }).get? b = some o := fun b o e => Heap.get?_push_of_some _ e
      have S₂ := S.grow (s' := { s with heap := s.heap.push { cls := .type "tuple", data := .seq (vs ++ ws).toArray } }) g (by rw [Heap.size_push]; exact Nat.le_succ _) rfl rfl
      exact hP _ _ _ s.toks S₂ (Ext.grow g (by rw [Heap.size_push]; exact Nat.le_succ _)) ⟨as ++ bs, reads_tuple_at (Heap.get?_push_size _ rfl) rfl rfl (readsAll_at (ReadsAll.keeps g (readsAll_app r1 r2))), Off.app o1 o2⟩ h.2
theorem int_view {v1 v2 : V} {a b : Value} {i j : Int} (S : St W env nm Φ s μ ρ H) (ha : VOk s.heap (Out Φ env) μ v1 a) (hb : VOk s.heap (Out Φ env) μ v2 b) (e1 : viewD H v1 = some (.int i)) (e2 : viewD H v2 = some (.int j)) : ∃ t u, a = .int i t ∧ b = .int j u := by
  obtain ⟨_, r1⟩ := view_ok S.hok ha e1
  obtain ⟨_, r2⟩ := view_ok S.hok hb e2
  exact reads_twoi r1 r2
theorem opV_ok {op : Operator} {v1 v2 : V} {a b : Value} {Q : PyData → Prop} {P : Value → Shared → Prop} (S : St W env nm Φ s μ ρ H) (ha : VOk s.heap (Out Φ env) μ v1 a) (hb : VOk s.heap (Out Φ env) μ v2 b) (h : opV op v1 v2 H Q)
    (hP : ∀ z r h' t, St W env nm Φ { s with heap := h', toks := t } μ ρ H → Ext s.heap μ h' μ → VOk h' (Out Φ env) μ (.d z) r → Q z → P r { s with heap := h', toks := t }) : wpAny (model W.prog W.w) A (binaryOp op a b) P E s := by
  obtain ⟨x, y, e1, e2, h⟩ := opV0_cases h.go
  have simple : ∀ (z : PyData) (r : Value) (t : Nat), Reads s.heap r z [] → Q z → P r { s with heap := s.heap, toks := t } := fun z r t hr hq => hP z r s.heap t (S.toks t) Ext.refl (vok_val hr) hq
  cases op with
  | Add =>
    rcases addW_cases h with ⟨i, j, rfl, rfl, h⟩ | ⟨i, j, rfl, rfl, h⟩ | ⟨i, j, rfl, rfl, h⟩ | ⟨i, j, rfl, rfl, h⟩
    · obtain ⟨_, _, rfl, rfl⟩ := int_view S ha hb e1 e2
      exact PySem.P.add_int (simple _ _ _ (.int _ _) h)
    · obtain ⟨_, r1⟩ := view_ok S.hok ha e1; obtain ⟨_, r2⟩ := view_ok S.hok hb e2; obtain ⟨t, u, rfl, rfl⟩ := reads_two r1 r2
      exact PyProof.Rows.add_str (fun t' tk => simple _ _ _ (.str _ _) h.2) (Nat.le_trans h.1 sizeLine_big)
    · exact add_list S ha hb e1 e2 h hP
    · exact add_tup S ha hb e1 e2 h hP
  | Sub => obtain ⟨i, j, rfl, rfl, h⟩ := intW_cases h; obtain ⟨_, _, rfl, rfl⟩ := int_view S ha hb e1 e2; exact PySem.P.sub_int (simple _ _ _ (.int _ _) h)
  | Mult => obtain ⟨i, j, rfl, rfl, h⟩ := intW_cases h; obtain ⟨_, _, rfl, rfl⟩ := int_view S ha hb e1 e2; exact PySem.P.mul_int (simple _ _ _ (.int _ _) h.2) h.1
  | Mod => obtain ⟨i, j, rfl, rfl, h⟩ := intW_cases h; obtain ⟨_, _, rfl, rfl⟩ := int_view S ha hb e1 e2; exact PyProof.Rows.mod_int h.1 (simple _ _ _ (.int _ _) h.2)
  | FloorDiv => obtain ⟨i, j, rfl, rfl, h⟩ := intW_cases h; obtain ⟨_, _, rfl, rfl⟩ := int_view S ha hb e1 e2; exact PyProof.Rows.floordiv_int h.1 (simple _ _ _ (.int _ _) h.2.2) (.inl (PyProof.noPylong_small h.2.1))
  | Pow => obtain ⟨i, j, rfl, rfl, h⟩ := intW_cases h; obtain ⟨_, _, rfl, rfl⟩ := int_view S ha hb e1 e2; exact PyProof.Rows.pow_int h.1 h.2.1 (simple _ _ _ (.int _ _) h.2.2)
  | _ => exact h.elim

noncomputable def t_snd_bin (op : Operator) (x : Tr) (y : Tr) : Tr := fun d ρ H Q => x d ρ H fun v1 H => y d ρ H fun v2 H => opV op v1 v2 H fun z => Q (.d z) H
theorem snd_bin {l r : Expr} {op : Operator} {pos : Pos} {x y : Tr} (h1 : SndE W sc nm l x) (h2 : SndE W sc nm r y) :
    SndE W sc nm (.BinOp l op r pos) (t_snd_bin op x y) :=
  .mk fun Q d A E s env Φ μ ρ H hE hA S hq => by
    refine wpAny_BinOp (wpAny_mono (h1.go _ d A E s env Φ μ ρ H hE hA S hq) (fun a s₁ p => ?_) fun _ _ x => x)
    refine PostE.use p fun v1 H₁ μ₁ S₁ x₁ hv1 hq => ?_
    clear p
    refine wpAny_mono (h2.go _ d A E s₁ env Φ μ₁ ρ H₁ hE hA S₁ hq) (fun b s₂ p => ?_) fun _ _ x => x
    refine PostE.use p fun v2 H₂ μ₂ S₂ x₂ hv2 hq => ?_
    clear p
    exact opV_ok S₂ (hv1.mv (x₂.mv S₁.hok)) hv2 hq fun z r h' t S₃ x₃ hv₃ hq => ⟨.d z, H₂, μ₂, S₃, (x₁.trans x₂).trans x₃, hv₃, hq⟩

noncomputable def t_snd_neg (k : Int) : Tr := fun _ _ H Q => Q (.d (.int (-k))) H
theorem snd_neg {k : Int} {kd kp pos} : SndE W sc nm (.UnaryOp .USub (.Constant (.int k) kd kp) pos) (t_snd_neg k) :=
  .mk fun Q d A E s env Φ μ ρ H hE hA S hq => UnaryOp_ (wpAny_Constant_int (PyProof.Rows.neg_int (post_here (t := s.toks + 1 + 1) S (vok_val (.int _ _)) hq)))

/-! ### calls of what the language brings -/
noncomputable def NatW (W : Wd) (f : Value) (pre : List V → List O → (V → List O → Prop) → Prop) : Prop :=
  ∀ (Q : V → List O → Prop) (A : Around) (E : Value → Shared → Prop) (s : Shared) (env : Env) (nm : List Str) (Φ : Addr → Prop) (μ : Mu) (ρ : Rho) (H : List O) (vs : List V) (cvs : List Value),
    A.handled = none → A.units + 64 < cLine → St W env nm Φ s μ ρ H → VsOk s.heap (Out Φ env) μ vs cvs → pre vs H Q → wpAny (model W.prog W.w) A (call f cvs) (PostE W env nm Φ s μ ρ Q) E s

noncomputable def t_snd_type (xs : TrL) (pre : List V → List O → (V → List O → Prop) → Prop) : Tr := fun d ρ H Q => xs d ρ H fun vs H => pre vs H Q
theorem snd_type {id : Str} {T : String} {fp pos : Pos} {args : List Expr} {xs : TrL} {pre : List V → List O → (V → List O → Prop) → Prop} (hn : NatW W (.type T) pre) (hg : globOk sc id = true) (hm : W.mg id = none) (hb : W.mb id = some (.type T)) (hp : plainArgs args = true) (h : SndL W sc nm args xs) :
    SndE W sc nm (.Call (.Name id fp) args [] pos) (t_snd_type xs pre) :=
  .mk fun Q d A E s env Φ μ ρ H hE hA S hq => by
    refine wpAny_Call_Name_kw (load_builtin hg hE S hm hb ?_)
    show wpAny _ _ (callWith pos (.type T) [] (backTo pos (starEach args env)) []) _ _ _
    refine PySem.callWith_type (starEach_plain hp env pos) (args_ok h hp hE hA S hq fun cvs s₁ p => ?_)
    refine PostEs.use p fun vs H₁ μ₁ S₁ x₁ hvs hq => ?_
    clear p
    exact wpAny_mono (hn Q A E s₁ env nm Φ μ₁ ρ H₁ vs cvs hA.handled hA.room S₁ hvs hq) (fun _ _ p => p.after x₁) fun _ _ x => x
noncomputable def t_snd_builtin (xs : TrL) (pre : List V → List O → (V → List O → Prop) → Prop) : Tr := fun d ρ H Q => xs d ρ H fun vs H => pre vs H Q
theorem snd_builtin {id : Str} {T : String} {fp pos : Pos} {args : List Expr} {xs : TrL} {pre : List V → List O → (V → List O → Prop) → Prop} (hn : NatW W (.builtin T) pre) (hg : globOk sc id = true) (hm : W.mg id = none) (hb : W.mb id = some (.builtin T)) (hp : plainArgs args = true) (h : SndL W sc nm args xs) :
    SndE W sc nm (.Call (.Name id fp) args [] pos) (t_snd_builtin xs pre) :=
  .mk fun Q d A E s env Φ μ ρ H hE hA S hq => by
    refine wpAny_Call_Name_kw (load_builtin hg hE S hm hb ?_)
    show wpAny _ _ (callWith pos (.builtin T) [] (backTo pos (starEach args env)) []) _ _ _
    refine Calls.callWith_builtin (starEach_plain hp env pos) (args_ok h hp hE hA S hq fun cvs s₁ p => ?_)
    refine PostEs.use p fun vs H₁ μ₁ S₁ x₁ hvs hq => ?_
    clear p
    exact wpAny_mono (hn Q A E s₁ env nm Φ μ₁ ρ H₁ vs cvs hA.handled hA.room S₁ hvs hq) (fun _ _ p => p.after x₁) fun _ _ x => x

theorem vs_one {h : Heap} {Φ : Addr → Prop} {μ : Mu} {v : V} {cvs : List Value} (h1 : VsOk h Φ μ [v] cvs) : ∃ cv, cvs = [cv] ∧ VOk h Φ μ v cv := by
  cases cvs with
  | nil => exact h1.elim
  | cons cv r => cases r with
    | cons => exact h1.2.elim
    | nil => exact ⟨cv, rfl, h1.1⟩
theorem vs_two {h : Heap} {Φ : Addr → Prop} {μ : Mu} {v w : V} {cvs : List Value} (h1 : VsOk h Φ μ [v, w] cvs) : ∃ cv cw, cvs = [cv, cw] ∧ VOk h Φ μ v cv ∧ VOk h Φ μ w cw := by
  cases cvs with
  | nil => exact h1.elim
  | cons cv r => cases r with
    | nil => exact h1.2.elim
    | cons cw r => cases r with
      | cons => exact h1.2.2.elim
      | nil => exact ⟨cv, cw, rfl, h1.1, h1.2.1⟩

theorem nat_len : NatW W (.builtin "len") fun vs H Q => one_ vs fun v => (match dictOf? H v with | some l => l.length ≤ 65536 ∧ Q (.d (.int l.length)) H | none => seqV v H fun l => l.length ≤ 65536 ∧ Q (.d (.int l.length)) H) :=
  fun Q A E s env nm Φ μ ρ H vs cvs hh hu S hvs hq => by
    obtain ⟨v, rfl, hq1⟩ := one_some hq
    obtain ⟨cv, rfl, hv⟩ := vs_one hvs
    cases e : dictOf? H v with
    | some l =>
      rw [e] at hq1
      obtain ⟨i, p, rfl, hi, hp, rfl, hpp, kvs, hd, hr⟩ := dict_ok S.hok hv e
      have hlen : kvs.length = l.length := by
        have : ∀ {l : List (Str × PyData)} {kvs : List (Str × Value)}, DictRel s.heap l kvs → kvs.length = l.length := by
          intro l
          induction l with
          | nil => intro kvs h; cases kvs with
            | nil => rfl
            | cons => exact h.elim
          | cons a l ih => intro kvs h; cases kvs with
            | nil => exact h.elim
            | cons b kvs => rw [List.length_cons, List.length_cons, ih h.2.2]
        exact this hr
      refine call_len_dict (off_modules S (FP.at hp).1) hd (by lia) ?_
      rw [hlen]
      exact post_here S (vok_val (.int _ _)) hq1.2
    | none =>
      rw [e] at hq1
      obtain ⟨a, ws, as, l, rfl, hb, hr, ho, hle, hq⟩ := seqV_some S hv hq1
      have hlen := readsAll_len hr
      rcases hb with ht | ht
      · refine len_tuple ht (by rw [List.size_toArray]; lia) ?_
        rw [List.size_toArray, hlen]
        exact post_here S (vok_val (.int _ _)) hq
      · refine call_len_list ht (by rw [List.size_toArray]; lia) ?_
        rw [List.size_toArray, hlen]
        exact post_here S (vok_val (.int _ _)) hq

theorem nat_tuple : NatW W (.type "tuple") fun vs H Q => one_ vs fun v => seqV v H fun l => l.length ≤ 65536 ∧ Q (.d (.tuple l)) H :=
  fun Q A E s env nm Φ μ ρ H vs cvs hh hu S hvs hq => by
    obtain ⟨v, rfl, hq1⟩ := one_some hq
    obtain ⟨cv, rfl, hv⟩ := vs_one hvs
    obtain ⟨a, ws, as, l, rfl, hb, hr, ho, hle, hq⟩ := seqV_some S hv hq1
    have hlen := readsAll_len hr
    have hbig := sizeLine_big
    rcases hb with ht | ht
    · have hr' : VOk s.heap (Out Φ env) μ (.d (.tuple l)) (.ref a) := by
        obtain ⟨o, h1, h2, n, h3⟩ := ht
        exact ⟨as, reads_tuple_at h1 h2 h3 (readsAll_at hr), ho⟩
      exact PySem.call_tuple_same ht (post_here' S hr' hq)
    · refine wpAny_size (call_tuple_list ht (fun h' hk hs => ?_) (by rw [List.size_toArray]; lia))
      have g : ∀ b o, s.heap.get? b = some o → (h'.push { cls := .type "tuple", data := .seq ws.toArray }).get? b = some o := fun b o e => Heap.get?_push_of_some _ (hk b o e)
      exact ⟨.d (.tuple l), H, μ, S.grow (s' := { s with heap := h'.push { cls := .type "tuple", data := .seq ws.toArray } }) g hs rfl rfl, Ext.grow g hs, ⟨as, reads_tuple_at (Heap.get?_push_size _ rfl) rfl rfl (readsAll_at (ReadsAll.keeps g hr)), ho⟩, hq⟩

theorem nat_list : NatW W (.type "list") fun vs H Q => one_ vs fun v => seqV v H fun l => l.length ≤ 65536 ∧ Q (.ref H.length) (H ++ [.list l]) :=
  fun Q A E s env nm Φ μ ρ H vs cvs hh hu S hvs hq => by
    obtain ⟨v, rfl, hq1⟩ := one_some hq
    obtain ⟨cv, rfl, hv⟩ := vs_one hvs
    obtain ⟨a, ws, as, l, rfl, hb, hr, ho, hle, hq⟩ := seqV_some S hv hq1
    have hlen := readsAll_len hr
    have hbig := sizeLine_big
    have fin : ∀ h' c', s.heap.objs.size ≤ h'.objs.size → (∀ b o', s.heap.get? b = some o' → h'.get? b = some o') → h'.get? s.heap.objs.size = some { cls := .type "list", dict := none, data := .seq ws.toArray c', slots := #[] } → PostE W env nm Φ s μ ρ Q (.ref s.heap.objs.size) { s with heap := h' } := fun h' c' hs hk he => by
      obtain ⟨S₂, x₂, hv₂⟩ := S.newList hr ho (t := s.toks) (Nat.le_refl _) hk hs ⟨c', he⟩
      exact ⟨.ref H.length, _, _, S₂, x₂, hv₂, hq⟩
    rcases hb with ⟨o, h1, h2, n, h3⟩ | ⟨o, h1, h2, n, h3⟩
    · exact wpAny_size (call_list_seq a (.inr rfl) h1 h2 h3 (fun h' c' hk he hs => fin h' c' hs hk he) (by rw [List.size_toArray]; lia))
    · exact wpAny_size (call_list_seq a (.inl rfl) h1 h2 h3 (fun h' c' hk he hs => fin h' c' hs hk he) (by rw [List.size_toArray]; lia))

theorem nat_str : NatW W (.type "str") fun vs H Q => one_ vs fun v => intV v fun n => -1000000 < n ∧ n < 1000000 ∧ Q (.d (.str (Str.ofString (toString n)))) H :=
  fun Q A E s env nm Φ μ ρ H vs cvs hh hu S hvs hq => by
    obtain ⟨v, rfl, hq1⟩ := one_some hq
    obtain ⟨cv, rfl, hv⟩ := vs_one hvs
    obtain ⟨n, rfl, hq1⟩ := intV_some hq1
    obtain ⟨as, r, _⟩ := hv
    obtain ⟨t, rfl⟩ := reads_int r
    exact P.str_of_int (PyProof.Rows.shown (N := 1000000) hq1.1 hq1.2.1 (by decide +kernel)) (post_here S (vok_val (.str _ _)) hq1.2.2)

theorem nat_int : NatW W (.type "int") fun vs H Q => one_ vs fun v => boolV v fun b => Q (.d (.int (if b then 1 else 0))) H :=
  fun Q A E s env nm Φ μ ρ H vs cvs hh hu S hvs hq => by
    obtain ⟨v, rfl, hq1⟩ := one_some hq
    obtain ⟨cv, rfl, hv⟩ := vs_one hvs
    obtain ⟨b, rfl, hq1⟩ := boolV_some hq1
    obtain ⟨as, r, _⟩ := hv
    obtain rfl := reads_bool r
    exact call_int_bool (post_here S (vok_val (.int _ _)) hq1)

theorem ite_int {h : Heap} {c : Prop} [Decidable c] {a b : Int} {t u : Nat} : Reads h (if c then .int b u else .int a t) (.int (if c then b else a)) [] := by
  by_cases hc : c
  · rw [if_pos hc, if_pos hc]; exact .int _ _
  · rw [if_neg hc, if_neg hc]; exact .int _ _
noncomputable def two_ (vs : List V) (Q : Int → Int → Prop) : Prop := match vs with | [] => False | v :: r => one_ r fun w => intV v fun a => intV w fun b => Q a b
theorem two_some {vs : List V} {Q : Int → Int → Prop} (h : two_ vs Q) : ∃ a b, vs = [.d (.int a), .d (.int b)] ∧ Q a b := by
  cases vs with
  | nil => exact False.elim h
  | cons v r => exact let ⟨w, e, h⟩ := one_some h; let ⟨a, ea, h⟩ := intV_some h; let ⟨b, eb, h⟩ := intV_some h; ⟨a, b, by rw [e, ea, eb], h⟩

theorem nat_max : NatW W (.builtin "max") fun vs H Q => two_ vs fun a b => Q (.d (.int (if b > a then b else a))) H :=
  fun Q A E s env nm Φ μ ρ H vs cvs hh hu S hvs hq => by
    obtain ⟨a, b, rfl, hq⟩ := two_some hq
    obtain ⟨cv, cw, rfl, ⟨_, r1, _⟩, ⟨_, r2, _⟩⟩ := vs_two hvs
    obtain ⟨t, u, rfl, rfl⟩ := reads_twoi r1 r2
    refine wpAny_size (max_two_ints hh fun h' tk hk hs => ?_)
    refine ⟨.d (.int (if b > a then b else a)), H, μ, S.grow (s' := { s with heap := h', toks := tk }) hk hs rfl rfl, Ext.grow hk hs, vok_val ?_, hq⟩
    exact ite_int
theorem nat_min : NatW W (.builtin "min") fun vs H Q => two_ vs fun a b => Q (.d (.int (if b < a then b else a))) H :=
  fun Q A E s env nm Φ μ ρ H vs cvs hh hu S hvs hq => by
    obtain ⟨a, b, rfl, hq⟩ := two_some hq
    obtain ⟨cv, cw, rfl, ⟨_, r1, _⟩, ⟨_, r2, _⟩⟩ := vs_two hvs
    obtain ⟨t, u, rfl, rfl⟩ := reads_twoi r1 r2
    refine wpAny_size (min_two_ints hh fun h' tk hk hs => ?_)
    refine ⟨.d (.int (if b < a then b else a)), H, μ, S.grow (s' := { s with heap := h', toks := tk }) hk hs rfl rfl, Ext.grow hk hs, vok_val ?_, hq⟩
    exact ite_int
end

/-! ## M18 -/
noncomputable def swapC (sc : Scope) (ts vs : List Expr) : Option (List Str) :=
  if !(ts.length == 2 || ts.length == 3) || vs.length != ts.length || sc.kind != .function then none
  else if (vs.any fun | .Starred .. => true | _ => false) then none
  else
    let line := (ts.head?.map (·.pos.line)).getD 0
    let names := ts.filterMap fun
      | .Name id pos => if sc.names.lookup id == some .local && pos.line == line then some id else none
      | _ => none
    if names.length != ts.length || names.eraseDups.length != names.length then none
    else if vs.all (foldedForSure 8) then none
    else some names

theorem sw_lem {α : Type} (c1 c2 c3 c4 c5 : Bool) (names : α) (u : Sem (Option α)) (h : c5 = false) :
    (if c1 = true then pure none else if c2 = true then pure none else if c3 = true then pure none else if c4 = true then pure none else if c5 = true then u else pure (some names) : Sem (Option α)) =
      pure (if c1 = true then none else if c2 = true then none else if c3 = true then none else if c4 = true then none else some names) := by
  subst h; cases c1 <;> cases c2 <;> cases c3 <;> cases c4 <;> rfl

theorem swapC_eq {sc : Scope} {env : Env} {ts vs : List Expr} {k p k' p'} (hE : EnvOk sc env) (hk : sc.kind = .function) (hc : vs.all (constantsAlone 8) = false) :
    swappedStores [.Tuple ts k p] (.Tuple vs k' p') env = pure (swapC sc ts vs) := by
  have e : env.blockKind = sc.kind := by unfold Env.blockKind; rw [hE.scope, hk]; rfl
  have e2 : env.kindOf = fun y => sc.names.lookup y := funext fun y => by show env.scope.names.lookup y = _; rw [hE.scope]
  unfold swappedStores swapC
  rw [e, e2]
  exact sw_lem _ _ _ _ _ _ _ hc

/-- the targets are the names ys -/
noncomputable def NameTs : List Expr → List Str → Prop
  | [], ys => ys = []
  | e :: ts, ys => match ys with
    | y :: ys => (∃ p, e = .Name y p) ∧ NameTs ts ys
    | [] => False
noncomputable def setAll : Rho → List Nat → List V → Rho
  | ρ, [], _ => ρ
  | ρ, i :: is, vs => match vs with
    | v :: vs => setAll (ρ.set i (some v)) is vs
    | [] => ρ
noncomputable def slotsOk (sc : Scope) (nm : List Str) : List Str → List Nat → Bool
  | [], is => is.isEmpty
  | y :: ys, is => match is with
    | i :: is => slotSt sc nm y i && slotsOk sc nm ys is
    | [] => false
noncomputable def StoreFs (env : Env) : List (Value → Sem Unit) → List Str → Prop
  | [], xs => xs = []
  | f :: fs, xs => match xs with
    | x :: xs => (f = bindName env x ∨ ∃ p, f = assign (.Name x p) env) ∧ StoreFs env fs xs
    | [] => False

section
variable {W : Wd} {sc : Scope} {nm : List Str} {env : Env} {Φ : Addr → Prop} {s s' : Shared} {μ μ' : Mu} {ρ : Rho} {H H' : List O} {A : Around} {E : Value → Shared → Prop}

theorem store_all (hE : EnvOk sc env) {H : List O} {Q : Unit → Shared → Prop} (fs : List (Value → Sem Unit)) : ∀ {xs : List Str} {is : List Nat} {vs : List V} {cvs : List Value} {s : Shared} {ρ : Rho}, StoreFs env fs xs → slotsOk sc nm xs is = true → vs.length = xs.length → St W env nm Φ s μ ρ H → VsOk s.heap (Out Φ env) μ vs cvs →
    (∀ h' t, St W env nm Φ { s with heap := h', toks := t } μ (setAll ρ is vs) H → ExtS env s.heap μ h' μ → Q () { s with heap := h', toks := t }) → wpAny (model W.prog W.w) A (assignInOrder fs cvs) Q E s := by
  induction fs with
  | nil =>
    intro xs is vs cvs s ρ hf hs hl S hv hq
    obtain rfl : xs = [] := hf
    refine assignInOrder_nil ?_
    obtain rfl : vs = [] := List.length_eq_zero_iff.mp hl
    have e : setAll ρ is [] = ρ := by cases is <;> rfl
    rw [e] at hq
    exact hq s.heap s.toks S .refl
  | cons f fs ih =>
    intro xs is vs cvs s ρ hf hs hl S hv hq
    cases xs with
    | nil => exact False.elim hf
    | cons x xs => cases is with
      | nil => cases hs
      | cons i is => cases vs with
        | nil => cases hl
        | cons v vs => cases cvs with
          | nil => exact False.elim hv
          | cons cv cvs =>
            obtain ⟨hs1, hs2⟩ := Bool.and_eq_true_iff.mp hs
            refine assignInOrder_cons ?_
            have go : wpAny (model W.prog W.w) A (storeName env x cv) (fun _ s₁ => wpAny (model W.prog W.w) A (assignInOrder fs cvs) Q E s₁) E s :=
              store_ok hs1 hE S hv.1 fun h' t S₂ x₂ up => ih (s := { s with heap := h', toks := t }) hf.2 hs2 (Nat.succ.inj hl) S₂ (vsOk_ind (fun vs cvs => VsOk h' (Out Φ env) μ vs cvs) trivial (fun a _ b => ⟨up _ _ a, b⟩) hv.2) fun h'' t' S₃ x₃ => hq h'' t' S₃ (x₂.trans x₃)
            exact hf.1.elim (fun e => e ▸ wpAny_bindName go) fun ⟨p, e⟩ => e ▸ wpAny_assign_Name go

theorem tgt_fs (ts : List Expr) : ∀ {ys : List Str}, NameTs ts ys → StoreFs env ((assignEach ts env).map (·.2)) ys ∧ (assignEach ts env).length = ys.length ∧ (assignEach ts env).findIdx? (·.1) = none := by
  induction ts with
  | nil => exact fun h => ⟨h, h ▸ rfl, rfl⟩
  | cons e ts ih =>
    intro ys h
    cases ys with
    | nil => exact False.elim h
    | cons y ys =>
      obtain ⟨⟨p, rfl⟩, h⟩ := h
      obtain ⟨a, c, d⟩ := ih h
      refine ⟨⟨.inr ⟨_, rfl⟩, a⟩, congrArg (· + 1) c, ?_⟩
      show (((false, _) :: assignEach ts env).findIdx? (·.1)) = none
      rw [List.findIdx?_cons, d]; rfl

theorem rev_fs {env : Env} {ys : List Str} : StoreFs env (ys.map fun n => bindName env n) ys := by
  induction ys with
  | nil => rfl
  | cons y ys ih => exact ⟨.inl rfl, ih⟩

theorem vsok_rev {h : Heap} {Φ : Addr → Prop} {μ : Mu} {vs : List V} {cvs : List Value} (r : VsOk h Φ μ vs cvs) : ∀ {ws : List V} {cws : List Value}, VsOk h Φ μ ws cws → VsOk h Φ μ (vs.reverse ++ ws) (cvs.reverse ++ cws) := by
  refine vsOk_ind (fun vs cvs => ∀ (ws : List V) (cws : List Value), VsOk h Φ μ ws cws → VsOk h Φ μ (vs.reverse ++ ws) (cvs.reverse ++ cws)) (fun _ _ h => h) (fun {v c vs cvs} h1 _ ih ws cws g => ?_) r _ _
  rw [List.reverse_cons, List.reverse_cons, List.append_assoc, List.append_assoc]
  exact ih (v :: ws) (c :: cws) ⟨h1, g⟩

noncomputable def t_sns_assign_tt (ys : List Str) (is : List Nat) (xs : TrL) (sw : Bool) : TrS := fun d ρ H Q => xs d ρ H fun vs H => guard (Nat.beq vs.length ys.length) (guard (Nat.ble vs.length 65536) (Q .next (if sw = true then setAll ρ is.reverse vs.reverse else setAll ρ is vs) H))
/-- x, y = (e, f) -/
theorem sns_assign_tt {ts es : List Expr} {k p k' p' pos} (ys : List Str) (is : List Nat) {xs : TrL} (hk : sc.kind = .function) (hc : es.all (constantsAlone 8) = false) (ht : NameTs ts ys) (t2 : slotsOk sc nm ys is = true) {sw : Bool} (hsw : swapC sc ts es = if sw = true then some ys else none) (hsr : slotsOk sc nm ys.reverse is.reverse = true)
    (h : SndL W sc nm es xs) (hlen : es.length = ts.length) (hs : ∀ env, swapsWithSole [.Tuple ts k p] (.Tuple es k' p') pos.line env = pure false := by intro _; rfl) :
    SndS W sc nm (.Assign [.Tuple ts k p] (.Tuple es k' p') pos) (t_sns_assign_tt ys is xs sw) :=
  .mk fun Q d A E s env Φ μ ρ H hE hA S hq => by
    obtain ⟨t1, t3, t4⟩ := tgt_fs (env := env) _ ht
    have hw := swapC_eq (k := k) (p := p) (k' := k') (p' := p') hE hk hc (ts := ts)
    have hbig := sizeLine_big
    have disp : ∀ {P : Value → Shared → Prop}, (∀ vs H₁ μ₁ s₁ cvs a, St W env nm Φ s₁ μ₁ ρ H₁ → Ext s.heap μ s₁.heap μ₁ → VsOk s₁.heap (Out Φ env) μ₁ vs cvs → IsTup s₁.heap a (cvs : List Value).toArray → (vs.length = ys.length ∧ vs.length ≤ 65536 ∧ Q .next (if sw = true then setAll ρ is.reverse vs.reverse else setAll ρ is vs) H₁) → P (.ref a) s₁) →
        wpAny (model W.prog W.w) A (eval (.Tuple es k' p') env) P E s := fun hP => by
      refine wpAny_Tuple_spliced (wpAny_mono (h.go p' _ d A E s env Φ μ ρ H hE hA S hq) (fun cvs s₁ p => ?_) fun _ _ x => x)
      refine PostEs.use p fun vs H₁ μ₁ S₁ x₁ hvs hq => ?_
      clear p
      have hq := gd_two hq
      have hl := hvs.length
      refine ⟨by lia, ?_⟩
      have g : ∀ b o, s₁.heap.get? b = some o → (s₁.heap.push { cls := .type "tuple", data := .seq cvs.toArray }).get? b = some o := fun b o e => Heap.get?_push_of_some _ e
      have hsz : s₁.heap.objs.size ≤ (s₁.heap.push { cls := .type "tuple", data := .seq cvs.toArray }).objs.size := by rw [Heap.size_push]; exact Nat.le_succ _
      exact hP vs H₁ μ₁ _ cvs _ (S₁.grow (s' := { s₁ with heap := s₁.heap.push { cls := .type "tuple", data := .seq cvs.toArray } }) g hsz rfl rfl) (x₁.trans (Ext.grow g hsz)) (hvs.mv ((Ext.grow g hsz).mv S₁.hok)) (IsTup.new _ _) hq
    have unp : ∀ {s₁ : Shared} {μ₁ : Mu} {H₁ : List O} {cvs : List Value} {a : Addr} {P : List Value → Shared → Prop} {vs : List V}, St W env nm Φ s₁ μ₁ ρ H₁ → VsOk s₁.heap (Out Φ env) μ₁ vs cvs → IsTup s₁.heap a cvs.toArray → (∀ h', St W env nm Φ { s₁ with heap := h' } μ₁ ρ H₁ → Ext s₁.heap μ₁ h' μ₁ → VsOk h' (Out Φ env) μ₁ vs cvs → P cvs { s₁ with heap := h' }) →
        wpAny (model W.prog W.w) A (unpackItems (.ref a) cvs.length none) P E s₁ := fun {s₁ μ₁ H₁ cvs a P vs} S₁ hvs ht hP => by
      have hm : wpAny (model W.prog W.w) A (unpackItems (.ref a) cvs.toArray.size none) P E s₁ := by
        refine wpAny_size (wpAny_unpackItems_tuple hA.handled ht fun h' hx hs => ?_)
        have hk : ∀ b o, s₁.heap.get? b = some o → h'.get? b = some o := fun b o e => hx b o (Nat.ne_of_lt (Heap.lt_size e)) e
        have x := Ext.grow (μ := μ₁) hk hs
        have := hP h' (S₁.grow (s' := { s₁ with heap := h' }) hk hs rfl rfl) x (hvs.mv (x.mv S₁.hok))
        simpa using this
      simpa using hm
    cases sw with
    | false =>
      rw [if_neg Bool.false_ne_true] at hsw
      rw [hsw] at hw
      refine Assign_Tuple (disp fun vs H₁ μ₁ s₁ cvs a S₁ x₁ hvs ht hq => ?_) (hs env) hw
      rw [if_neg Bool.false_ne_true] at hq
      have hl := hvs.length
      obtain ⟨hq1, hq2, hq⟩ := hq
      rw [arm_assign_Tuple]
      refine wpAny_bind (wpAny_standAt ?_)
      unfold unpack
      have e3 : (assignEach ts env).length = cvs.length := by lia
      rw [e3, t4]
      refine wpAny_bind (wpAny_holding (unp S₁ hvs ht fun h' S₂ x₂ hvs₂ => ?_))
      exact store_all (nm := nm) (is := is) (vs := vs) hE _ (xs := ys) t1 t2 hq1 S₂ hvs₂ fun h'' t S₃ x₃ => ⟨.next, _, H₁, μ₁, S₃, (x₁.trans x₂).s.trans x₃, .next, hq⟩
    | true =>
      rw [if_pos rfl] at hsw
      rw [hsw] at hw
      refine Assign_Tuple_swapped (disp fun vs H₁ μ₁ s₁ cvs a S₁ x₁ hvs ht hq => ?_) (hs env) hw
      rw [if_pos rfl] at hq
      obtain ⟨hq1, hq2, hq⟩ := hq
      have hl := hvs.length
      have hyl : ys.length = cvs.length := by lia
      rw [hyl]
      refine unp S₁ hvs ht fun h' S₂ x₂ hvs₂ => ?_
      refine store_all (nm := nm) (is := is.reverse) (vs := vs.reverse) hE _ (xs := ys.reverse) rev_fs hsr (by simp [hq1]) S₂ (by simpa using vsok_rev hvs₂ (show VsOk h' (Out Φ env) μ₁ [] [] from trivial)) fun h'' t S₃ x₃ => ?_
      exact ⟨.next, _, H₁, μ₁, S₃, (x₁.trans x₂).s.trans x₃, .next, hq⟩

theorem vsok_d {h : Heap} {Φ : Addr → Prop} {μ : Mu} {ds : List PyData} {cvs : List Value} {as : List Addr} (r : ReadsAll h cvs ds as) : Off Φ μ as → VsOk h Φ μ (ds.map .d) cvs :=
  readsAll_ind (fun cvs ds as => Off Φ μ as → VsOk h Φ μ (ds.map .d) cvs) (fun _ => trivial) (fun h1 _ ih ho => ⟨⟨_, h1, all_l ho⟩, ih (all_r ho)⟩) r

noncomputable def t_sns_assign_tv (ys : List Str) (is : List Nat) (x : Tr) : TrS := fun d ρ H Q => x d ρ H fun v H => tupV v H fun l => guard (Nat.beq l.length ys.length) (Q .next (setAll ρ is (l.map .d)) H)
/-- x, y = what is a tuple -/
theorem sns_assign_tv {ts : List Expr} {value : Expr} {k p pos} (ys : List Str) (is : List Nat) {x : Tr} (ht : NameTs ts ys) (t2 : slotsOk sc nm ys is = true) (h : SndE W sc nm value x)
    (hw : ∀ env, swappedStores [.Tuple ts k p] value env = pure none := by intro _; rfl) (hs : ∀ env, swapsWithSole [.Tuple ts k p] value pos.line env = pure false := by intro _; rfl) :
    SndS W sc nm (.Assign [.Tuple ts k p] value pos) (t_sns_assign_tv ys is x) :=
  .mk fun Q d A E s env Φ μ ρ H hE hA S hq => by
    obtain ⟨t1, t3, t4⟩ := tgt_fs (env := env) _ ht
    refine Assign_Tuple (wpAny_mono (h.go _ d A E s env Φ μ ρ H hE hA S hq) (fun cv s₁ p => ?_) fun _ _ x => x) (hs env) (hw env)
    refine PostE.use p fun v H₁ μ₁ S₁ x₁ hv hq => ?_
    clear p
    obtain ⟨l, e, hq⟩ := tupV_some hq
    obtain ⟨hl, hq⟩ := gd_eq hq
    obtain ⟨a, cvs, as, rfl, ht', hr, ho⟩ := view_tup hv e
    have hlen := readsAll_len hr
    rw [arm_assign_Tuple]
    refine wpAny_bind (wpAny_standAt ?_)
    unfold unpack
    have e3 : (assignEach ts env).length = cvs.toArray.size := by rw [List.size_toArray]; lia
    rw [e3, t4]
    have hm : wpAny (model W.prog W.w) A (unpackItems (.ref a) cvs.toArray.size none) (fun items s₂ => wpAny (model W.prog W.w) A (assignInOrder ((assignEach ts env).map (·.2)) items) (fun _ s' => PostS W env nm Φ s μ Q .next s') E s₂) E s₁ := by
      refine wpAny_size (wpAny_unpackItems_tuple hA.handled ht' fun h' hx hs => ?_)
      have hk : ∀ b o, s₁.heap.get? b = some o → h'.get? b = some o := fun b o e => hx b o (Nat.ne_of_lt (Heap.lt_size e)) e
      have x₂ := Ext.grow (μ := μ₁) hk hs
      have S₂ := S₁.grow (s' := { s₁ with heap := h' }) hk hs rfl rfl
      have hvs := (vsok_d hr ho).mv (x₂.mv S₁.hok)
      exact store_all (nm := nm) (is := is) (vs := l.map .d) hE _ (xs := ys) t1 t2 (by simpa using hl) S₂ hvs fun h'' t S₃ x₃ => ⟨.next, _, H₁, μ₁, S₃, (x₁.trans x₂).s.trans x₃, .next, hq⟩
    exact wpAny_bind (wpAny_holding hm)
end

/-! ## M19 -/
noncomputable def dset (l : List (Str × PyData)) (k : Str) (v : PyData) : List (Str × PyData) :=
  if l.any (fun kv => decide (kv.1 = k)) then l.map (fun kv => if kv.1 = k then (kv.1, v) else kv) else l ++ [(k, v)]

theorem dictRel_any {h : Heap} {l : List (Str × PyData)} {kvs : List (Str × Value)} {k : Str} (r : DictRel h l kvs) : (l.any fun kv => decide (kv.1 = k)) = (kvs.any fun kv => decide (kv.1 = k)) :=
  dictRel_ind (fun l kvs => (l.any fun kv => decide (kv.1 = k)) = (kvs.any fun kv => decide (kv.1 = k))) rfl (fun e _ _ ih => by rw [List.any_cons, List.any_cons, e, ih]) r
theorem dictRel_map {h : Heap} {k : Str} {v : PyData} {cv : Value} (hv : Reads h cv v []) {l : List (Str × PyData)} {kvs : List (Str × Value)} (r : DictRel h l kvs) :
    DictRel h (l.map fun kv => if kv.1 = k then (kv.1, v) else kv) (kvs.map fun kv => if kv.1 = k then (kv.1, cv) else kv) := by
  refine dictRel_ind (fun l kvs => DictRel h (l.map fun kv => if kv.1 = k then (kv.1, v) else kv) (kvs.map fun kv => if kv.1 = k then (kv.1, cv) else kv)) trivial (fun {x w xs vs} e q _ ih => ?_) r
  rw [List.map_cons, List.map_cons]
  by_cases hk : x.1 = k
  · rw [if_pos hk, if_pos (e ▸ hk)]; exact ⟨e, hv, ih⟩
  · rw [if_neg hk, if_neg (e ▸ hk)]; exact ⟨e, q, ih⟩
theorem dictRel_app {h : Heap} {k : Str} {v : PyData} {cv : Value} (hv : Reads h cv v []) {l : List (Str × PyData)} {kvs : List (Str × Value)} (r : DictRel h l kvs) : DictRel h (l ++ [(k, v)]) (kvs ++ [(k, cv)]) :=
  dictRel_ind (fun l kvs => DictRel h (l ++ [(k, v)]) (kvs ++ [(k, cv)])) ⟨rfl, hv, trivial⟩ (fun e q _ ih => ⟨e, q, ih⟩) r
theorem dictRel_set {h : Heap} {l : List (Str × PyData)} {kvs : List (Str × Value)} {k : Str} {v : PyData} {cv : Value} (hv : Reads h cv v []) (r : DictRel h l kvs) : DictRel h (dset l k v) (stored kvs k cv) := by
  unfold dset stored
  rw [dictRel_any r]
  by_cases hk : (kvs.any fun kv => decide (kv.1 = k)) = true
  · rw [if_pos hk, if_pos hk]; exact dictRel_map hv r
  · rw [if_neg hk, if_neg hk]; exact dictRel_app hv r
theorem dictRel_len {h : Heap} {l : List (Str × PyData)} {kvs : List (Str × Value)} (r : DictRel h l kvs) : kvs.length = l.length :=
  dictRel_ind (fun l kvs => kvs.length = l.length) rfl (fun _ _ _ ih => congrArg (· + 1) ih) r

/-- data without a list or dict of its own address -/
noncomputable def flatD : PyData → Bool
  | .none => true | .bool _ => true | .int _ => true | .str _ => true
  | _ => false
theorem flat_reads {h : Heap} {cv : Value} {x : PyData} {as : List Addr} (r : Reads h cv x as) (hf : flatD x = true) : as = [] ∧ ∀ h', Reads h' cv x [] := by
  have q := reads_inv r
  cases x with
  | none => exact ⟨q.2, fun _ => q.1 ▸ .none⟩
  | bool b => exact ⟨q.2, fun _ => q.1 ▸ .bool b⟩
  | int i => exact let ⟨⟨t, e⟩, e'⟩ := q; ⟨e', fun _ => e ▸ .int i t⟩
  | str x => exact let ⟨⟨t, e⟩, e'⟩ := q; ⟨e', fun _ => e ▸ .str x t⟩
  | list l => cases hf
  | tuple l => cases hf
  | dict l => cases hf

/-- o[i] = v : a dict by a name, a list by a number -/
noncomputable def dataV (v : V) (Q : PyData → Prop) : Prop := match v with
  | .d x => Q x
  | .ref _ => False
theorem dataV_some {v : V} {Q : PyData → Prop} (h : dataV v Q) : ∃ x, v = .d x ∧ Q x := by
  cases v with
  | d x => exact ⟨x, rfl, h⟩
  | ref i => exact False.elim h
noncomputable def natI (k : Int) (Q : Nat → Prop) : Prop := match k with
  | .ofNat n => Q n
  | .negSucc _ => False
theorem natI_some {k : Int} {Q : Nat → Prop} (h : natI k Q) : ∃ n, k = .ofNat n ∧ Q n := by
  cases k with
  | ofNat n => exact ⟨n, rfl, h⟩
  | negSucc n => exact False.elim h
@[reducible, simp] noncomputable def setO (o : O) (i : Nat) (v2 v3 : V) (H : List O) (Q : List O → Prop) : Prop := match o with
  | .dict l => keyV v2 fun k => dataV v3 fun z => l.length ≤ 60000 ∧ flatD z = true ∧ Q (H.set i (.dict (dset l k z)))
  | .list l => intV v2 fun k => dataV v3 fun z => natI k fun n => n < l.length ∧ l.length ≤ 65536 ∧ Q (H.set i (.list (l.set n z)))
  | _ => False
noncomputable def setW0 (v1 v2 v3 : V) (H : List O) (Q : List O → Prop) : Prop := match v1 with
  | .ref i => (match H[i]? with
    | some o => setO o i v2 v3 H Q
    | none => False)
  | .d _ => False
structure setW (v1 v2 v3 : V) (H : List O) (Q : List O → Prop) : Prop where
  mk ::
  go : setW0 v1 v2 v3 H Q

theorem setW_cases {v1 v2 v3 : V} {H : List O} {Q : List O → Prop} (h : setW v1 v2 v3 H Q) : (∃ i l k z, v1 = .ref i ∧ v2 = .d (.str k) ∧ v3 = .d z ∧ H[i]? = some (.dict l) ∧ l.length ≤ 60000 ∧ flatD z = true ∧ Q (H.set i (.dict (dset l k z)))) ∨
    ∃ i l n z, v1 = .ref i ∧ v2 = .d (.int (.ofNat n)) ∧ v3 = .d z ∧ H[i]? = some (.list l) ∧ n < l.length ∧ l.length ≤ 65536 ∧ Q (H.set i (.list (l.set n z))) := by
  replace h := h.go
  cases v1 with
  | d x => exact False.elim h
  | ref i =>
    have h : (match H[i]? with | some o => setO o i v2 v3 H Q | none => False) := h
    cases e : H[i]? with
    | none => rw [e] at h; exact False.elim h
    | some o =>
      rw [e] at h
      cases o with
      | dict l => exact let ⟨k, e2, h⟩ := keyV_some h; let ⟨z, e3, h⟩ := dataV_some h; .inl ⟨i, l, k, z, rfl, e2, e3, e, h⟩
      | list l => exact let ⟨k, e2, h⟩ := intV_some h; let ⟨z, e3, h⟩ := dataV_some h; let ⟨n, e4, h⟩ := natI_some h; .inr ⟨i, l, n, z, rfl, e4 ▸ e2, e3, e, h⟩
      | inst c l => exact False.elim h

section
variable {W : Wd} {sc : Scope} {nm : List Str} {env : Env} {Φ : Addr → Prop} {s s' : Shared} {μ μ' : Mu} {ρ : Rho} {H H' : List O} {A : Around} {E : Value → Shared → Prop}

theorem readsAll_set {h : Heap} {v : Value} {d : PyData} {bs : List Addr} (q : Reads h v d bs) {n : Nat} {vs : List Value} {ds : List PyData} {as : List Addr} (r : ReadsAll h vs ds as) : n < ds.length → ∃ cs, ReadsAll h (vs.set n v) (ds.set n d) cs ∧ ∀ x ∈ cs, x ∈ as ∨ x ∈ bs := by
  refine readsAll_ind (fun vs ds as => ∀ n, n < ds.length → ∃ cs, ReadsAll h (vs.set n v) (ds.set n d) cs ∧ ∀ x ∈ cs, x ∈ as ∨ x ∈ bs) (fun n hn => absurd hn (Nat.not_lt_zero n)) (fun h1 h2 ih n hn => ?_) r n
  cases n with
  | zero => exact ⟨_, .cons q h2, all_app (fun _ => .inr) fun x hx => .inl (List.mem_append.mpr (.inr hx))⟩
  | succ n => exact let ⟨cs, r, hc⟩ := ih n (Nat.lt_of_succ_lt_succ hn); ⟨_, .cons h1 r, all_app (fun x hx => .inl (List.mem_append.mpr (.inl hx))) fun x hx => (hc x hx).imp (fun h => List.mem_append.mpr (.inr h)) id⟩

theorem set_ok {v1 v2 v3 : V} {a b c : Value} {Q : List O → Prop} {P : Unit → Shared → Prop} (S : St W env nm Φ s μ ρ H) (h1 : VOk s.heap (Out Φ env) μ v1 a) (h2 : VOk s.heap (Out Φ env) μ v2 b) (h3 : VOk s.heap (Out Φ env) μ v3 c) (hq : setW v1 v2 v3 H Q)
    (hP : ∀ h' t H', St W env nm Φ { s with heap := h', toks := t } μ ρ H' → Ext s.heap μ h' μ → Q H' → P () { s with heap := h', toks := t }) : wpAny (model W.prog W.w) A (setItem a b c) P E s := by
  replace hq := setW_cases hq
  have hbig := sizeLine_big
  rcases hq with ⟨i, l, k, z, rfl, rfl, rfl, hi, hle, hf, hq⟩ | ⟨i, l, n, z, rfl, rfl, rfl, hi, hn, hle, hq⟩
  · obtain ⟨p, hp, rfl⟩ := h1
    obtain ⟨hpp, kvs, hd, hr⟩ := S.hok.dict hi hp
    obtain ⟨_, r2, _⟩ := h2
    obtain ⟨tk, rfl⟩ := reads_str r2
    obtain ⟨as, r3, _⟩ := h3
    obtain ⟨rfl, r3'⟩ := flat_reads r3 hf
    refine wpAny_setItem_pairs (k := k) (knd := PySem.strKind W.prog W.w) (by simp [PySem.strKind, Value.isStrOf]) hd (fun h' hd' hs => ?_) (by rw [dictRel_len hr]; lia)
    have mvt : ∀ b o, s.heap.get? b = some o → TupObj o → h'.get? b = some o := fun b o e ht => (hs.2 b fun q => by
      subst q
      exact S.hok.notTup _ (FP.at hp).1 o e ht).trans e
    obtain ⟨S', x⟩ := S.setObj (i := i) (t := s.toks + 1) (o' := .dict (dset l k z)) hp (fun b o hb _ e => (hs.2 b hb).trans e) (Nat.le_of_eq hs.1.symm) ⟨hpp, _, hd', (dictRel_set (r3' _) (hr.move mvt))⟩
    exact hP h' _ _ S' x hq
  · obtain ⟨p, hp, rfl⟩ := h1
    obtain ⟨hpp, vs, as, ⟨nn, hl⟩, hr, ho⟩ := S.hok.list hi hp
    obtain ⟨_, r2, _⟩ := h2
    obtain ⟨tk, rfl⟩ := reads_int r2
    obtain ⟨bs, r3, o3⟩ := h3
    have hsz := list_size hr
    have e1 : (Int.ofNat n) = (n : Int) := rfl
    refine ki_setAt hl (by rw [e1]; lia) (by rw [e1]; lia) (by rw [e1]; lia) ?_
    obtain ⟨cs, rs, hc⟩ := readsAll_set r3 (n := n) hr hn
    have u := IsL.update hl (fun xs => xs.setIfInBounds (Int.ofNat n).toNat c)
    obtain ⟨S', x⟩ := S.turnList hi hp (t := s.toks) (as := cs) (l' := l.set n z) (Heap.SameBut.update ..) ⟨_, u⟩ (by
      have e : (vs.setIfInBounds (Int.ofNat n).toNat c).toList = vs.toList.set n c := by simp
      rw [e]; exact rs) (fun a ha => (hc a ha).elim (ho a) (o3 a))
    exact hP _ s.toks _ S' x hq

noncomputable def t_sns_assign_sub (xo : Tr) (xi : Tr) (xv : Tr) : TrS := fun d ρ H Q => xv d ρ H fun v3 H => xo d ρ H fun v1 H => xi d ρ H fun v2 H => setW v1 v2 v3 H fun H => Q .next ρ H
theorem sns_assign_sub {o i value : Expr} {p' pos} {xo xi xv : Tr} (hv : SndE W sc nm value xv) (ho : SndE W sc nm o xo) (hi : SndE W sc nm i xi) (hs : ∀ env, swapsWith value (some (.Subscript o i p')) pos.line env = pure false := by intro _; rfl) :
    SndS W sc nm (.Assign [.Subscript o i p'] value pos) (t_sns_assign_sub xo xi xv) :=
  .mk fun Q d A E s env Φ μ ρ H hE hA S hq => by
    refine wpAny_Assign_Subscript (wpAny_mono (hv.go _ d A E s env Φ μ ρ H hE hA S hq) (fun c s₁ p => ?_) fun _ _ x => x) (hs env)
    refine PostE.use p fun v3 H₁ μ₁ S₁ x₁ hv3 hq => ?_
    clear p
    refine wpAny_mono (ho.go _ d A E s₁ env Φ μ₁ ρ H₁ hE hA S₁ hq) (fun a s₂ p => ?_) fun _ _ x => x
    refine PostE.use p fun v1 H₂ μ₂ S₂ x₂ hv1 hq => ?_
    clear p
    refine wpAny_mono (hi.go _ d A E s₂ env Φ μ₂ ρ H₂ hE hA S₂ hq) (fun b s₃ p => ?_) fun _ _ x => x
    refine PostE.use p fun v2 H₃ μ₃ S₃ x₃ hv2 hq => ?_
    clear p
    have m3 := x₃.mv S₂.hok
    exact set_ok S₃ (hv1.mv m3) hv2 ((hv3.mv (x₂.mv S₁.hok)).mv m3) hq fun h' t H' S' x' hq => ⟨.next, ρ, H', μ₃, S', (((x₁.trans x₂).trans x₃).trans x').s, .next, hq⟩

/-! ### dicts -/
noncomputable def t_snd_dict0  : Tr := fun _ _ H Q => Q (.ref H.length) (H ++ [.dict []])
theorem snd_dict0 {pos} : SndE W sc nm (.Dict [] [] pos) t_snd_dict0 :=
  .mk fun Q d A E s env Φ μ ρ H hE hA S hq => by
    refine wpAny_Dict_empty ?_
    have g : ∀ b o, s.heap.get? b = some o → (s.heap.push { cls := .type "dict", data := .dict #[] }).get? b = some o := fun b o e => Heap.get?_push_of_some _ e
    obtain ⟨S', x⟩ := S.newObj (p := (s.heap.objs.size, s.heap.objs.size)) (o := .dict []) (t := s.toks) (Nat.le_refl _) (Nat.le_refl _) g (by rw [Heap.size_push]; exact Nat.le_succ _) ⟨rfl, [], Heap.DictOf.new s.heap, trivial⟩
    exact ⟨.ref H.length, _, _, S', x, ⟨(s.heap.objs.size, s.heap.objs.size), by rw [← S.hok.len]; simp, rfl⟩, hq⟩

@[reducible, simp] noncomputable def O.onD (o : O) (Q : List (Str × PyData) → Prop) : Prop := match o with
  | .dict l => Q l
  | _ => False
noncomputable def dctV0 (v : V) (H : List O) (Q : Nat → List (Str × PyData) → Prop) : Prop := match v with
  | .ref i => (match H[i]? with | some o => o.onD (Q i) | none => False)
  | _ => False
structure dctV (v : V) (H : List O) (Q : Nat → List (Str × PyData) → Prop) : Prop where
  mk ::
  go : dctV0 v H Q
theorem dctV_some {v : V} {H : List O} {Q : Nat → List (Str × PyData) → Prop} (h : dctV v H Q) : ∃ i l, v = .ref i ∧ H[i]? = some (.dict l) ∧ Q i l := by
  replace h := h.go
  cases v with
  | d x => exact False.elim h
  | ref i =>
    have h : (match H[i]? with | some o => o.onD (Q i) | none => False) := h
    cases e : H[i]? with
    | none => rw [e] at h; exact False.elim h
    | some o => rw [e] at h; cases o <;> first | exact False.elim h | exact ⟨i, _, rfl, e, h⟩

theorem nat_dict : NatW W (.type "dict") fun vs H Q => one_ vs fun v => dctV v H fun _ l => l.length ≤ 65536 ∧ Q (.ref H.length) (H ++ [.dict l]) :=
  fun Q A E s env nm Φ μ ρ H vs cvs hh hu S hvs hq => by
    obtain ⟨v, rfl, hq1⟩ := one_some hq
    obtain ⟨cv, rfl, hv⟩ := vs_one hvs
    obtain ⟨i, l, rfl, hi, hle, hq⟩ := dctV_some hq1
    obtain ⟨p, hp, rfl⟩ := hv
    obtain ⟨hpp, kvs, hd, hr⟩ := S.hok.dict hi hp
    have hbig := sizeLine_big
    have hlen := dictRel_len hr
    refine kt_call_dict (off_modules S (FP.at hp).1) hd (by lia) fun h' hd' hs => ?_
    have g : ∀ b o, s.heap.get? b = some o → h'.get? b = some o := fun b o e => (hs.2 b (Nat.ne_of_lt (Heap.lt_size e))).trans (Heap.get?_push_of_some _ e)
    have hsz : s.heap.objs.size ≤ h'.objs.size := by rw [hs.1, Heap.size_push]; exact Nat.le_succ _
    obtain ⟨S', x⟩ := S.newObj (p := (s.heap.objs.size, s.heap.objs.size)) (o := .dict l) (t := s.toks) (Nat.le_refl _) (Nat.le_refl _) g hsz ⟨rfl, kvs, hd', hr.move fun b o e _ => g b o e⟩
    exact ⟨.ref H.length, _, _, S', x, ⟨(s.heap.objs.size, s.heap.objs.size), by rw [← S.hok.len]; simp, rfl⟩, hq⟩

noncomputable def t_snd_get (x : Tr) (y : Tr) (z : Tr) : Tr := fun d ρ H Q => x d ρ H fun v1 H => dctV v1 H fun _ _ => y d ρ H fun v2 H => z d ρ H fun v3 H => dctV v1 H fun _ l => keyV v2 fun k => (match dget l k with | some w => Q (.d w) H | none => Q v3 H)
/-- d.get(k, x) -/
theorem snd_get {o e f : Expr} {apos pos : Pos} {x y z : Tr} (h1 : SndE W sc nm o x) (h2 : SndE W sc nm e y) (h3 : SndE W sc nm f z) (hline : (apos.endLine == pos.line) = true) (hp : plainArgs [e, f] = true)
    (hbase : ∀ env, attributeBase o "get" env (eval o env) = eval o env := by intro _; rfl) :
    SndE W sc nm (.Call (.Attribute o "get" apos) [e, f] [] pos) (t_snd_get x y z) :=
  .mk fun Q d A E s env Φ μ ρ H hE hA S hq => by
    refine wpAny_Call_method2_late (hbase env) hline (trees2 hp env pos) (wpAny_mono (h1.go _ d A E s env Φ μ ρ H hE hA S hq) (fun ov s₁ p => ?_) fun _ _ x => x)
    refine PostE.use p fun v1 H₁ μ₁ S₁ x₁ hv1 hq => ?_
    clear p
    obtain ⟨i, l, rfl, hi, hq⟩ := dctV_some hq
    obtain ⟨p, hp1, rfl⟩ := hv1
    obtain ⟨_, kvs, hd, _⟩ := S₁.hok.dict hi hp1
    have hv1 : VOk s₁.heap (Out Φ env) μ₁ (.ref i) (.ref p.1) := ⟨p, hp1, rfl⟩
    refine ⟨"dict", "dict.get", PySem.F.plainAttrs_dict, PySem.F.slot_dict_get, PySem.F.type_dict_get, hd.typeIs, hd.mapOf.noDict, ?_⟩
    refine wpAny_dict_get2 (knd := PySem.strKind W.prog W.w) (off_modules S₁ (FP.at hp1).1) (wpAny_mono (h2.go _ d A E s₁ env Φ μ₁ ρ H₁ hE hA S₁ hq) (fun kv s₂ p => ?_) fun _ _ x => x)
    refine PostE.use p fun v2 H₂ μ₂ S₂ x₂ hv2 hq => ?_
    clear p
    refine wpAny_mono (h3.go _ d A E s₂ env Φ μ₂ ρ H₂ hE hA S₂ hq) (fun dv s₃ p => ?_) fun _ _ x => x
    refine PostE.use p fun v3 H₃ μ₃ S₃ x₃ hv3 hq => ?_
    clear p
    obtain ⟨j, l3, e, hi3, hq⟩ := dctV_some hq
    cases e
    have m3 := x₃.mv S₂.hok
    obtain ⟨q, hq3, e⟩ := (hv1.mv (x₂.mv S₁.hok)).mv m3
    have epq : p.1 = q.1 := Value.ref.inj e
    rw [epq]
    obtain ⟨_, kvs3, hd3, hr3⟩ := S₃.hok.dict hi3 hq3
    obtain ⟨k, rfl, hq'⟩ := keyV_some hq
    obtain ⟨_, r2, _⟩ := hv2
    obtain ⟨tk, rfl⟩ := reads_str r2
    refine ⟨k, _, by simp [PySem.strKind, Value.isStrOf], hd3.mapOf, ?_⟩
    rcases dget_ok k hr3 with ⟨e1, e2⟩ | ⟨w, cw, e1, e2, e3⟩
    · rw [e1] at hq'
      rw [e2]
      exact ⟨v3, H₃, μ₃, S₃.toks _, (x₁.trans x₂).trans x₃, hv3, hq'⟩
    · rw [e1] at hq'
      rw [e2]
      exact ⟨.d w, H₃, μ₃, S₃.toks _, (x₁.trans x₂).trans x₃, vok_val e3, hq'⟩
end

/-! ## M20 -/
/-- a class of the text's own, plain in every way -/
structure ClsOk (K : Frag) (C : Addr) : Prop where
  ga : findIn K (.ref C) "__getattribute__" = some (some (.builtin "object.__getattribute__"))
  gk : findIn K (.ref C) "__getattr__" = some none
  sa : findIn K (.ref C) "__setattr__" = some (some (.builtin "object.__setattr__"))
  over : plainOver K C = true
  dict : (clsIn K C).any (·.hasDict) = true
  makes : makesIn K C = true

theorem ns_look {h : Heap} {a : Addr} {m : Str → Option Value} (x : h.Ns a m) (name : Str) : ∃ o, h.get? a = some o ∧ lookIn name o = some (m name) := by
  obtain ⟨o, es, ep, ho, hd, hs, hm⟩ := x
  refine ⟨o, ho, ?_⟩
  unfold lookIn
  rw [hd]
  dsimp only
  rw [← hm name]
  unfold nsFind findBy
  rw [← Array.find?_toList]
  cases e : es.toList.find? (fun e => e.key.isStr name) with
  | some en => rfl
  | none =>
    have : es.toList.any (·.refKey) = false := by
      rw [List.any_eq_false]
      intro e he
      obtain ⟨n, t, h⟩ := hs e (by simpa using he)
      simp [DictEntry.refKey, h]
    rw [this]
    rfl

theorem nodup_le {α : Type} [DecidableEq α] {l : List α} : ∀ {r : List α}, l.Nodup → (∀ x ∈ l, x ∈ r) → l.length ≤ r.length := by
  induction l with
  | nil => exact fun _ _ => Nat.zero_le _
  | cons x l ih =>
    intro r hn hs
    rw [List.nodup_cons] at hn
    have h1 : ∀ y ∈ l, y ∈ r.erase x := fun y hy => (List.mem_erase_of_ne (fun e => hn.1 (by rw [← e]; exact hy))).mpr (hs y (.tail _ hy))
    have h2 := ih hn.2 h1
    rw [List.length_erase_of_mem (hs x (.head _))] at h2
    exact Nat.le_trans (Nat.succ_le_succ h2) (Nat.le_of_eq (Nat.sub_add_cancel (List.length_pos_of_mem (hs x (.head _)))))

noncomputable def keyName : Value → Str
  | .str n _ => n
  | _ => default
/-- a namespace of few names has few entries -/
theorem ns1_size {h : Heap} {a : Addr} {m : Str → Option Value} {ks : List Str} (x : h.Ns1 a m) (hk : ∀ y, y ∉ ks → m y = none) : ∃ o es ep, h.get? a = some o ∧ o.data = .dict es ep ∧ es.size ≤ ks.length := by
  obtain ⟨o, es, ep, ho, hd, hs, hu, hm⟩ := x
  refine ⟨o, es, ep, ho, hd, ?_⟩
  have key : ∀ e ∈ es.toList, ∃ n t, e.key = .str n t := fun e he => hs e (by simpa using he)
  let nameOf : DictEntry → Str := fun e => keyName e.key
  have hn : (es.toList.map nameOf).Nodup := by
    have hu' : es.toList.Pairwise fun a b => ∀ n, a.key.isStr n = true → b.key.isStr n = true → False := hu
    rw [List.Nodup, List.pairwise_map]
    refine hu'.imp_of_mem fun {a b} ha hb hab e => ?_
    obtain ⟨n, t, h1⟩ := key a ha
    obtain ⟨n', t', h2⟩ := key b hb
    have e1 : nameOf a = n := by show keyName _ = _; rw [h1]; rfl
    have e2 : nameOf b = n' := by show keyName _ = _; rw [h2]; rfl
    rw [e1, e2] at e
    subst e
    exact hab n (by rw [h1]; simp [Value.isStr]) (by rw [h2]; simp [Value.isStr])
  have hsub : ∀ y ∈ es.toList.map nameOf, y ∈ ks := fun y hy => by
    obtain ⟨e, he, rfl⟩ := List.mem_map.mp hy
    obtain ⟨n, t, h1⟩ := key e he
    have e1 : nameOf e = n := by show keyName _ = _; rw [h1]; rfl
    rw [e1]
    refine Decidable.byContradiction fun hc => ?_
    have := hm n
    rw [hk n hc] at this
    unfold nsFind findBy at this
    rw [← Array.find?_toList] at this
    simp only [Option.map_eq_none_iff, List.find?_eq_none] at this
    exact this e he (by rw [h1]; simp [Value.isStr])
  have := nodup_le hn hsub
  simpa using this

theorem any_cd {K : Frag} {C : Addr} (h : (clsIn K C).any (·.hasDict) = true) : ∃ cd, clsIn K C = some cd ∧ cd.hasDict = true := by
  cases e : clsIn K C with
  | none => rw [e] at h; cases h
  | some cd => rw [e] at h; exact ⟨cd, rfl, by simpa using h⟩

theorem find_own {K : Frag} {C : Addr} {o : Obj} {name : Str} {v : Value} (hd : (clsIn K C).any (·.hasDict) = true) (hf : findIn K (.ref C) name = some none) (hl : lookIn name o = some (some v)) : findObj K C (some o) name = some (.value v) := by
  obtain ⟨cd, hc, hh⟩ := any_cd hd
  have ho : W.ownOf cd (some o) name = some (some v) := by unfold W.ownOf; rw [hh]; exact hl
  unfold findObj
  rw [hc, Option.bind_some, hf, Option.bind_some]
  show (W.ownOf cd (some o) name).bind _ = _
  rw [ho]; rfl

@[reducible, simp] noncomputable def O.onI (o : O) (C : Addr) (Q : List (Str × V) → Prop) : Prop := match o with
  | .inst c fs => c = C ∧ Q fs
  | _ => False
noncomputable def instV0 (v : V) (C : Addr) (H : List O) (Q : Nat → List (Str × V) → Prop) : Prop := match v with
  | .ref i => (match H[i]? with | some o => o.onI C (Q i) | none => False)
  | .d _ => False
structure instV (v : V) (C : Addr) (H : List O) (Q : Nat → List (Str × V) → Prop) : Prop where
  mk ::
  go : instV0 v C H Q
theorem instV_some {v : V} {C : Addr} {H : List O} {Q : Nat → List (Str × V) → Prop} (h : instV v C H Q) : ∃ i fs, v = .ref i ∧ H[i]? = some (.inst C fs) ∧ Q i fs := by
  replace h := h.go
  cases v with
  | d x => exact False.elim h
  | ref i =>
    have h : (match H[i]? with | some o => o.onI C (Q i) | none => False) := h
    cases e : H[i]? with
    | none => rw [e] at h; exact False.elim h
    | some o => rw [e] at h; cases o <;> first | exact False.elim h | exact ⟨i, _, rfl, by rw [← h.1]; exact e, h.2⟩

/-- the method name of the class C: the function at f -/
structure MethOk (K : Frag) (C : Addr) (name : Str) (f : Addr) : Prop where
  find : findIn K (.ref C) name = some (some (.ref f))
  typ : typeIn K (.ref f) = some (.type "function")
  at_ : ∃ fd c d sl, K.lookup f = some ⟨c, d, .func fd, sl⟩

noncomputable def lk (fs : List (Str × V)) (x : Str) (Q : V → Prop) : Prop := match fs.lookup x with | some v => Q v | none => False
theorem lk_some {fs : List (Str × V)} {x : Str} {Q : V → Prop} (h : lk fs x Q) : ∃ v, (x, v) ∈ fs ∧ Q v := by
  unfold lk at h
  cases e : fs.lookup x with
  | none => rw [e] at h; exact False.elim h
  | some v => rw [e] at h; exact ⟨v, PySem.mem_of_lookup e, h⟩

/-- an attribute is put: the rest stands -/
noncomputable def fput (fs : List (Str × V)) (x : Str) (v : V) : List (Str × V) := (x, v) :: fs.filter fun p => decide (p.1 ≠ x)

section
variable {W : Wd} {K : Frag} {sc : Scope} {nm : List Str} {env : Env} {Φ : Addr → Prop} {s s' : Shared} {μ μ' : Mu} {ρ : Rho} {H H' : List O} {A : Around} {E : Value → Shared → Prop}

theorem inst_at {i : Nat} {C : Addr} {fs : List (Str × V)} {cv : Value} (S : St W env nm Φ s μ ρ H) (hi : H[i]? = some (.inst C fs)) (hv : VOk s.heap (Out Φ env) μ (.ref i) cv) :
    ∃ p m, cv = .ref p.1 ∧ μ[i]? = some p ∧ p.2 ≠ p.1 ∧ s.heap.get? p.1 = some (instObj C p.2) ∧ s.heap.Ns1 p.2 m ∧ (∀ x, x ∉ fs.map (·.1) → m x = none) ∧ (∀ x v, (x, v) ∈ fs → ∃ cv, m x = some cv ∧ VOk s.heap (Out Φ env) μ v cv) := by
  obtain ⟨p, hp, rfl⟩ := hv
  obtain ⟨q, hq, e, h1, m, ⟨h2, h3⟩, h4⟩ := S.hok.obj i _ hi
  rw [hp] at hq; cases hq
  exact ⟨p, m, rfl, hp, e, h1, h2, h3, h4⟩

theorem handed_ref {v : V} {cv : Value} {h : Heap} {Φ : Addr → Prop} {μ : Mu} (hv : VOk h Φ μ v cv) : handedIn cv = true := by
  cases v with
  | ref i => exact let ⟨p, _, e⟩ := hv; e ▸ rfl
  | d x => exact let ⟨as, r, _⟩ := hv; Reads.rec (motive_1 := fun v _ _ _ => handedIn v = true) (motive_2 := fun _ _ _ _ => True) rfl (fun _ => rfl) (fun _ _ => rfl) (fun _ _ => rfl) (fun _ _ _ _ _ => rfl) (fun _ _ _ _ _ => rfl) (fun _ _ _ _ _ _ _ => rfl) trivial (fun _ _ _ _ => trivial) r

noncomputable def t_snd_attr (attr : Str) (C : Addr) (x : Tr) : Tr := fun d ρ H Q => x d ρ H fun v H => instV v C H fun _ fs => lk fs attr fun w => Q w H
/-- o.name, where o is an object of a class of the text -/
theorem snd_attr {value : Expr} {attr : Str} {pos : Pos} {C : Addr} {x : Tr} (hK : K.In W.base) (hC : ClsOk K C) (hf : findIn K (.ref C) attr = some none) (h : SndE W sc nm value x)
    (he : ∀ env, eval (.Attribute value attr pos) env = (do
      let o ← eval value env
      standAt pos.atName
      let r ← holding [o] (getAttr o attr true)
      letTemporaryGo value o r
      pure r) := by intro _; with_unfolding_all rfl) :
    SndE W sc nm (.Attribute value attr pos) (t_snd_attr attr C x) :=
  .mk fun Q d A E s env Φ μ ρ H hE hA S hq => by
    refine Attribute_any_ (wpAny_mono (h.go _ d A E s env Φ μ ρ H hE hA S hq) (fun ov s₁ p => ?_) fun _ _ x => x) (he env)
    refine PostE.use p fun v H₁ μ₁ S₁ x₁ hv hq => ?_
    clear p
    obtain ⟨i, fs, rfl, hi, hq⟩ := instV_some hq
    obtain ⟨w, hw, hq⟩ := lk_some hq
    obtain ⟨p, m, rfl, hp, hne, h1, h2, h3, h4⟩ := inst_at S₁ hi hv
    obtain ⟨cw, e1, e2⟩ := h4 attr w hw
    obtain ⟨o, ho, hl⟩ := ns_look h2.ns attr
    rw [e1] at hl
    refine get_value (hK.keeps S₁.inv.keep) (I := ⟨h1, rfl, rfl, ho⟩) hC.ga (find_own hC.dict hf hl) (handed_ref e2) ?_
    exact ⟨w, H₁, μ₁, S₁.toks _, x₁, e2, hq⟩

theorem method_any {o : Expr} {name : Str} {apos pos : Pos} {args : List Expr} {Q : Value → Shared → Prop} (hbase : attributeBase o name env (eval o env) = eval o env) (hp : plainArgs args = true) (hlen : args.length < 30) (hline : (apos.endLine == pos.line) = true)
    (h : wpAny (model W.prog W.w) A (eval o env) (fun ov s₁ => ∀ pl, wpAny (model W.prog W.w) A (getMethod ov name pl) (fun fx s₂ => wpAny (model W.prog W.w) A (callWith pos fx.1 fx.2 (backTo pos (starEach args env)) []) Q E s₂) E s₁) E s) :
    wpAny (model W.prog W.w) A (eval (.Call (.Attribute o name apos) args [] pos) env) Q E s := by
  have hst := starEach_plain hp env pos
  have hfew : ((backTo pos (starEach args env)).all (fun x => !x.1) && (backToKw pos (keywordEach [] env)).all (fun x => x.1.isSome)
      && decide (args.length + ([] : List Keyword).length + (if ([] : List Keyword).isEmpty then 0 else 1) < 30)) = true := by
    have h1 : (backTo pos (starEach args env)).all (fun x => !x.1) = true := by
      rw [List.all_eq_true]
      intro y hy
      have := List.any_eq_false.mp hst y hy
      simpa using this
    rw [h1]
    simp only [Bool.true_and]
    show (true && decide (args.length + 0 + 0 < 30)) = true
    simp; exact hlen
  rw [arm_eval_Call, hbase]
  refine wpAny_bind (wpAny_mono h (fun ov s₁ h₁ => ?_) fun _ _ e => e)
  refine wpAny_bind (wpAny_standAt ?_)
  have hform : methodCallForm (args.length + ([] : List Keyword).length) (backTo pos (starEach args env)) (backToKw pos (keywordEach [] env)) = true := hfew
  have hpos : methodCallPos true o env apos pos = pure pos := by unfold methodCallPos; simp [hline]
  unfold methodCall
  rw [hform]
  exact wpAny_bind (wpAny_holding (wpAny_mono (h₁ _) (fun fx s₂ h₂ => wpAny_bind (wpAny_of_eq hpos h₂)) fun _ _ e => e))

noncomputable def t_snd_meth (W : Wd) (name : Str) (C : Addr) (f : Addr) (x : Tr) (xs : TrL) : Tr := fun d ρ H Q => x d ρ H fun v H => (instV v C H fun _ fs => name ∉ fs.map (·.1)) ∧ xs d ρ H fun vs H => CallW W f d (v :: vs) H Q
/-- o.name(…), where o is an object of a class of the text -/
theorem snd_meth {o : Expr} {name : Str} {apos pos : Pos} {args : List Expr} {C f : Addr} {x : Tr} {xs : TrL} (hK : K.In W.base) (hC : ClsOk K C) (hM : MethOk K C name f) (h1 : SndE W sc nm o x) (hp : plainArgs args = true) (h2 : SndL W sc nm args xs) (hlen : args.length < 30 := by decide) (hline : (apos.endLine == pos.line) = true := by rfl)
    (hbase : ∀ env, attributeBase o name env (eval o env) = eval o env := by intro _; rfl) :
    SndE W sc nm (.Call (.Attribute o name apos) args [] pos) (t_snd_meth W name C f x xs) :=
  .mk fun Q d A E s env Φ μ ρ H hE hA S hq => by
    refine method_any (hbase env) hp hlen hline (wpAny_mono (h1.go _ d A E s env Φ μ ρ H hE hA S hq) (fun ov s₁ p pl => ?_) fun _ _ x => x)
    obtain ⟨v, H₁, μ₁, S₁, x₁, hv, hi, hq⟩ := p
    obtain ⟨i, fs, rfl, hi, hno⟩ := instV_some hi
    obtain ⟨p, m, rfl, hp1, hne, g1, g2, g3, g4⟩ := inst_at S₁ hi hv
    obtain ⟨o', ho, hl⟩ := ns_look g2.ns name
    rw [g3 name hno] at hl
    obtain ⟨fd, c, dd, sl, hlk⟩ := hM.at_
    have X := hK.keeps S₁.inv.keep
    refine method_fn (od := some o') X (I := ⟨g1, rfl, rfl, ho⟩) hC.ga hC.gk hM.find hM.typ (by show Option.map (fun x => x.isSome) (lookIn name o') = some false; rw [hl]; rfl) ?_
    refine callWith_function (o := ⟨c, dd, .func fd, sl⟩) (fd := fd) (args_ok h2 hp hE hA S₁ hq fun cvs s₂ p => ?_)
    refine PostEs.use p fun vs H₂ μ₂ S₂ x₂ hvs hq => ?_
    clear p
    refine ⟨⟨S₂.inv.keep _ _ (hK _ _ hlk), rfl⟩, ?_⟩
    refine wpAny_mono (wpAny_call (hq.go A E s₂ (Out Φ env) μ₂ (.ref p.1 :: cvs) hA S₂.inv S₂.below S₂.hok ⟨hv.mv (x₂.mv S₁.hok), hvs⟩)) (fun cv s₃ p => ?_) fun _ _ x => x
    exact ((post_expr S₂ p).after x₂).after x₁

/-- the attribute is put -/
theorem setAttr_ok {C : Addr} {name : Str} {i : Nat} {fs : List (Str × V)} {v : V} {cv ov : Value} {P : Unit → Shared → Prop} (hle : fs.length ≤ 1000) (hK : K.In W.base) (hC : ClsOk K C) (ht : takerIn K C name = some none) (S : St W env nm Φ s μ ρ H) (hi : H[i]? = some (.inst C fs)) (ho : VOk s.heap (Out Φ env) μ (.ref i) ov) (hv : VOk s.heap (Out Φ env) μ v cv)
    (hP : ∀ h' t, St W env nm Φ { s with heap := h', toks := t } μ ρ (H.set i (.inst C (fput fs name v))) → Ext s.heap μ h' μ → P () { s with heap := h', toks := t }) : wpAny (model W.prog W.w) A (setAttr ov name cv) P E s := by
  obtain ⟨p, m, rfl, hp, hne, g1, g2, g3, g4⟩ := inst_at S hi ho
  have X := hK.keeps S.inv.keep
  obtain ⟨o', ho', _⟩ := ns_look g2.ns name
  have I : InstAt s.heap p.1 (instObj C p.2) C (some o') := ⟨g1, rfl, rfl, ho'⟩
  refine set_plain X I hC.sa ?_
  refine osa_open (s := { s with toks := s.toks + 1 }) X I hC.over ht fun b => ?_
  obtain ⟨cd, hc, hh⟩ := any_cd hC.dict
  refine wpAny_bind (wpAny_pure (wpAny_bind (wpAny_bind (wpAny_loadPart g1 (wpAny_bind ((looks_clsIn X hc) _ _ _ _ (fun _ _ e => e) ?_))))))
  rw [hh]
  refine wpAny_pure (a := some p.2) (wpAny_bind (wpAny_pure (wpAny_bind ?_)))
  refine wpAny_nsSet1 (s := { s with toks := s.toks + 1 }) g2 fun h' hn' hs => ?_
  have hnone : ∀ y, y ∉ (fput fs name v).map (·.1) → (if y = name then some cv else m y) = none := fun y hy => by
    have h1 : y ≠ name ∧ y ∉ (fs.filter fun p => decide (p.1 ≠ name)).map (·.1) := by
      constructor
      · intro e; exact hy (by rw [e]; simp [fput])
      · intro e; exact hy (by simp only [fput, List.map_cons, List.mem_cons]; exact .inr e)
    rw [if_neg h1.1]
    refine g3 y fun hm => h1.2 ?_
    obtain ⟨q, hq, rfl⟩ := List.mem_map.mp hm
    exact List.mem_map.mpr ⟨q, List.mem_filter.mpr ⟨hq, by simpa using h1.1⟩, rfl⟩
  obtain ⟨on, es, ep, q1, q2, q3⟩ := ns1_size hn' hnone
  have hfl : (fput fs name v).length ≤ fs.length + 1 := by
    unfold fput; rw [List.length_cons]; exact Nat.succ_le_succ (List.length_filter_le _ _)
  have hne' : p.1 ≠ p.2 := fun e => hne e.symm
  have mv : ∀ y cw, VOk s.heap (Out Φ env) μ y cw → VOk h' (Out Φ env) μ y cw := fun y cw hy => hy.mv
    (Ext.mv (⟨⟨[], by simp, fun _ ha => absurd ha FP.nil⟩, Nat.le_of_eq hs.1.symm, fun b o e hf => (hs.2 b fun q => hf (q ▸ (FP.at hp).2)).trans e⟩ : Ext s.heap μ h' μ) S.hok)
  have hO : OOk W h' (Out Φ env) μ p (.inst C (fput fs name v)) := by
    refine ⟨hne, (hs.2 p.1 hne').trans g1, _, ⟨hn', hnone⟩, fun y w hy => ?_⟩
    unfold fput at hy
    rcases List.mem_cons.mp hy with e | hy
    · cases e
      exact ⟨cv, by rw [if_pos rfl], mv _ _ hv⟩
    · obtain ⟨h1, h2⟩ := List.mem_filter.mp hy
      obtain ⟨cw, e1, e2⟩ := g4 y w h1
      exact ⟨cw, by rw [if_neg (by simpa using h2)]; exact e1, mv _ _ e2⟩
  obtain ⟨S', x⟩ := S.setObj (i := i) (t := s.toks + 1 + 1) hp (fun b o _ hb e => (hs.2 b hb).trans e) (Nat.le_of_eq hs.1.symm) hO
  refine wpAny_bind (wpAny_lookBehind q1 (by rw [q2]; exact pastItsLine_dict (by rw [sizeLine_eq]; rw [List.length_map] at q3; lia)) ?_)
  exact wpAny_pure (hP h' _ S' x)

noncomputable def t_sns_assign_attr (attr : Str) (C : Addr) (xo : Tr) (xv : Tr) : TrS := fun d ρ H Q => xv d ρ H fun v H => xo d ρ H fun v1 H => instV v1 C H fun i fs => fs.length ≤ 1000 ∧ Q .next ρ (H.set i (.inst C (fput fs attr v)))
theorem sns_assign_attr {o value : Expr} {attr : Str} {p' pos} {C : Addr} {xo xv : Tr} (hK : K.In W.base) (hC : ClsOk K C) (ht : takerIn K C attr = some none) (hv : SndE W sc nm value xv) (ho : SndE W sc nm o xo)
    (hs : ∀ env, swapsWith value (some (.Attribute o attr p')) pos.line env = pure false := by intro _; rfl) :
    SndS W sc nm (.Assign [.Attribute o attr p'] value pos) (t_sns_assign_attr attr C xo xv) :=
  .mk fun Q d A E s env Φ μ ρ H hE hA S hq => by
    refine plainObj_wpAny_Assign_Attribute (wpAny_mono (hv.go _ d A E s env Φ μ ρ H hE hA S hq) (fun c s₁ p => ?_) fun _ _ x => x) (hs env)
    refine PostE.use p fun v H₁ μ₁ S₁ x₁ hv hq => ?_
    clear p
    refine wpAny_mono (ho.go _ d A E s₁ env Φ μ₁ ρ H₁ hE hA S₁ hq) (fun a s₂ p => ?_) fun _ _ x => x
    refine PostE.use p fun v1 H₂ μ₂ S₂ x₂ hv1 hq => ?_
    clear p
    obtain ⟨i, fs, rfl, hi, hle, hq⟩ := instV_some hq
    exact setAttr_ok hle hK hC ht S₂ hi hv1 (hv.mv (x₂.mv S₁.hok)) fun h' t S' x' => ⟨.next, ρ, _, μ₂, S', ((x₁.trans x₂).trans x').s, .next, hq⟩

theorem okA_under {d : Nat} {C : Addr} {vals : List Value} (h : OkA (d + 1) A) : OkA d (A.under (.builtin "type.__call__" ⟨.ref C :: vals, []⟩)) := by
  have h1 := h.depth
  have h2 := h.units
  refine ⟨h.handled, ?_, ?_⟩
  · show A.depth + 1 + d ≤ 900; lia
  · show A.units + 1 + 20 * d ≤ 8000; lia

noncomputable def t_snd_make (W : Wd) (C : Addr) (f : Addr) (xs : TrL) : Tr := fun d ρ H Q => xs d ρ H fun vs H => ∃ d', d = d' + 1 ∧ CallW W f d' (.ref H.length :: vs) (H ++ [.inst C []]) fun v H' => v = .d .none ∧ Q (.ref H.length) H'
/-- C(…): a new object, then its __init__ -/
theorem snd_make {id : Str} {fp pos : Pos} {args : List Expr} {C f : Addr} {xs : TrL} (hK : K.In W.base) (hC : ClsOk K C) (hM : MethOk K C "__init__" f) (hg : globOk sc id = true) (hv : W.mg id = some (.ref C)) (hkeep : keepIn K (.ref C) = true) (hp : plainArgs args = true) (h : SndL W sc nm args xs) :
    SndE W sc nm (.Call (.Name id fp) args [] pos) (t_snd_make W C f xs) :=
  .mk fun Q d A E s env Φ μ ρ H hE hA S hq => by
    refine wpAny_Call_Name_kw (load_global hg hE S hv ?_)
    show wpAny _ _ (callWith pos (.ref C) [] (backTo pos (starEach args env)) []) _ _ _
    refine callWith_of (P := fun h => K.In h) (by rw [starEach_plain hp env pos]; rfl) (keeps_K hkeep) (args_ok h hp hE hA S hq fun cvs s₁ p => ?_)
    obtain ⟨vs, H₁, μ₁, S₁, x₁, hvs, d', hd', hq2⟩ := p
    cases hd'
    have X := hK.keeps S₁.inv.keep
    refine ⟨X, wpAny_call ?_⟩
    obtain ⟨hh, g, dr, t, os⟩ := s₁
    refine make_core (makes_of X hC.makes) (looks_findIn X hM.find) (fun self => bind_fn X self hM.typ) (.inl rfl) ?_
    have g1 : ∀ b o, hh.get? b = some o → ((hh.push emptyDict).push (instObj C hh.objs.size)).get? b = some o := fun b o e => Heap.get?_push_of_some _ (Heap.get?_push_of_some _ e)
    have hsz : (hh.push emptyDict).objs.size = hh.objs.size + 1 := Heap.size_push ..
    have gx : ((hh.push emptyDict).push (instObj C hh.objs.size)).get? (hh.objs.size + 1) = some (instObj C hh.objs.size) := by rw [← hsz]; exact Heap.get?_push_size _ rfl
    have gn : ((hh.push emptyDict).push (instObj C hh.objs.size)).Ns1 hh.objs.size fun _ => none := Heap.Ns1.of_empty <| Heap.Ns.move (Heap.Ns.new hh (.type "dict")) fun o e => Heap.get?_push_of_some _ e
    obtain ⟨S₂, x₂⟩ := S₁.newObj (p := (hh.objs.size + 1, hh.objs.size)) (o := .inst C []) (h' := (hh.push emptyDict).push (instObj C hh.objs.size)) (t := t) (Nat.le_succ _) (Nat.le_refl _) g1 (by rw [Heap.size_push, hsz]; exact Nat.le_succ_of_le (Nat.le_succ _))
      ⟨Nat.ne_of_lt (Nat.lt_succ_self _), gx, _, ⟨gn, fun _ _ => rfl⟩, fun _ _ h => nomatch h⟩
    have hself : VOk ((hh.push emptyDict).push (instObj C hh.objs.size)) (Out Φ env) (μ₁ ++ [(hh.objs.size + 1, hh.objs.size)]) (.ref H₁.length) (.ref (hh.objs.size + 1)) := ⟨(hh.objs.size + 1, hh.objs.size), by rw [← S₁.hok.len]; simp, rfl⟩
    have hvs₂ := hvs.mv (Ext.mv (h := hh) x₂ S₁.hok)
    have hcall := hq2.go (A.under (.builtin "type.__call__" ⟨.ref C :: cvs, []⟩)) E { heap := (hh.push emptyDict).push (instObj C hh.objs.size), gens := g, drawn := dr, toks := t, os := os } (Out Φ env) _ (.ref (hh.objs.size + 1) :: cvs) (okA_under hA) S₂.inv S₂.below S₂.hok ⟨hself, hvs₂⟩
    refine codeAny_mono hcall fun r s' z => ?_
    rcases r with e | (v | _ | _ | _) <;> first | exact z | exact z.elim | skip
    obtain ⟨v', H', μ', I, x', K', hv', rfl, hq'⟩ := z
    obtain ⟨_, r0, _⟩ := hv'
    obtain rfl := (reads_inv r0).1
    have x'' : Ext hh μ₁ s'.heap μ' := Ext.trans x₂ x'
    refine ⟨rfl, .ref H₁.length, H', μ', S₁.ext (s' := s') x'' K' (I.gens.trans S₁.inv.gens.symm) (I.os.trans S₁.inv.os.symm), x₁.trans x'', ?_, hq'⟩
    exact hself.mv (Ext.mv x' S₂.hok)
end

/-! ## M21 -/
section
variable {W : Wd} {K : Frag} {sc : Scope} {nm : List Str}

/-! ### what is never reached -/
noncomputable def t_snd_no : Tr := fun _ _ _ _ => False
theorem snd_no {e : Expr} : SndE W sc nm e t_snd_no := .mk fun _ _ _ _ _ _ _ _ _ _ _ _ _ hq => hq.elim
noncomputable def t_sns_no : TrS := fun _ _ _ _ => False
theorem sns_no {st : Stmt} : SndS W sc nm st t_sns_no := .mk fun _ _ _ _ _ _ _ _ _ _ _ _ _ hq => hq.elim
/-- a tuple of strs at the top -/
noncomputable def strsOfV : List Value → Option (List Str)
  | [] => some []
  | v :: r => match v with
    | .str x _ => (strsOfV r).map (x :: ·)
    | _ => none
theorem reads_strs {h : Heap} (vs : List Value) : ∀ {ys : List Str}, strsOfV vs = some ys → ReadsAll h vs (ys.map .str) [] := by
  induction vs with
  | nil => exact fun e => Option.some.inj e ▸ .nil
  | cons v vs ih => cases v <;> first | (intro ys e; cases e; done) | exact fun e => let ⟨zs, hr, e⟩ := map_some e; e ▸ .cons (.str _ _) (ih hr)
noncomputable def isTupT (v : Value) : Bool := match v with
  | .type n => n == "tuple"
  | _ => false
theorem isTupT_spec {v : Value} (h : isTupT v = true) : v = .type "tuple" := by cases v <;> first | cases h | exact congrArg _ (eq_of_beq h)
noncomputable def seqO (o : Obj) : Option (List Value) := match o.data with
  | .seq vs _ => if isTupT o.cls = true then some vs.toList else none
  | _ => none
theorem seqO_spec {o : Obj} {l : List Value} (h : seqO o = some l) : ∃ vs n, o.cls = .type "tuple" ∧ o.data = .seq vs n ∧ vs.toList = l := by
  unfold seqO at h
  cases e : o.data with
  | seq vs n =>
    rw [e] at h
    by_cases hc : isTupT o.cls = true
    · exact ⟨vs, n, isTupT_spec hc, rfl, Option.some.inj ((if_pos hc).symm.trans h)⟩
    · exact nomatch (if_neg hc).symm.trans h
  | _ => rw [e] at h; cases h
noncomputable def refA (v : Value) : Option Addr := match v with
  | .ref a => some a
  | _ => none
theorem refA_spec {v : Value} {a : Addr} (h : refA v = some a) : v = .ref a := by cases v <;> first | cases h; rfl | cases h
noncomputable def intA (v : Value) : Option Int := match v with
  | .int n _ => some n
  | _ => none
theorem intA_spec {v : Value} {n : Int} (h : intA v = some n) : ∃ t, v = .int n t := by cases v <;> first | exact ⟨_, congrArg (Value.int · _) (Option.some.inj h)⟩ | cases h
/-- the tuple of strs that the name x holds -/
noncomputable def tupStrs (K : Frag) (x : Str) : Option (List Str) := (nsIn K mainGlobals x).bind fun v => v.bind fun v => (refA v).bind fun a => (K.lookup a).bind fun o => (seqO o).bind strsOfV
noncomputable def t_snd_gstrs (ys : List Str) : Tr := fun _ _ H Q => Q (.d (.tuple (ys.map .str))) H
theorem snd_gstrs {x : Str} {pos : Pos} {ys : List Str} (hK : K.In W.base) (hg : globOk sc x = true) (h : tupStrs K x = some ys) : SndE W sc nm (.Name x pos) (t_snd_gstrs ys) := by
  exact let ⟨v, hn, h1⟩ := Option.bind_eq_some_iff.mp h
    let ⟨w, hw, h2⟩ := Option.bind_eq_some_iff.mp h1
    let ⟨a, ha, h3⟩ := Option.bind_eq_some_iff.mp h2
    let ⟨o, ho, h4⟩ := Option.bind_eq_some_iff.mp h3
    let ⟨l, hl, h5⟩ := Option.bind_eq_some_iff.mp h4
    let ⟨vs, n, e1, e2, e3⟩ := seqO_spec hl
    snd_global (W := W) hg ((mg_of hK hn).trans (hw.trans (congrArg some (refA_spec ha)))) (reads_tuple_at (hK _ _ ho) e1 e2 (reads_strs _ (e3 ▸ h5)))
/-- a number at the top -/
noncomputable def intIn (K : Frag) (x : Str) : Option Int := (nsIn K mainGlobals x).bind fun v => v.bind intA
noncomputable def t_snd_gint (n : Int) : Tr := fun _ _ H Q => Q (.d (.int n)) H
theorem snd_gint {x : Str} {pos : Pos} {n : Int} (hK : K.In W.base) (hg : globOk sc x = true) (h : intIn K x = some n) : SndE W sc nm (.Name x pos) (t_snd_gint n) := by
  exact let ⟨v, hn, h1⟩ := Option.bind_eq_some_iff.mp h
    let ⟨w, hw, h2⟩ := Option.bind_eq_some_iff.mp h1
    let ⟨t, e⟩ := intA_spec h2
    snd_global hg ((mg_of hK hn).trans (hw.trans (congrArg some e))) (.int _ _)

noncomputable def t_snd_split0 (y : Str) (x : Tr) : Tr := fun d ρ H Q => x d ρ H fun v H => keyV v fun z => (y.length == 0) = false ∧ z.length ≤ 60000 ∧
      (Builtin.Str.partsBetween z (Builtin.Str.occurrences z y 0 z.length (z.length + 1)) y.length).length ≤ 60000 ∧ (match (Txt.split z y)[0]? with | some p => Q (.d (.str p)) H | none => False)
/-- x.split(sep)[0] -/
theorem snd_split0 {o : Expr} {apos pos : Pos} {y : Str} {ks kp ki kip pos2} {x : Tr} (h1 : SndE W sc nm o x) (hline : (apos.endLine == pos.line) = true := by rfl) (hbase : ∀ env, attributeBase o "split" env (eval o env) = eval o env := by intro _; rfl)
    (hs : ∀ o i, subscripted (.Constant (.int 0) ki kip) false o i = operate [o, i] (getItem o i) := by intro _ _; rfl) :
    SndE W sc nm (.Subscript (.Call (.Attribute o "split" apos) [.Constant (.str y) ks kp] [] pos) (.Constant (.int 0) ki kip) pos2) (t_snd_split0 y x) :=
  .mk fun Q d A E s env Φ μ ρ H hE hA S hq => by
    refine Subscript_ ?_
    have hp : plainArgs [.Constant (.str y) ks kp] = true := rfl
    refine wpAny_Call_method_lateS (hbase env) (by rw [trees1 hp env pos]; rfl) hline (wpAny_mono (h1.go _ d A E s env Φ μ ρ H hE hA S hq) (fun ov s₁ p => ?_) fun _ _ x => x)
    refine PostE.use p fun v H₁ μ₁ S₁ x₁ hv hq => ?_
    clear p
    obtain ⟨z, rfl, hy, hzl, hpl, hq'⟩ := keyV_some hq
    obtain ⟨_, r, _⟩ := hv
    obtain ⟨tz, rfl⟩ := reads_str r
    rw [trees1 hp env pos]
    have hbig := sizeLine_big
    refine SBG.split1 (Fm := fun s' => St W env nm Φ s' μ₁ ρ H₁ ∧ Ext s.heap μ s'.heap μ₁) (fun s ob k hF => ?_) (Constant_str ⟨y, _, rfl, hy, ⟨S₁.toks _, x₁⟩, by omega, fun D l s' hl hF hD => ?_⟩) (by omega)
    · have g : ∀ b o, s.heap.get? b = some o → (s.heap.push ob).get? b = some o := fun b o e => Heap.get?_push_of_some _ e
      exact ⟨hF.1.grow (s' := { s with heap := s.heap.push ob, toks := k }) g (by show _ ≤ (s.heap.push ob).objs.size; rw [Heap.size_push]; exact Nat.le_succ _) rfl rfl, hF.2.trans (Ext.grow g (by rw [Heap.size_push]; exact Nat.le_succ _))⟩
    · refine wpAny_Constant_int ?_
      cases l with
      | nil =>
        have : Txt.split z y = [] := hl.symm
        rw [this] at hq'
        exact hq'.elim
      | cons p r =>
        have e : (Txt.split z y)[0]? = some p.1 := by rw [← hl]; rfl
        rw [e] at hq'
        refine tail_any (s := { s' with toks := s'.toks + 1 }) hD.typeIs slot_list_getitem.lookup (wpAny_getItem_list (s := { s' with toks := s'.toks + 1 }) (x := .str p.1 p.2) hD (by omega) (by omega) (by simp [strValues]) ?_) (hs _ _)
        exact ⟨.d (.str p.1), H₁, μ₁, hF.1.toks _, hF.2, vok_val (.str _ _), hq'⟩
end

/-! ## Z1 -/
theorem z_miss_list : typeLookup (.type "list") "keys" = pure none := am_miss_of_fast (by decide +kernel)
theorem z_miss_zip : typeLookup (.type "zip") "keys" = pure none := am_miss_of_fast (by decide +kernel)
theorem z_zip_getattr_none : typeLookup (.type "zip") "__getattr__" = pure none := by rw [typeLookup_type, builtinLookup_eq_fast]; kernel_rfl
theorem z_entry_zip_ga : entryFor table "zip.__getattribute__" = some Builtin.«object.__getattribute__» :=
  entryFor_alias (id' := "object.__getattribute__") (by kernel_rfl) (by decide +kernel) (by decide +kernel) (by kernel_rfl)

theorem z_meets_miss_zip (a : Addr) (xs : Array Value) (sl : Array (Option Value)) (name : Str) (u : Tok) (hmiss : typeLookup (.type "zip") name = pure none) (hname : (["__module__", "__name__", "__qualname__", "__doc__", "__annotations__"] : List Str).contains name = false) (hsz : name.length + 100 ≤ sizeLine := by size_fits) :
    Meets (Builtin.«object.__getattribute__» ⟨[.ref a, .str name u], []⟩) (fun A R s => s.heap.get? a = some { cls := .type "zip", dict := none, data := .fields xs, slots := sl } ∧ raisesAttr (.ref a) name A R s) :=
  Meets.of_wp fun prog w A R s hs => by
    obtain ⟨hp, g, d, tk, os⟩ := s
    obtain ⟨hx, hs⟩ := hs
    have hT : (⟨hp, g, d, tk, os⟩ : Shared).TypeIs (.ref a) "zip" := ⟨_, hx, rfl⟩
    unfold Builtin.«object.__getattribute__»
    repeat (any_goals (first | assumption | wp_step))
    simp only [hname, Bool.false_eq_true, if_false]
    repeat (any_goals (first | assumption | wp_step))
    exact wpAny_raiseAttrError hs.1 hs.2 (attrMsg_fits (by decide +kernel) hsz)

theorem z_keys_zip {prog : Program} {w : World} {A : Around} {E : Value → Shared → Prop} {s : Shared} {a : Addr} {xs : Array Value} {sl : Array (Option Value)} {Q : Option Value → Shared → Prop}
    (hx : s.heap.get? a = some { cls := .type "zip", dict := none, data := .fields xs, slots := sl }) (hA : A.handled = none)
    (h : ∀ h' tk, (∀ b ob, s.heap.get? b = some ob → h'.get? b = some ob) → Q none { s with heap := h', toks := tk }) :
    wpAny (model prog w) A (getAttr? (.ref a) "keys") Q E s := by
  obtain ⟨hp, g, d, tk, os⟩ := s
  have hT : ∀ tk', (⟨hp, g, d, tk', os⟩ : Shared).TypeIs (.ref a) "zip" := fun _ => ⟨_, hx, rfl⟩
  have f1 := sub_AttributeError
  have f3 := F.slot_zip_getattribute.lookup
  have f4 := F.slot_zip_getattribute.bind (.ref a)
  have f5 := z_zip_getattr_none
  have hm := z_miss_zip
  unfold getAttr? getAttrBy? getAttrBy
  repeat (any_goals (first | assumption | exact hT _ | ((with_reducible show wpAny _ _ (call (Value.builtin "zip.__getattribute__") _ _) _ _ _); refine call_meets F.slot_zip_getattribute (hT _) z_entry_zip_ga (F.args_zip_getattribute_2 _ _) (z_meets_miss_zip a xs sl "keys" _ hm (by decide)) ⟨hx, hA, fun h' tk' e hx' => ?_⟩) | wp_step))
  obtain ⟨t', u', he⟩ := hx'.there
  have hTe : ∀ tk'', (⟨h', g, d, tk'', os⟩ : Shared).TypeIs (.ref e) "AttributeError" := fun _ => ⟨_, he, rfl⟩
  show wpAny _ _ (getattributeRaised _ _ _ _ _ _ _) _ _ _
  unfold getattributeRaised
  repeat (any_goals (first | assumption | exact hTe _ | wp_step))
  exact h _ _ hx'.keeps
theorem z_keys_list {prog : Program} {w : World} {A : Around} {E : Value → Shared → Prop} {s : Shared} {a : Addr} {xs : Array Value} {k : Nat} {sl : Array (Option Value)} {Q : Option Value → Shared → Prop}
    (hx : s.heap.get? a = some { cls := .type "list", dict := none, data := .seq xs k, slots := sl }) (hA : A.handled = none)
    (h : ∀ h' tk, (∀ b ob, s.heap.get? b = some ob → h'.get? b = some ob) → Q none { s with heap := h', toks := tk }) :
    wpAny (model prog w) A (getAttr? (.ref a) "keys") Q E s := by
  obtain ⟨hp, g, d, tk, os⟩ := s
  have hT : ∀ tk', (⟨hp, g, d, tk', os⟩ : Shared).TypeIs (.ref a) "list" := fun _ => ⟨_, hx, rfl⟩
  have f1 := sub_AttributeError
  have f3 := F.slot_list_getattribute.lookup
  have f4 := F.slot_list_getattribute.bind (.ref a)
  have f5 := am_list_getattr_none
  have hm := z_miss_list
  unfold getAttr? getAttrBy? getAttrBy
  repeat (any_goals (first | assumption | exact hT _ | ((with_reducible show wpAny _ _ (call (Value.builtin "list.__getattribute__") _ _) _ _ _); refine call_meets F.slot_list_getattribute (hT _) am_entry_list_getattribute (F.args_list_getattribute_2 _ _) (meets_getattribute_miss_list a xs k sl "keys" _ hm (by decide)) ⟨hx, hA, fun h' tk' e hx' => ?_⟩) | wp_step))
  obtain ⟨t', u', he⟩ := hx'.there
  have hTe : ∀ tk'', (⟨h', g, d, tk'', os⟩ : Shared).TypeIs (.ref e) "AttributeError" := fun _ => ⟨_, he, rfl⟩
  show wpAny _ _ (getattributeRaised _ _ _ _ _ _ _) _ _ _
  unfold getattributeRaised
  repeat (any_goals (first | assumption | exact hTe _ | wp_step))
  exact h _ _ hx'.keeps

/-! ## Z2 -/
structure Src (prog : Program) (w : World) (d : Addr) (it : Value) (kvs : List (Str × Value)) (St : Nat → Heap → Prop) (Fin : Heap → Prop) : Prop where
  item : ∀ {A : Around} {E : Value → Shared → Prop} {s : Shared} {i : Nat} {k : Str} {v : Value} {Q : Option Value → Shared → Prop}, A.handled = none → kvs[i]? = some (k, v) → St i s.heap →
    (∀ h' t, (∃ o tk n, h'.get? t = some o ∧ o.cls = .type "tuple" ∧ o.data = .seq #[.str k tk, v] n) → St (i + 1) h' → (∀ o, s.heap.get? d = some o → h'.get? d = some o) → Q (some (.ref t)) { s with heap := h' }) → wpAny (model prog w) A (pyNext it) Q E s
  fin : ∀ {A : Around} {E : Value → Shared → Prop} {s : Shared} {Q : Option Value → Shared → Prop}, A.handled = none → St kvs.length s.heap →
    (∀ h', Fin h' → (∀ o, s.heap.get? d = some o → h'.get? d = some o) → Q none { s with heap := h' }) → wpAny (model prog w) A (pyNext it) Q E s
  move : ∀ i h h', St i h → Heap.SameBut d h h' → St i h'

theorem z_entry_loop : entryFor table "dict.update.loop" = some Builtin.«dict.update.loop» := entryFor_of_tree (by kernel_rfl)
theorem z_plain_loop : plainId "dict.update.loop" = true := by decide +kernel
noncomputable def putAll (D : List (Str × Value)) (l : List (Str × Value)) : List (Str × Value) := l.foldl (fun D p => stored D p.1 p.2) D
theorem stored_len (D : List (Str × Value)) (k : Str) (v : Value) : (stored D k v).length ≤ D.length + 1 := by
  unfold stored; split <;> simp

theorem z_loop {prog : Program} {w : World} {d : Addr} {it : Value} {kvs : List (Str × Value)} {St : Nat → Heap → Prop} {Fin : Heap → Prop} (S : Src prog w d it kvs St Fin) {A : Around} (hA : A.handled = none) (hsz : kvs.length ≤ 1000) {r : Value} {R : Result → Shared → Prop} :
    ∀ (m i : Nat), i + m = kvs.length → ∀ (s : Shared) (D0 : List (Str × Value)), St i s.heap → s.heap.DictOf (PySem.strKind prog w) d D0 → D0.length ≤ i →
      (∀ h' tk, h'.DictOf (PySem.strKind prog w) d (putAll D0 (kvs.drop i)) → Fin h' → R (.ok (.ret r)) { s with heap := h', toks := tk }) → codeAny (model prog w) A (.builtin "dict.update.loop" ⟨[.ref d, it, rawInt i, r], []⟩) R s
  | 0, i, him, s, D0, hst, hd, hl, hR => by
    have hi : i = kvs.length := by lia
    subst hi
    refine codeAny_builtin z_entry_loop ?_
    rw [Around.under_plainId z_plain_loop _]
    unfold Builtin.«dict.update.loop»
    show wpAny _ _ (pyNext it >>= _) _ _ _
    refine wpAny_bind (S.fin hA hst fun h' hf hk => ?_)
    show wpAny _ _ (Builtin.Dict.addKeywords d [] >>= _) _ _ _
    unfold Builtin.Dict.addKeywords
    refine wpAny_bind (wpAny_pure (wpAny_pure ?_))
    have hd' : h'.DictOf (PySem.strKind prog w) d D0 := by
      obtain ⟨o, es, ep, ho, rest⟩ := hd
      exact ⟨o, es, ep, hk _ ho, rest⟩
    refine hR h' s.toks ?_ hf
    rw [List.drop_length]; exact hd'
  | m + 1, i, him, s, D0, hst, hd, hl, hR => by
    have hi : i < kvs.length := by lia
    refine codeAny_builtin z_entry_loop ?_
    rw [Around.under_plainId z_plain_loop _]
    unfold Builtin.«dict.update.loop»
    show wpAny _ _ (pyNext it >>= _) _ _ _
    refine wpAny_bind (S.item (k := kvs[i].1) (v := kvs[i].2) hA (by rw [List.getElem?_eq_getElem hi]) hst fun h' t ht hst' hk => ?_)
    obtain ⟨o, tk, n, ht, hc, hdt⟩ := ht
    have hd' : h'.DictOf (PySem.strKind prog w) d D0 := by
      obtain ⟨o, es, ep, ho, rest⟩ := hd
      exact ⟨o, es, ep, hk _ ho, rest⟩
    have hT : Shared.TypeIs { s with heap := h' } (.ref t) "tuple" := ⟨_, ht, hc⟩
    show wpAny _ _ (holding [Value.ref t] _ >>= _) _ _ _
    refine wpAny_bind (wpAny_holding ?_)
    refine wpAny_bind (wpAny_tryCatch ?_)
    unfold Builtin.Dict.pairItems
    refine wpAny_bind (wpAny_typeOf hT ?_)
    rw [if_pos (by decide)]
    refine wpAny_bind (wpAny_seqItems ht hdt ?_)
    refine wpAny_pure ?_
    show wpAny _ _ (holding [Value.str kvs[i].1 tk, kvs[i].2] (dictSet d (Value.str kvs[i].1 tk) kvs[i].2)) _ _ _
    refine wpAny_holding ?_
    have hbig := sizeLine_big
    refine wpAny_dictSet_pairs (k := kvs[i].1) (knd := PySem.strKind prog w) (by simp [PySem.strKind, Value.isStrOf]) hd' (fun h'' hd'' hs => ?_) (by lia)
    have hl' := stored_len D0 kvs[i].1 kvs[i].2
    refine wpAny_pure ⟨plainId_quiet z_plain_loop _, ?_⟩
    have hii : rawInt ((i : Int) + 1) = rawInt ((i + 1 : Nat) : Int) := by simp
    show codeAny _ _ (.builtin "dict.update.loop" ⟨[.ref d, it, rawInt ((i : Int) + 1), r], []⟩) _ _
    rw [hii]
    refine z_loop S hA hsz m (i + 1) (by lia) _ _ (S.move _ _ _ hst' hs) hd'' (by lia) fun h3 tk3 hd3 hf => ?_
    refine hR h3 tk3 ?_ hf
    rw [List.drop_eq_getElem_cons hi]; exact hd3

/-! ## Z3 -/
section
variable {prog : Program} {w : World} {A : Around} {E : Value → Shared → Prop} {s : Shared}

/-- dict(a list of pairs) -/
theorem z_call_list {l : Addr} {items : Array Value} {kvs : List (Str × Value)} {Q : Value → Shared → Prop} (hA : A.handled = none) (hl : s.heap.PlainList l items) (hlen : items.size = kvs.length) (hsz : kvs.length ≤ 1000)
    (hks : ∀ (i : Nat) k v, kvs[i]? = some (k, v) → ∃ t o tk n, items[i]? = some (.ref t) ∧ s.heap.get? t = some o ∧ o.cls = .type "tuple" ∧ o.data = .seq #[.str k tk, v] n)
    (h : ∀ h' tk, (∀ b o, s.heap.get? b = some o → h'.get? b = some o) → h'.DictOf (PySem.strKind prog w) s.heap.objs.size (putAll [] kvs) → Q (.ref s.heap.objs.size) { s with heap := h', toks := tk }) :
    wpAny (model prog w) A (call (.type "dict") [.ref l]) Q E s := by
  refine callType_codes (Q₁ := fun obj s₁ => obj = .ref s.heap.objs.size ∧ s₁ = { s with heap := s.heap.push { cls := .type "dict", data := .dict #[] } }) F.kt_called_dict (F.kt_typeCall_dict_1 _) F.entry_dict_init (kt_code_dict_new _ ⟨rfl, rfl⟩) ?_
  rintro obj s₁ ⟨rfl, rfl⟩
  have hnew : (s.heap.push { cls := .type "dict", data := .dict #[] }).DictOf (PySem.strKind prog w) s.heap.objs.size [] := Heap.DictOf.new s.heap
  have hk0 : ∀ b o, s.heap.get? b = some o → (s.heap.push { cls := .type "dict", data := .dict #[] }).get? b = some o := fun b o e => Heap.get?_push_of_some _ e
  generalize hp : s.heap.push { cls := .type "dict", data := .dict #[] } = hP at hnew hk0 ⊢
  obtain ⟨n, hx⟩ := hl
  have hx' := hk0 _ _ hx
  have hT : Shared.TypeIs { s with heap := hP } (.ref l) "list" := ⟨_, hx', rfl⟩
  refine ⟨hnew.typeIs, F.args_dict_init_2 _ _, ?_⟩
  unfold Builtin.«dict.__init__»
  refine wpAny_bind ?_
  unfold Builtin.Dict.selfAndRest
  refine wpAny_bind (wpAny_notOrdered_dict hnew.typeIs ?_)
  show wpAny _ _ (pure (s.heap.objs.size, [Value.ref l])) _ _ _
  refine wpAny_pure ?_
  show wpAny _ _ (Builtin.Dict.updateFrom "dict.__init__" s.heap.objs.size (.ref l) [] .none) _ _ _
  unfold Builtin.Dict.updateFrom
  refine wpAny_bind (wpAny_typeOf hT ?_)
  rw [if_pos (by decide)]
  refine wpAny_bind (z_keys_list hx' hA fun h1 tk1 hk1 => ?_)
  rw [if_pos (by rfl)]
  refine wpAny_bind (wpAny_rule ?_)
  have hl1 : h1.IsList l items := ⟨_, hk1 _ _ hx', rfl, n, rfl⟩
  refine wpAny_bind (wpAny_pyIter_list hl1 ?_)
  have hd1 : h1.DictOf (PySem.strKind prog w) s.heap.objs.size [] := by
    obtain ⟨o, es, ep, ho, rest⟩ := hnew
    exact ⟨o, es, ep, hk1 _ _ ho, rest⟩
  have hdlt : s.heap.objs.size < h1.objs.size := by
    obtain ⟨o, es, ep, ho, rest⟩ := hd1
    exact Heap.lt_size ho
  have hi0 : (h1.push { cls := .type "list_iterator", data := .fields #[.ref l, .int 0 0] }).get? h1.objs.size = some { cls := .type "list_iterator", data := .fields #[.ref l, .int 0 0] } := Heap.get?_push_size _ rfl
  generalize h1.objs.size = it at hdlt hi0 ⊢
  refine wpAny_pure ⟨plainId_quiet z_plain_loop _, ?_⟩
  have hlt : ∀ {b o}, s.heap.get? b = some o → b < s.heap.objs.size := fun e => Heap.lt_size e
  have src : Src prog w s.heap.objs.size (.ref it) kvs (fun i h => h.IsListIter it l i ∧ ∀ b o, s.heap.get? b = some o → h.get? b = some o) (fun h => ∀ b o, s.heap.get? b = some o → h.get? b = some o) := by
    refine ⟨?_, ?_, ?_⟩
    · intro A E s' i k v Q hA hx1 ⟨hit, hkp⟩ hQ
      obtain ⟨t, o, tk, m, h1, h2, h3, h4⟩ := hks i k v hx1
      refine wpAny_pyNext_list_item hit ⟨_, hkp _ _ hx, rfl, n, rfl⟩ h1 fun h' hit' hsb => ?_
      refine hQ h' t ⟨o, tk, m, ?_, h3, h4⟩ ⟨hit', fun b o e => hsb.extBut _ _ (Nat.ne_of_lt (Nat.lt_trans (hlt e) hdlt)) (hkp _ _ e)⟩ fun o e => hsb.extBut _ _ (Nat.ne_of_lt hdlt) e
      exact hsb.extBut _ _ (Nat.ne_of_lt (Nat.lt_trans (hlt h2) hdlt)) (hkp _ _ h2)
    · intro A E s' Q hA ⟨hit, hkp⟩ hQ
      refine wpAny_pyNext_list_end hA hit ⟨_, hkp _ _ hx, rfl, n, rfl⟩ (by rw [← hlen]; simp) fun h' hsb => ?_
      exact hQ h' (fun b o e => hsb _ _ (Nat.ne_of_lt (Nat.lt_trans (hlt e) hdlt)) (hkp _ _ e)) fun o e => hsb _ _ (Nat.ne_of_lt hdlt) e
    · intro i h h' ⟨hit, hkp⟩ hsb
      exact ⟨hit.extBut hsb.extBut (Nat.ne_of_gt hdlt), fun b o e => hsb.extBut _ _ (Nat.ne_of_lt (hlt e)) (hkp _ _ e)⟩
  refine z_loop (A := A.in1) src (show A.in1.handled = none from hA) hsz kvs.length 0 (by lia) _ [] ?_ ?_ (Nat.le_refl _) fun h' tk hd' hf => ?_
  · exact ⟨⟨_, hi0, rfl, rfl⟩, fun b o e => Heap.get?_push_of_some _ (hk1 _ _ (hk0 _ _ e))⟩
  · obtain ⟨o, es, ep, ho, rest⟩ := hd1
    exact ⟨o, es, ep, Heap.get?_push_of_some _ ho, rest⟩
  · exact ⟨rfl, h h' tk hf hd'⟩
end

/-! ## Z4 -/
noncomputable abbrev Zp (h : Heap) (z TI TO : Addr) (f0 : Value) (f1 : Bool) : Prop := h.get? z = some { cls := .type "zip", dict := none, data := .fields #[f0, .bool f1, .bool false, .ref TI, .ref TO], slots := #[] }

section
variable {prog : Program} {w : World} {A : Around} {E : Value → Shared → Prop} {s : Shared}

theorem z_alive {z TI TO T : Addr} {f1 : Bool} {oT : Obj} {Q : Bool → Shared → Prop} (hz : Zp s.heap z TI TO (rawInt T) f1) (hT : s.heap.get? T = some oT)
    (hQ : ∀ h', Zp h' z TI TO (rawInt T) true → Heap.SameBut z s.heap h' → Q false { s with heap := h' }) : wpAny (model prog w) A (Builtin.SmallTypes.ownedTupleIsFree (.ref z)) Q E s := by
  unfold Builtin.SmallTypes.ownedTupleIsFree
  refine wpAny_bind (wpAny_field hz rfl (x := rawInt T) rfl ?_)
  show wpAny _ _ (loadIfAlive ((T : Int).toNat) >>= _) _ _ _
  rw [Int.toNat_natCast]
  refine wpAny_bind (kdx_alive hT ?_)
  simp only [Option.isNone_some, Bool.false_eq_true, if_false]
  refine wpAny_bind (wpAny_field hz rfl (x := .bool f1) rfl ?_)
  cases f1 with
  | true =>
    rw [if_neg (show ¬ ((Value.bool true != Value.bool true) = true) from Bool.false_ne_true)]
    exact wpAny_pure (hQ _ hz (Heap.SameBut.refl _ _))
  | false =>
    rw [if_pos (show (Value.bool false != Value.bool true) = true from rfl)]
    refine wpAny_bind (wpAny_setField_rec hz (by simp) fun h₁ hz₁ hs₁ => ?_)
    exact wpAny_pure (hQ h₁ hz₁ hs₁)

theorem z_next_item {z TI TO i1 i2 l1 l2 T : Addr} {f1 : Bool} {oT : Obj} {k1 k2 : Nat} {xs ys : Array Value} {x y : Value} {Q : Value → Shared → Prop} (D : ZipApart z TI TO i1 i2 l1 l2)
    (hz : Zp s.heap z TI TO (rawInt T) f1) (hT : s.heap.get? T = some oT) (hTI : IsPair s.heap TI (.ref i1) (.ref i2))
    (h1 : s.heap.IsListIter i1 l1 k1) (h2 : s.heap.IsListIter i2 l2 k2) (hl1 : s.heap.IsList l1 xs) (hl2 : s.heap.IsList l2 ys) (hx : xs[k1]? = some x) (hy : ys[k2]? = some y)
    (hQ : ∀ h', Zp h' z TI TO (rawInt T) true → h'.IsListIter i1 l1 (k1 + 1) → h'.IsListIter i2 l2 (k2 + 1) → IsPair h' s.heap.objs.size x y →
      (∀ c o, c ≠ z → c ≠ i1 → c ≠ i2 → s.heap.get? c = some o → h'.get? c = some o) → Q (.ref s.heap.objs.size) { s with heap := h' }) :
    wpAny (model prog w) A (Builtin.«zip.__next__» ⟨[.ref z], []⟩) (fun fin s' => ∃ v, fin = .done (.ret v) ∧ Q v s') E s := by
  show wpAny _ _ (field (.ref z) 2 >>= _) _ _ _
  refine wpAny_bind (wpAny_field hz rfl (x := .bool false) rfl ?_)
  show wpAny _ _ (field (.ref z) 3 >>= _) _ _ _
  refine wpAny_bind (wpAny_field hz rfl (x := .ref TI) rfl ?_)
  refine wpAny_bind (wpAny_seqItems hTI rfl ?_)
  show wpAny _ _ (Builtin.SmallTypes.ownedTupleIsFree (.ref z) >>= _) _ _ _
  refine wpAny_bind (z_alive hz hT fun h₁ hz₁ hs₁ => ?_)
  simp only [Bool.false_eq_true, if_false]
  rw [← Array.forIn_toList]
  simp only [List.forIn_cons, List.forIn_nil]
  refine wpAny_bind (wpAny_bind (wpAny_bind (wpAny_holding ?_)))
  show wpAny _ _ (Builtin.SmallTypes.nextOf (.ref i1) >>= _) _ _ _
  refine wpAny_bind (wpAny_nextOf_list_item (h1.extBut hs₁.extBut D.i1z) (hl1.extBut hs₁.extBut D.l1z) hx fun h₂ h1₂ hs₂ => wpAny_pure ?_)
  refine wpAny_pure ?_
  refine wpAny_bind (wpAny_bind (wpAny_holding ?_))
  show wpAny _ _ (Builtin.SmallTypes.nextOf (.ref i2) >>= _) _ _ _
  refine wpAny_bind (wpAny_nextOf_list_item ((h2.extBut hs₁.extBut D.i2z).extBut hs₂.extBut D.i12.symm) ((hl2.extBut hs₁.extBut D.l2z).extBut hs₂.extBut D.l2i1) hy fun h₃ h2₃ hs₃ => wpAny_pure ?_)
  refine wpAny_pure ?_
  refine wpAny_pure ?_
  show wpAny _ _ (newTuple [x, y] >>= _) _ _ _
  refine wpAny_bind (wpAny_newTuple ?_)
  refine wpAny_pure ⟨_, rfl, ?_⟩
  have hsz : h₃.objs.size = s.heap.objs.size := by rw [hs₃.1, hs₂.1, hs₁.1]
  have hp : IsPair (h₃.push { cls := .type "tuple", data := .seq #[x, y] }) h₃.objs.size x y := Heap.get?_push_size _ rfl
  have hk : ∀ c o, c ≠ z → c ≠ i1 → c ≠ i2 → s.heap.get? c = some o → (h₃.push { cls := .type "tuple", data := .seq #[x, y] }).get? c = some o := fun c o c1 c2 c3 e =>
    Heap.get?_push_of_some _ (hs₃.extBut _ _ c3 (hs₂.extBut _ _ c2 (hs₁.extBut _ _ c1 e)))
  have hz₃ : Zp (h₃.push { cls := .type "tuple", data := .seq #[x, y] }) z TI TO (rawInt T) true := Heap.get?_push_of_some _ (hs₃.extBut _ _ D.i2z.symm (hs₂.extBut _ _ D.i1z.symm hz₁))
  have ha : (h₃.push { cls := .type "tuple", data := .seq #[x, y] }).IsListIter i1 l1 (k1 + 1) := (h1₂.extBut hs₃.extBut D.i12).at fun o e => Heap.get?_push_of_some _ e
  have hb : (h₃.push { cls := .type "tuple", data := .seq #[x, y] }).IsListIter i2 l2 (k2 + 1) := h2₃.at fun o e => Heap.get?_push_of_some _ e
  show Q (.ref h₃.objs.size) _
  rw [hsz] at hp ⊢
  exact hQ _ hz₃ ha hb hp hk

theorem z_next_end {z TI TO i1 i2 l1 l2 T : Addr} {f1 : Bool} {oT : Obj} {k1 : Nat} {xs : Array Value} {Q : Fin → Shared → Prop} (hh : A.handled = none) (D : ZipApart z TI TO i1 i2 l1 l2)
    (hz : Zp s.heap z TI TO (rawInt T) f1) (hT : s.heap.get? T = some oT) (hTI : IsPair s.heap TI (.ref i1) (.ref i2))
    (h1 : s.heap.IsListIter i1 l1 k1) (hl1 : s.heap.IsList l1 xs) (hx : xs[k1]? = none)
    (hE : ∀ h' e, (∀ c o, c ≠ z → c ≠ TO → c ≠ i1 → c ≠ i2 → s.heap.get? c = some o → h'.get? c = some o) → (∃ o, h'.get? e = some o ∧ o.cls = .type "StopIteration") → E (.ref e) { s with heap := h' }) :
    wpAny (model prog w) A (Builtin.«zip.__next__» ⟨[.ref z], []⟩) Q E s := by
  show wpAny _ _ (field (.ref z) 2 >>= _) _ _ _
  refine wpAny_bind (wpAny_field hz rfl (x := .bool false) rfl ?_)
  show wpAny _ _ (field (.ref z) 3 >>= _) _ _ _
  refine wpAny_bind (wpAny_field hz rfl (x := .ref TI) rfl ?_)
  refine wpAny_bind (wpAny_seqItems hTI rfl ?_)
  show wpAny _ _ (Builtin.SmallTypes.ownedTupleIsFree (.ref z) >>= _) _ _ _
  refine wpAny_bind (z_alive hz hT fun h₁ hz₁ hs₁ => ?_)
  simp only [Bool.false_eq_true, if_false]
  rw [← Array.forIn_toList]
  simp only [List.forIn_cons, List.forIn_nil]
  refine wpAny_bind (wpAny_bind (wpAny_bind (wpAny_holding ?_)))
  show wpAny _ _ (Builtin.SmallTypes.nextOf (.ref i1) >>= _) _ _ _
  refine wpAny_bind (wpAny_nextOf_list_end hh (h1.extBut hs₁.extBut D.i1z) (hl1.extBut hs₁.extBut D.l1z) hx fun h₂ e hs₂ he => ?_)
  exact hE h₂ e (fun c o c1 c2 c3 c4 x => hs₂ _ _ c3 (hs₁.extBut _ _ c1 x)) he

theorem z_py_item {z TI TO i1 i2 l1 l2 T : Addr} {f1 : Bool} {oT : Obj} {k1 k2 : Nat} {xs ys : Array Value} {x y : Value} {Q : Option Value → Shared → Prop} (D : ZipApart z TI TO i1 i2 l1 l2)
    (hz : Zp s.heap z TI TO (rawInt T) f1) (hT : s.heap.get? T = some oT) (hTI : IsPair s.heap TI (.ref i1) (.ref i2))
    (h1 : s.heap.IsListIter i1 l1 k1) (h2 : s.heap.IsListIter i2 l2 k2) (hl1 : s.heap.IsList l1 xs) (hl2 : s.heap.IsList l2 ys) (hx : xs[k1]? = some x) (hy : ys[k2]? = some y)
    (hQ : ∀ h', Zp h' z TI TO (rawInt T) true → h'.IsListIter i1 l1 (k1 + 1) → h'.IsListIter i2 l2 (k2 + 1) → IsPair h' s.heap.objs.size x y →
      (∀ c o, c ≠ z → c ≠ i1 → c ≠ i2 → s.heap.get? c = some o → h'.get? c = some o) → Q (some (.ref s.heap.objs.size)) { s with heap := h' }) :
    wpAny (model prog w) A (pyNext (.ref z)) Q E s := by
  have hTy : s.TypeIs (.ref z) "zip" := ⟨_, hz, rfl⟩
  unfold pyNext
  exact wpAny_bind (wpAny_attempt (wpAny_callSpecial?_slot (name := Str.ofString "__next__") hTy F.slot_zip_next
    (wpAny_call_entry F.slot_zip_next hTy F.entry_zip_next
      (z_next_item D hz hT hTI h1 h2 hl1 hl2 hx hy fun h' a1 a2 a3 a4 a5 => wpAny_pure (hQ h' a1 a2 a3 a4 a5)) (F.args_zip_next_1 _))))
theorem z_py_end {z TI TO i1 i2 l1 l2 T : Addr} {f1 : Bool} {oT : Obj} {k1 : Nat} {xs : Array Value} {Q : Option Value → Shared → Prop} (hh : A.handled = none) (D : ZipApart z TI TO i1 i2 l1 l2)
    (hz : Zp s.heap z TI TO (rawInt T) f1) (hT : s.heap.get? T = some oT) (hTI : IsPair s.heap TI (.ref i1) (.ref i2))
    (h1 : s.heap.IsListIter i1 l1 k1) (hl1 : s.heap.IsList l1 xs) (hx : xs[k1]? = none)
    (hQ : ∀ h', (∀ c o, c ≠ z → c ≠ TO → c ≠ i1 → c ≠ i2 → s.heap.get? c = some o → h'.get? c = some o) → Q none { s with heap := h' }) : wpAny (model prog w) A (pyNext (.ref z)) Q E s := by
  have hTy : s.TypeIs (.ref z) "zip" := ⟨_, hz, rfl⟩
  unfold pyNext
  refine wpAny_bind (wpAny_attempt (wpAny_callSpecial?_slot (name := Str.ofString "__next__") hTy F.slot_zip_next
    (wpAny_call_entry F.slot_zip_next hTy F.entry_zip_next (z_next_end hh D hz hT hTI h1 hl1 hx fun h' e hk he => ?_) (F.args_zip_next_1 _))))
  obtain ⟨o, ho, hc⟩ := he
  refine wpAny_bind (wpAny_isInstance (T := "StopIteration") (b := true) ⟨o, ho, hc⟩ isSubtype_stop ?_)
  exact wpAny_pure (hQ _ hk)
end

/-! ## Z5 -/
section
variable {prog : Program} {w : World} {A : Around} {E : Value → Shared → Prop} {s : Shared}

structure ZS (h0 : Heap) (d z TI TO i1 i2 l1 l2 : Addr) (xs ys : Array Value) (i : Nat) (h : Heap) : Prop where
  z : ∃ f0 f1, Zp h z TI TO f0 f1 ∧ ((f0 = .none ∧ f1 = false) ∨ ∃ (T : Addr) (oT : Obj), f0 = rawInt (T : Int) ∧ h.get? T = some oT ∧ T ≠ z ∧ T ≠ i1 ∧ T ≠ i2 ∧ T ≠ TO ∧ T ≠ d)
  ti : IsPair h TI (.ref i1) (.ref i2)
  to : ∃ a b, IsPair h TO a b
  a1 : h.IsListIter i1 l1 i
  a2 : h.IsListIter i2 l2 i
  b1 : h.IsList l1 xs
  b2 : h.IsList l2 ys
  kp : ∀ b o, h0.get? b = some o → h.get? b = some o
  lt : d < h.objs.size

theorem z_src {h0 : Heap} {d z TI TO i1 i2 l1 l2 : Addr} {xs ys : Array Value} {kvs : List (Str × Value)} (D : ZipApart z TI TO i1 i2 l1 l2) (hd : z < d ∧ TI < d ∧ TO < d ∧ i1 < d ∧ i2 < d ∧ l1 < d ∧ l2 < d)
    (h0z : ∀ b o, h0.get? b = some o → b ≠ z ∧ b ≠ TO ∧ b ≠ i1 ∧ b ≠ i2 ∧ b ≠ d) (hlen : xs.size = kvs.length) (hks : ∀ (i : Nat) k v, kvs[i]? = some (k, v) → ∃ tk, xs[i]? = some (.str k tk) ∧ ys[i]? = some v) :
    Src prog w d (.ref z) kvs (ZS h0 d z TI TO i1 i2 l1 l2 xs ys) (fun h => ∀ b o, h0.get? b = some o → h.get? b = some o) := by
  obtain ⟨d1, d2, d3, d4, d5, d6, d7⟩ := hd
  have n1 : d ≠ z := Nat.ne_of_gt d1
  have n3 : d ≠ TO := Nat.ne_of_gt d3
  have n4 : d ≠ i1 := Nat.ne_of_gt d4
  have n5 : d ≠ i2 := Nat.ne_of_gt d5
  refine ⟨?_, ?_, ?_⟩
  · intro A E s i k v Q hA hx X hQ
    obtain ⟨tk, hx1, hx2⟩ := hks i k v hx
    obtain ⟨f0, f1, hz, hf⟩ := X.z
    obtain ⟨a, b, hTO⟩ := X.to
    have ilt : ∀ {c o}, s.heap.get? c = some o → c < s.heap.objs.size := fun e => Heap.lt_size e
    have i1lt : i1 < s.heap.objs.size := by obtain ⟨o, e, _⟩ := X.a1; exact ilt e
    have i2lt : i2 < s.heap.objs.size := by obtain ⟨o, e, _⟩ := X.a2; exact ilt e
    rcases hf with ⟨rfl, rfl⟩ | ⟨T, oT, rfl, hT, t1, t2, t3, t4, t5⟩
    · refine wpAny_pyNext_zip_item D hz X.ti hTO X.a1 X.a2 X.b1 X.b2 hx1 hx2 fun h' z1 z2 z3 z4 z5 z6 z7 => ?_
      refine hQ h' _ ⟨_, tk, _, z5, rfl, rfl⟩ ⟨⟨_, _, z1, .inr ⟨_, _, rfl, z5, Nat.ne_of_gt (ilt hz), Nat.ne_of_gt i1lt, Nat.ne_of_gt i2lt, Nat.ne_of_gt (ilt hTO), Nat.ne_of_gt X.lt⟩⟩, ?_, ⟨_, _, z2⟩, z3, z4, ?_, ?_, ?_, ?_⟩ ?_
      · exact z7 _ _ D.TIz D.TITO D.TIi1 D.TIi2 X.ti
      · exact X.b1.at fun o e => z7 _ _ D.l1z D.l1TO D.l1i1 D.l1i2 e
      · exact X.b2.at fun o e => z7 _ _ D.l2z D.l2TO D.l2i1 D.l2i2 e
      · exact fun b o e => by obtain ⟨q1, q2, q3, q4, q5⟩ := h0z b o e; exact z7 _ _ q1 q2 q3 q4 (X.kp _ _ e)
      · rw [z6]; exact Nat.lt_succ_of_lt X.lt
      · exact fun o e => z7 _ _ n1 n3 n4 n5 e
    · refine z_py_item D hz hT X.ti X.a1 X.a2 X.b1 X.b2 hx1 hx2 fun h' z1 z3 z4 z5 z7 => ?_
      refine hQ h' _ ⟨_, tk, _, z5, rfl, rfl⟩ ⟨⟨_, _, z1, .inr ⟨T, oT, rfl, z7 _ _ t1 t2 t3 hT, t1, t2, t3, t4, t5⟩⟩, ?_, ⟨a, b, ?_⟩, z3, z4, ?_, ?_, ?_, ?_⟩ ?_
      · exact z7 _ _ D.TIz D.TIi1 D.TIi2 X.ti
      · exact z7 _ _ D.TOz D.TOi1 D.TOi2 hTO
      · exact X.b1.at fun o e => z7 _ _ D.l1z D.l1i1 D.l1i2 e
      · exact X.b2.at fun o e => z7 _ _ D.l2z D.l2i1 D.l2i2 e
      · exact fun b o e => by obtain ⟨q1, q2, q3, q4, q5⟩ := h0z b o e; exact z7 _ _ q1 q3 q4 (X.kp _ _ e)
      · exact Nat.lt_trans X.lt (Heap.lt_size z5)
      · exact fun o e => z7 _ _ n1 n4 n5 e
  · intro A E s Q hA X hQ
    obtain ⟨f0, f1, hz, hf⟩ := X.z
    obtain ⟨a, b, hTO⟩ := X.to
    have hxe : xs[kvs.length]? = none := by rw [← hlen]; simp
    rcases hf with ⟨rfl, rfl⟩ | ⟨T, oT, rfl, hT, t1, t2, t3, t4, t5⟩
    · refine wpAny_pyNext_zip_end hA D hz X.ti hTO X.a1 X.a2 X.b1 X.b2 (.inl hxe) fun h' z7 => ?_
      exact hQ h' (fun b o e => by obtain ⟨q1, q2, q3, q4, q5⟩ := h0z b o e; exact z7 _ _ q1 q2 q3 q4 (X.kp _ _ e)) fun o e => z7 _ _ n1 n3 n4 n5 e
    · refine z_py_end hA D hz hT X.ti X.a1 X.b1 hxe fun h' z7 => ?_
      exact hQ h' (fun b o e => by obtain ⟨q1, q2, q3, q4, q5⟩ := h0z b o e; exact z7 _ _ q1 q2 q3 q4 (X.kp _ _ e)) fun o e => z7 _ _ n1 n3 n4 n5 e
  · intro i h h' X hsb
    obtain ⟨f0, f1, hz, hf⟩ := X.z
    obtain ⟨a, b, hTO⟩ := X.to
    have kk : ∀ {c o}, c ≠ d → h.get? c = some o → h'.get? c = some o := fun hc e => hsb.extBut _ _ hc e
    refine ⟨⟨f0, f1, kk n1.symm hz, ?_⟩, kk (Nat.ne_of_lt d2) X.ti, ⟨a, b, kk n3.symm hTO⟩, X.a1.extBut hsb.extBut n4.symm, X.a2.extBut hsb.extBut n5.symm, X.b1.extBut hsb.extBut (Nat.ne_of_lt d6), X.b2.extBut hsb.extBut (Nat.ne_of_lt d7), fun b o e => kk (h0z b o e).2.2.2.2 (X.kp _ _ e), by rw [hsb.1]; exact X.lt⟩
    rcases hf with hf | ⟨T, oT, rfl, hT, t1, t2, t3, t4, t5⟩
    · exact .inl hf
    · exact .inr ⟨T, oT, rfl, kk t5 hT, t1, t2, t3, t4, t5⟩

/-- dict(a zip) -/
theorem z_call_zip {h0 : Heap} {z TI TO i1 i2 l1 l2 : Addr} {xs ys : Array Value} {a b : Value} {kvs : List (Str × Value)} {Q : Value → Shared → Prop} (hA : A.handled = none) (D : ZipApart z TI TO i1 i2 l1 l2)
    (hz : IsZip s.heap z TI TO .none) (hTI : IsPair s.heap TI (.ref i1) (.ref i2)) (hTO : IsPair s.heap TO a b) (h1 : s.heap.IsListIter i1 l1 0) (h2 : s.heap.IsListIter i2 l2 0) (hl1 : s.heap.IsList l1 xs) (hl2 : s.heap.IsList l2 ys)
    (h0k : ∀ b o, h0.get? b = some o → s.heap.get? b = some o) (h0z : ∀ b o, h0.get? b = some o → b ≠ z ∧ b ≠ TO ∧ b ≠ i1 ∧ b ≠ i2)
    (hlen : xs.size = kvs.length) (hsz : kvs.length ≤ 1000) (hks : ∀ (i : Nat) k v, kvs[i]? = some (k, v) → ∃ tk, xs[i]? = some (.str k tk) ∧ ys[i]? = some v)
    (h : ∀ h' tk, (∀ b o, h0.get? b = some o → h'.get? b = some o) → h'.DictOf (PySem.strKind prog w) s.heap.objs.size (putAll [] kvs) → Q (.ref s.heap.objs.size) { s with heap := h', toks := tk }) :
    wpAny (model prog w) A (call (.type "dict") [.ref z]) Q E s := by
  refine callType_codes (Q₁ := fun obj s₁ => obj = .ref s.heap.objs.size ∧ s₁ = { s with heap := s.heap.push { cls := .type "dict", data := .dict #[] } }) F.kt_called_dict (F.kt_typeCall_dict_1 _) F.entry_dict_init (kt_code_dict_new _ ⟨rfl, rfl⟩) ?_
  rintro obj s₁ ⟨rfl, rfl⟩
  have hnew : (s.heap.push { cls := .type "dict", data := .dict #[] }).DictOf (PySem.strKind prog w) s.heap.objs.size [] := Heap.DictOf.new s.heap
  have hk0 : ∀ b o, s.heap.get? b = some o → (s.heap.push { cls := .type "dict", data := .dict #[] }).get? b = some o := fun b o e => Heap.get?_push_of_some _ e
  generalize hp : s.heap.push { cls := .type "dict", data := .dict #[] } = hP at hnew hk0 ⊢
  have hx' := hk0 _ _ hz
  have hT : Shared.TypeIs { s with heap := hP } (.ref z) "zip" := ⟨_, hx', rfl⟩
  refine ⟨hnew.typeIs, F.args_dict_init_2 _ _, ?_⟩
  unfold Builtin.«dict.__init__»
  refine wpAny_bind ?_
  unfold Builtin.Dict.selfAndRest
  refine wpAny_bind (wpAny_notOrdered_dict hnew.typeIs ?_)
  show wpAny _ _ (pure (s.heap.objs.size, [Value.ref z])) _ _ _
  refine wpAny_pure ?_
  show wpAny _ _ (Builtin.Dict.updateFrom "dict.__init__" s.heap.objs.size (.ref z) [] .none) _ _ _
  unfold Builtin.Dict.updateFrom
  refine wpAny_bind (wpAny_typeOf hT ?_)
  rw [if_pos (by decide)]
  refine wpAny_bind (z_keys_zip hx' hA fun h1' tk1 hk1 => ?_)
  rw [if_pos (by rfl)]
  refine wpAny_bind (wpAny_rule ?_)
  refine wpAny_bind (wpAny_pyIter_zip (hk1 _ _ hx') ?_)
  have hd1 : h1'.DictOf (PySem.strKind prog w) s.heap.objs.size [] := by
    obtain ⟨o, es, ep, ho, rest⟩ := hnew
    exact ⟨o, es, ep, hk1 _ _ ho, rest⟩
  have hdlt : s.heap.objs.size < h1'.objs.size := by
    obtain ⟨o, es, ep, ho, rest⟩ := hd1
    exact Heap.lt_size ho
  refine wpAny_pure ⟨plainId_quiet z_plain_loop _, ?_⟩
  have hlt : ∀ {b o}, s.heap.get? b = some o → b < s.heap.objs.size := fun e => Heap.lt_size e
  have kk : ∀ {b o}, s.heap.get? b = some o → h1'.get? b = some o := fun e => hk1 _ _ (hk0 _ _ e)
  have e1 : i1 < s.heap.objs.size := by obtain ⟨o, e, _⟩ := h1; exact hlt e
  have e2 : i2 < s.heap.objs.size := by obtain ⟨o, e, _⟩ := h2; exact hlt e
  have e3 : l1 < s.heap.objs.size := by obtain ⟨o, e, _⟩ := hl1; exact hlt e
  have e4 : l2 < s.heap.objs.size := by obtain ⟨o, e, _⟩ := hl2; exact hlt e
  have src := z_src (prog := prog) (w := w) (h0 := h0) (d := s.heap.objs.size) D ⟨hlt hz, hlt hTI, hlt hTO, e1, e2, e3, e4⟩ (fun b o e => ⟨(h0z b o e).1, (h0z b o e).2.1, (h0z b o e).2.2.1, (h0z b o e).2.2.2, Nat.ne_of_lt (hlt (h0k _ _ e))⟩) hlen hks
  refine z_loop (A := A.in1) src (show A.in1.handled = none from hA) hsz kvs.length 0 (by lia) _ [] ?_ ?_ (Nat.le_refl _) fun h' tk hd' hf => ?_
  · exact ⟨⟨_, _, kk hz, .inl ⟨rfl, rfl⟩⟩, kk hTI, ⟨_, _, kk hTO⟩, h1.at fun o e => kk e, h2.at fun o e => kk e, hl1.at fun o e => kk e, hl2.at fun o e => kk e, fun b o e => kk (h0k _ _ e), hdlt⟩
  · exact hd1
  · exact ⟨rfl, h h' tk hf hd'⟩
end

/-! ## M22 -/
noncomputable def putD (ps : List (Str × PyData)) : List (Str × PyData) := ps.foldl (fun l p => dset l p.1 p.2) []
noncomputable def flatVals (ps : List (Str × PyData)) : Prop := ∀ p ∈ ps, flatD p.2 = true
theorem pairs_flat {h h' : Heap} {ps : List (Str × PyData)} {kvs : List (Str × Value)} (hf : flatVals ps) (r : DictRel h ps kvs) : DictRel h' ps kvs :=
  dictRel_ind (fun ps kvs => flatVals ps → DictRel h' ps kvs) (fun _ => trivial) (fun e rd _ ih hf => ⟨e, (flat_reads rd (hf _ (.head _))).2 h', ih fun p hp => hf p (.tail _ hp)⟩) r hf
theorem put_rel {h : Heap} {ps : List (Str × PyData)} {kvs : List (Str × Value)} (r : DictRel h ps kvs) : ∀ {l : List (Str × PyData)} {D : List (Str × Value)}, DictRel h l D → DictRel h (ps.foldl (fun l p => dset l p.1 p.2) l) (putAll D kvs) := by
  refine dictRel_ind (fun ps kvs => ∀ l D, DictRel h l D → DictRel h (ps.foldl (fun l p => dset l p.1 p.2) l) (putAll D kvs)) (fun _ _ r => r) (fun {x v ps kvs} e rd _ ih l D hr => ?_) r _ _
  obtain ⟨b, v⟩ := v
  obtain rfl : x.1 = b := e
  exact ih _ _ (dictRel_set rd hr)
theorem reads_zip {h : Heap} (ks : List Str) : ∀ {vs : List PyData} {xs ys : List Value} {as bs : List Addr}, ReadsAll h xs (ks.map .str) as → ReadsAll h ys vs bs → ks.length ≤ vs.length → (∀ v ∈ vs, flatD v = true) →
    ∃ kvs, DictRel h (ks.zip vs) kvs ∧ xs.length = kvs.length ∧ ∀ (i : Nat) k v, kvs[i]? = some (k, v) → ∃ tk, xs[i]? = some (.str k tk) ∧ ys[i]? = some v := by
  induction ks with
  | nil => exact fun r1 _ _ _ => let ⟨e, _⟩ := reads_nil r1 rfl; ⟨[], trivial, e ▸ rfl, fun i k v e => by cases i <;> cases e⟩
  | cons k ks ih =>
    intro vs xs ys as bs r1 r2 hl hf
    cases vs with
    | nil => exact absurd hl (Nat.not_succ_le_zero _)
    | cons v vs =>
      obtain ⟨x, xs1, as1, as2, rfl, q1, p1, _⟩ := reads_cons r1
      obtain ⟨y, ys1, bs1, bs2, rfl, q2, p2, _⟩ := reads_cons r2
      obtain ⟨tk, rfl⟩ := reads_str q1
      obtain ⟨kvs, h1, h2, h3⟩ := ih p1 p2 (Nat.le_of_succ_le_succ hl) fun v hv => hf v (.tail _ hv)
      refine ⟨(k, y) :: kvs, ⟨rfl, (flat_reads q2 (hf v (.head _))).2 h, h1⟩, congrArg (· + 1) h2, fun i k' v' e => ?_⟩
      cases i with
      | zero => exact let ⟨e1, e2⟩ := Prod.mk.inj (Option.some.inj e); ⟨tk, e1 ▸ rfl, e2 ▸ rfl⟩
      | succ i => exact h3 i k' v' e

noncomputable def listV (v : V) (Q : List PyData → Prop) : Prop := match v with
  | .d x => (match x with | .list l => Q l | _ => False)
  | .ref _ => False
theorem listV_some {v : V} {Q : List PyData → Prop} (h : listV v Q) : ∃ l, v = .d (.list l) ∧ Q l := by
  cases v with
  | d x => cases x <;> first | exact False.elim h | exact ⟨_, rfl, h⟩
  | ref i => exact False.elim h
noncomputable def zipV (v1 v2 : V) (Q : List (Str × PyData) → Prop) : Prop := listV v1 fun l1 => listV v2 fun vs => ∃ ks : List Str, l1 = ks.map .str ∧ ks.length ≤ vs.length ∧ ks.length ≤ 1000 ∧ (∀ v ∈ vs, flatD v = true) ∧ Q (ks.zip vs)

theorem zipV_some {v1 v2 : V} {Q : List (Str × PyData) → Prop} (h : zipV v1 v2 Q) : ∃ (ks : List Str) (vs : List PyData), v1 = .d (.list (ks.map .str)) ∧ v2 = .d (.list vs) ∧ ks.length ≤ vs.length ∧ ks.length ≤ 1000 ∧ (∀ v ∈ vs, flatD v = true) ∧ Q (ks.zip vs) := by
  exact let ⟨l1, e1, h1⟩ := listV_some h; let ⟨vs, e2, ks, e3, h2⟩ := listV_some h1; ⟨ks, vs, e1.trans (e3 ▸ rfl), e2, h2⟩

section
variable {W : Wd} {sc : Scope} {nm : List Str}

noncomputable def twoV (vs : List V) (Q : V → V → Prop) : Prop := match vs with
  | [] => False
  | v :: r => one_ r fun w => Q v w
theorem twoV_some {vs : List V} {Q : V → V → Prop} (h : twoV vs Q) : ∃ v w, vs = [v, w] ∧ Q v w := by
  cases vs with
  | nil => exact False.elim h
  | cons v r => exact let ⟨w, e, h⟩ := one_some h; ⟨v, w, by rw [e], h⟩
theorem arg1 {e : Expr} {f : Value} {env : Env} {pos : Pos} {P : Args → Shared → Prop} {A : Around} {E : Value → Shared → Prop} {s : Shared} (hst : isStarred e = false) (h : wpAny (model W.prog W.w) A (eval e env) (fun v s' => P ⟨[v], []⟩ s') E s) :
    wpAny (model W.prog W.w) A (evalArgs f true (backTo pos (starEach [e] env)) []) P E s := by
  rw [star1 hst env]
  exact evalArgs_plain (spliced_cons (wpAny_mono h (fun v s₁ h => spliced_nil h) fun _ _ x => x))

noncomputable def t_snd_dictzip (x : Tr) (y : Tr) : Tr := fun d ρ H Q => x d ρ H fun v1 H => y d ρ H fun v2 H => zipV v1 v2 fun ps => Q (.ref H.length) (H ++ [.dict (putD ps)])
/-- dict(zip(a, b)) -/
theorem snd_dictzip {fp fp2 pos pos2 : Pos} {ea eb : Expr} {x y : Tr} (hg : globOk sc "dict" = true) (hm : W.mg "dict" = none) (hb : W.mb "dict" = some (.type "dict")) (hg2 : globOk sc "zip" = true) (hm2 : W.mg "zip" = none) (hb2 : W.mb "zip" = some (.type "zip"))
    (h1 : SndE W sc nm ea x) (h2 : SndE W sc nm eb y) (hs1 : isStarred ea = false := by rfl) (hs2 : isStarred eb = false := by rfl) :
    SndE W sc nm (.Call (.Name "dict" fp) [.Call (.Name "zip" fp2) [ea, eb] [] pos2] [] pos) (t_snd_dictzip x y) :=
  .mk fun Q d A E s env Φ μ ρ H hE hA S hq => by
    refine wpAny_Call_Name_kw (load_builtin hg hE S hm hb ?_)
    show wpAny _ _ (callWith pos (.type "dict") [] (backTo pos (starEach [.Call (.Name "zip" fp2) [ea, eb] [] pos2] env)) []) _ _ _
    refine PySem.callWith_type (starEach_plain rfl env pos) (arg1 rfl ?_)
    refine wpAny_Call_Name_kw (load_builtin hg2 hE S hm2 hb2 ?_)
    show wpAny _ _ (callWith pos2 (.type "zip") [] (backTo pos2 (starEach [ea, eb] env)) []) _ _ _
    have hp : plainArgs [ea, eb] = true := by simp [plainArgs, hs1, hs2]
    have hL : SndL W sc nm [ea, eb] (t_snd_cons x (t_snd_cons y t_snd_nil)) := snd_cons h1 (snd_cons h2 snd_nil hs2) hs1
    refine PySem.callWith_type (starEach_plain hp env pos2) (args_ok (Q := fun vs H => twoV vs fun v1 v2 => zipV v1 v2 fun ps => Q (.ref H.length) (H ++ [O.dict (putD ps)])) hL hp hE hA S hq fun cvs s₁ p => ?_)
    refine PostEs.use p fun vs H₁ μ₁ S₁ x₁ hvs hq => ?_
    clear p
    have hAh := hA.handled
    · obtain ⟨v1, v2, rfl, hz⟩ := twoV_some hq
      obtain ⟨c1, c2, rfl, hv1, hv2⟩ := vs_two hvs
      obtain ⟨ks, vs', rfl, rfl, hle, hle2, hf, hy⟩ := zipV_some hz
      have hq := hy
      obtain ⟨as1, r1, _⟩ := hv1
      obtain ⟨as2, r2, _⟩ := hv2
      obtain ⟨a1, xs, b1, rfl, hl1, hx⟩ := list_of_reads r1
      obtain ⟨a2, ys, b2, rfl, hl2, hy⟩ := list_of_reads r2
      obtain ⟨kvs, hpr, hlen, hks⟩ := reads_zip ks hx hy hle hf
      have g1 : a1 < s₁.heap.objs.size := by obtain ⟨o, e, _⟩ := hl1; exact Heap.lt_size e
      have g2 : a2 < s₁.heap.objs.size := by obtain ⟨o, e, _⟩ := hl2; exact Heap.lt_size e
      have hkl := dictRel_len hpr
      have hzl : (ks.zip vs').length ≤ 1000 := by rw [List.length_zip]; lia
      refine call_zip_2 hl1 hl2 fun h' hz hTI hTO hi1 hi2 hsz hk => ?_
      refine z_call_zip (h0 := s₁.heap) (kvs := kvs) hAh (zipApart_new g1 g2) hz hTI hTO hi1 hi2 (hl1.at fun o e => hk _ _ e) (hl2.at fun o e => hk _ _ e) hk (fun b o e => ?_) (by simpa using hlen) (by lia) (fun i k v e => ?_) fun h2 tk hk2 hd2 => ?_
      · have hb := Heap.lt_size e
        exact ⟨Nat.ne_of_lt (Nat.lt_add_right _ hb), Nat.ne_of_lt (Nat.lt_add_right _ hb), Nat.ne_of_lt hb, Nat.ne_of_lt (Nat.lt_add_right _ hb)⟩
      · obtain ⟨t, e1, e2⟩ := hks i k v e
        exact ⟨t, by simpa using e1, by simpa using e2⟩
      have hfl : flatVals (ks.zip vs') := fun p hp => hf p.2 (List.of_mem_zip hp).2
      have hrel : DictRel h2 (putD (ks.zip vs')) (putAll [] kvs) := put_rel (pairs_flat hfl hpr) trivial
      have hD : s₁.heap.objs.size ≤ h'.objs.size := by rw [hsz]; exact Nat.le_add_right _ _
      have hs2 : s₁.heap.objs.size ≤ h2.objs.size := by
        obtain ⟨o, es, ep, ho, _⟩ := hd2
        exact Nat.le_trans hD (Nat.le_of_lt (Heap.lt_size ho))
      obtain ⟨S', x'⟩ := S₁.newObj (p := (h'.objs.size, h'.objs.size)) (o := .dict (putD (ks.zip vs'))) (h' := h2) (t := tk) hD hD hk2 hs2 ⟨rfl, _, hd2, hrel⟩
      exact ⟨.ref H₁.length, _, _, S', x₁.trans x', ⟨(h'.objs.size, h'.objs.size), by rw [← S₁.hok.len]; simp, rfl⟩, hq⟩

noncomputable def prs (ps : List (Str × PyData)) : List PyData := ps.map fun p => .tuple [.str p.1, p.2]
theorem tup_inv {h : Heap} {v : Value} {l : List PyData} {as : List Addr} (r : Reads h v (.tuple l) as) : ∃ a o vs n, v = .ref a ∧ h.get? a = some o ∧ o.cls = .type "tuple" ∧ o.data = .seq vs n ∧ ReadsAll h vs.toList l as :=
  let ⟨a, vs, e, ⟨o, h1, h2, n, h3⟩, h4⟩ := tup_of_reads r; ⟨a, o, vs.toArray, n, e, h1, h2, h3, h4⟩
theorem reads_pairs {h : Heap} (ps : List (Str × PyData)) : ∀ {xs : List Value} {as : List Addr}, ReadsAll h xs (prs ps) as → flatVals ps →
    ∃ kvs, DictRel h ps kvs ∧ xs.length = kvs.length ∧ ∀ (i : Nat) k v, kvs[i]? = some (k, v) → ∃ t o tk n, xs[i]? = some (.ref t) ∧ h.get? t = some o ∧ o.cls = .type "tuple" ∧ o.data = .seq #[.str k tk, v] n := by
  induction ps with
  | nil => exact fun r _ => let ⟨e, _⟩ := reads_nil r rfl; ⟨[], trivial, e ▸ rfl, fun i k v e => by cases i <;> cases e⟩
  | cons p ps ih =>
    intro xs as r hf
    obtain ⟨x, xs1, bs, cs, rfl, q, r1, _⟩ := reads_cons r
    obtain ⟨t, o, vs, n, rfl, g1, g2, g3, g4⟩ := tup_inv q
    obtain ⟨kvs, h1, h2, h3⟩ := ih r1 fun p hp => hf p (.tail _ hp)
    obtain ⟨k, ws, _, _, e1, a1, a2, _⟩ := reads_cons g4
    obtain ⟨v, zs, _, _, rfl, b1, b2, _⟩ := reads_cons a2
    obtain ⟨rfl, _⟩ := reads_nil b2 rfl
    obtain ⟨tk, rfl⟩ := reads_str a1
    have hvs : vs = #[.str p.1 tk, v] := Array.toList_inj.mp e1
    refine ⟨(p.1, v) :: kvs, ⟨rfl, (flat_reads b1 (hf p (.head _))).2 h, h1⟩, congrArg (· + 1) h2, fun i k' v' e => ?_⟩
    cases i with
    | zero => exact let ⟨e1, e2⟩ := Prod.mk.inj (Option.some.inj e); ⟨t, o, tk, n, rfl, g1, g2, by rw [g3, hvs, e1, e2]⟩
    | succ i => exact h3 i k' v' e

noncomputable def t_snd_dictcomp (caps : List (Str × Nat)) (u : TrI) (t : TrB) (xe : Tr) : Tr := fun d ρ H Q => u d ρ H fun items H => items.length ≤ 65536 ∧ compL d t xe ρ caps items [] H fun acc H => ∃ ps, acc = prs ps ∧ ps.length ≤ 1000 ∧ flatVals ps ∧ Q (.ref H.length) (H ++ [.dict (putD ps)])
/-- dict of a display of pairs -/
theorem snd_dictcomp {fp pos pos1 : Pos} {elt iter : Expr} {x : Str} {px : Pos} {ifs : List Expr} {c : Scope} {u : TrI} {t : TrB} {xe : Tr} (hg : globOk sc "dict" = true) (hm : W.mg "dict" = none) (hb : W.mb "dict" = some (.type "dict")) (caps : List (Str × Nat))
    (hok : compOk c sc nm x caps = true) (h1 : SndI W sc nm iter u) (h2 : SndF W (relS c sc) (compNm x caps) ifs t) (h3 : SndE W (relS c sc) (compNm x caps) elt xe)
    (hs : ∀ env x, foldedSetIterable iter env x = pure x := by intro _ _; rfl) :
    SndE W sc nm (.Call (.Name "dict" fp) [.ListComp elt [⟨.Name x px, iter, ifs, 0⟩] c pos1] [] pos) (t_snd_dictcomp caps u t xe) :=
  .mk fun Q d A E s env Φ μ ρ H hE hA S hq => by
    refine wpAny_Call_Name_kw (load_builtin hg hE S hm hb ?_)
    show wpAny _ _ (callWith pos (.type "dict") [] (backTo pos (starEach [.ListComp elt [⟨.Name x px, iter, ifs, 0⟩] c pos1] env)) []) _ _ _
    refine PySem.callWith_type (starEach_plain rfl env pos) (arg1 rfl ?_)
    show wpAny _ _ (eval (.ListComp elt [⟨.Name x px, iter, ifs, 0⟩] c pos1) env) _ _ _
    rw [eval_ListComp]
    refine comp_core (use := none) (Q := fun acc H => ∃ ps : List (Str × PyData), acc = prs ps ∧ ps.length ≤ 1000 ∧ flatVals ps ∧ Q (.ref H.length) (H ++ [O.dict (putD ps)])) hok h1 h2 h3 hs hE hA S hq ?_
    intro s' H' μ' acc D C I S' x' hI hC hD hv hplD ⟨m, hn⟩ hq
    obtain ⟨ps, rfl, hpl, hf, hq⟩ := hq
    refine ⟨m, hn, fun h' hs' => ?_⟩
    have hCb : W.base.objs.size ≤ C := Nat.le_trans S.inv.size hC
    have hnC : ∀ o, s'.heap.get? C = some o → ¬ TupObj o := by
      obtain ⟨o', es, ep, ho', hd', _⟩ := hn
      rintro o ho ⟨_, vs, n, hd⟩
      rw [ho] at ho'; cases ho'
      rw [hd] at hd'; cases hd'
    have hDC : D ≠ C := by
      obtain ⟨o', es, ep, ho', hd', _⟩ := hn
      obtain ⟨ys, n, e⟩ := hplD
      intro q
      rw [q, ho'] at e
      cases e
      cases hd'
    have hk : ∀ b o, b ∉ [C] → s'.heap.get? b = some o → h'.get? b = some o := fun b o hb e => (hs'.2 b fun q => hb (by rw [q]; exact .head _)).trans e
    obtain ⟨S₂, mv⟩ := S'.turn (t := s'.toks) (.inr rfl) hCb hnC hk (Nat.le_of_eq hs'.1.symm)
    have hsub : ∀ a, Φ a → ((Φ a ∨ a = I) ∨ a = C) := fun a ha => .inl (.inl ha)
    have xE : Ext s.heap μ h' μ' := by
      refine ExtF.toE (F := fun a => a = I ∨ a = D ∨ a = C) Ext.refl (x'.trans ⟨⟨[], by simp, fun _ ha => absurd ha FP.nil⟩, Nat.le_of_eq hs'.1.symm, fun b o e _ hb => hk b o (fun hm => hb (.inr (.inr (List.mem_singleton.mp hm)))) e⟩) ?_
      rintro a (rfl | rfl | rfl)
      · exact hI
      · exact hD
      · exact hC
    have S₃ := S₂.sub hsub
    obtain ⟨as, r, _⟩ := hv.mv mv
    obtain ⟨ys, n, hplD⟩ := hplD
    have hpl' := hk _ _ (fun q => hDC (List.mem_singleton.mp q)) hplD
    obtain ⟨a1, xs, b1, ha1, hl1, hx⟩ := list_of_reads r
    cases ha1
    have hxs : xs = ys.toList := by
      obtain ⟨o, e1, e2, n2, e3⟩ := hl1
      rw [hpl'] at e1
      cases e1
      cases e3
      rfl
    subst hxs
    obtain ⟨kvs, hpr, hlen, hks⟩ := reads_pairs _ hx hf
    have hkl := dictRel_len hpr
    refine z_call_list (kvs := kvs) (items := ys) hA.handled ⟨n, hpl'⟩ (by simpa using hlen) (by lia) (fun i k v e => ?_) fun h2 tk hk2 hd2 => ?_
    · obtain ⟨t, o, tk, n, e1, e2⟩ := hks i k v e
      exact ⟨t, o, tk, n, by simpa using e1, e2⟩
    have hrel : DictRel h2 (putD ps) (putAll [] kvs) := put_rel (pairs_flat hf hpr) trivial
    have hs2 : h'.objs.size ≤ h2.objs.size := by
      obtain ⟨o, es, ep, ho, _⟩ := hd2
      exact Nat.le_of_lt (Heap.lt_size ho)
    obtain ⟨S4, x4⟩ := S₃.newObj (p := (h'.objs.size, h'.objs.size)) (o := .dict (putD ps)) (h' := h2) (t := tk) (Nat.le_refl _) (Nat.le_refl _) hk2 hs2 ⟨rfl, _, hd2, hrel⟩
    exact ⟨.ref H'.length, _, _, S4, xE.trans x4, ⟨(h'.objs.size, h'.objs.size), by rw [← S₃.hok.len]; simp, rfl⟩, hq⟩
end

/-! ## H0 -/
open PySem.Challenge (pw_pc0212_01 rw_pc0212_01)

/-! ### the head: what the statement says of the text, by the kernel's evaluation through the library's quick twins -/
theorem meet_of {body : List Stmt} {ok : Scope → Str → Bool} (h : PySem.W.Fast.tw17119622794617984870 pw_pc0212_01 body ok = true) : namesMeet pw_pc0212_01 body ok = true := by
  rw [PySem.W.Fast.te17119622794617984870]; exact h
theorem said_a : namesResolve pw_pc0212_01 = true := by
  rw [PySem.W.Fast.te8377067652309620493]; kernel_rfl
theorem said_b : (namesMeet pw_pc0212_01 pw_pc0212_01.main.body fun _ n => attrL n) = true := meet_of (by kernel_rfl)
theorem said_c : noRoadLSs { strict := !(importedModules pw_pc0212_01.main.body).all cThrough.contains, foot := none, bare := (["vars", "dir", "locals"] : List Str).filter (readsOut pw_pc0212_01 pw_pc0212_01.main.body) } pw_pc0212_01.main.body = true := by
  rw [PySem.W.Fast.te8326940854005059898]; kernel_rfl
theorem said_d : looksOpen pw_pc0212_01 = true := by
  unfold looksOpen
  refine look_both (look_both (look_both (look_both (look_both ?_ ?_) said_a) ?_) said_c) said_b <;> kernel_rfl
theorem said_e : rw_pc0212_01.row.wellSaid = true := by
  unfold OpenRow.wellSaid OpenRow.partSaid
  refine look_both (look_both (look_both (look_both (look_both (look_both (look_both (look_both (look_both (look_both (look_both (look_both (look_both (look_both (look_both said_d ?_) ?_) ?_) ?_) ?_) ?_) ?_) ?_) ?_) ?_) ?_) ?_) ?_) ?_) ?_ <;> kernel_rfl
theorem said_f : (namesMeet pw_pc0212_01 rw_pc0212_01.footing fun sc n => (!(["type", "isinstance", "issubclass", "getattr", "hasattr"] : List Str).contains n || sc.names.lookup n == some .globalImplicit) &&
    (rw_pc0212_01.may != some n || sc.kind == .module || sc.names.lookup n == some .globalImplicit)) = true := meet_of (by kernel_rfl)
theorem said_g : (namesMeet pw_pc0212_01 rw_pc0212_01.above fun _ n => !rw_pc0212_01.own.contains n) = true := meet_of (by kernel_rfl)
theorem said_h : (namesMeet pw_pc0212_01 rw_pc0212_01.footing fun sc n => sc.kind == .module || sc.names.lookup n != some .globalExplicit) = true := meet_of (by kernel_rfl)
theorem said : rw_pc0212_01.wellSaid = true := by
  unfold OpenLaw.wellSaid
  refine look_both (look_both (look_both (look_both (look_both (look_both (look_both (look_both (look_both (look_both (look_both (look_both (look_both (look_both (look_both (look_both (look_both (look_both said_e ?_) ?_) ?_) ?_) ?_) ?_) ?_) ?_) ?_) ?_) ?_) ?_) said_f) ?_) ?_) ?_) said_g) said_h <;> kernel_rfl

/-! ## H1 -/
open PySem.Challenge (pw_pc0212_01 rw_pc0212_01)

theorem end_through (t : Thread) : through t = (endAt 0 t).isSome := by
  obtain ⟨cur, code, pos, stack⟩ := t
  cases stack with
  | cons => cases cur <;> rfl
  | nil =>
    cases cur with
    | pure x => cases x <;> rfl
    | _ => rfl
theorem seg_top0 {tb : String → Option Builtin} {p : Program} {w : World} {n₀ : Nat} {ann : Option Value} {s' : Shared} {f : Flow} {c : Code} {q : Pos} {n : Nat} : ∀ {s : Shared} {t : Thread}, segRun tb p w n₀ ann 0 n s t = some (f, s', c, q) → topRun tb p w n₀ ann n s t = some s' := by
  induction n with
  | zero => exact fun h => nomatch h
  | succ n ih =>
    intro s t h
    have h : (match endAt 0 t with | some f => some (f, s, t.code, t.pos) | none => match stepOk n₀ ann t with | false => none | true => match step (denote tb) p w s t with | .go s' t' => segRun tb p w n₀ ann 0 n s' t' | .halt _ _ => none) = some (f, s', c, q) := h
    show (match through t with | true => some s | false => match stepOk n₀ ann t with | false => none | true => match step (denote tb) p w s t with | .go s' t' => topRun tb p w n₀ ann n s' t' | .halt _ _ => none) = some s'
    rw [end_through t]
    cases he : endAt 0 t with
    | some f' => rw [he] at h; exact congrArg some (Prod.mk.inj (Prod.mk.inj (Option.some.inj h)).2).1
    | none =>
      rw [he] at h
      cases hk : stepOk n₀ ann t with
      | false => rw [hk] at h; cases h
      | true =>
        rw [hk] at h
        cases hs : step (denote tb) p w s t with
        | halt o x => rw [hs] at h; cases h
        | go s1 t1 => rw [hs] at h; exact ih h

noncomputable def bt0 (P : Params) : BT := (boot_heap P).objs.toList.zipIdx.foldl (fun t p => t.ins p.2 p.1) .nil
noncomputable def st0 (w : World) (os : OsState) : SharedT := ⟨bt0 w.params, 11, {}, #[], boot_drawn, boot_toks, os⟩
theorem st0_abs (w : World) (os : OsState) : (st0 w os).abs = ⟨boot_heap w.params, #[], boot_drawn, boot_toks, os⟩ := by kernel_rfl
/-- the law's def alone is looked at in the library's way -/
noncomputable def qv : Program := view pw_pc0212_01 [66]
noncomputable def lo : List Str := (pw_pc0212_01.boundNames).filter fun x => !(x == "law")
noncomputable def looks (w : World) (s : Shared) := (staticsOk (importedModules pw_pc0212_01.main.body) (boot_heap w.params) s.heap && namesBound pw_pc0212_01 s.heap && gensDone s && laidKept (boot_heap w.params) s.heap,
   PySem.W.Fast.tw4187177175401517315 qv lo (importedModules pw_pc0212_01.main.body) (fun _ => true) true s)
/-- the top's run, from the booted heap to its end -/
noncomputable def ran (w : World) (os : OsState) : Option (Flow × SharedT × Code × Pos) := PySem.W.Fast.tw10110043849684766642 PySem.W.Fast.tw14364793385576792824 pw_pc0212_01 w 11 (some (.ref 6)) 0 4000 (st0 w os) (topStub pw_pc0212_01)
theorem size0 (w : World) : ((boot_heap w.params).isNs mainGlobals && (#[] : Array GenState).size == 0, (boot_heap w.params).objs.size, (boot_heap w.params).nsMap mainGlobals "__annotations__") = (true, 11, some (.ref 6)) := by
  rw [PySem.W.Fast.te8920871248978507458]; kernel_rfl
theorem fence0 (s : Shared) : fenceModules? pw_pc0212_01 s = some s := by kernel_rfl
theorem open0 : opening pw_pc0212_01 = plainProg pw_pc0212_01.main.scope.names := by kernel_rfl

theorem left_of {α : Type} {Y : Shared → α} {v : α} (h1 : ∀ w os, (ran w os).map (fun r => looks w r.2.1.abs) = some (true, openGood qv lo)) (h2 : ∀ w os, (ran w os).map (fun r => Y r.2.1.abs) = some v) : LeftO pw_pc0212_01 qv lo (fun _ => true) Y (fun _ => v) 4000 true := fun w => by
  obtain ⟨⟨hp, gs, d, k, os⟩, e, e'⟩ := Option.map_eq_some_iff.mp (boot_open (p := pw_pc0212_01) (N := 4000) open0 rfl fence0 w)
  obtain ⟨rfl, rfl, rfl, rfl⟩ : hp = boot_heap w.params ∧ gs = Array.mk [] ∧ d = boot_drawn ∧ k = boot_toks := by
    have e1 := Prod.mk.inj e'
    have e2 := Prod.mk.inj e1.2
    have e3 := Prod.mk.inj e2.2
    exact ⟨e1.1, e2.1, e3.1, e3.2⟩
  obtain ⟨⟨f, sT, c, q⟩, hr, l1⟩ := Option.map_eq_some_iff.mp (h1 w os)
  have l2 := h2 w os
  rw [hr] at l2
  have l2 := Option.some.inj l2
  unfold ran at hr
  rw [← PySem.W.Fast.te10110043849684766642, ← PySem.W.Fast.te14364793385576792824] at hr
  have ht := seg_top0 (segRun_of hr)
  rw [st0_abs] at ht
  unfold looks at l1
  obtain ⟨l3, l4⟩ := Prod.mk.inj l1
  rw [← PySem.W.Fast.te4187177175401517315] at l4
  have z1 := congrArg Prod.fst (size0 w)
  have z2 := congrArg (fun x => x.2.1) (size0 w)
  have z3 := congrArg (fun x => x.2.2) (size0 w)
  dsimp only at z1 z2 z3
  unfold openEnds
  rw [e, Option.bind_some]
  unfold topFrom
  dsimp only
  rw [z1, z2, z3, ht]
  dsimp only [Option.bind_some]
  rw [l3]
  exact congrArg some (Prod.ext l4 l2)

/-! ## H2 -/
open PySem.Challenge (pw_pc0212_01 rw_pc0212_01)

/-! ### the defs of the text, by their places in it -/
noncomputable def nth : List Stmt → Nat → Stmt
  | s :: _, 0 => s
  | _ :: r, i + 1 => nth r i
  | [], _ => .Pass ⟨0, 0, 0, 0⟩
noncomputable def sel (i : Nat) : Stmt := nth pw_pc0212_01.main.body i
noncomputable def selM (i j : Nat) : Stmt := match sel i with | .ClassDef _ _ _ b _ _ _ _ _ _ _ => nth b j | s => s
noncomputable def parOf : Stmt → Arguments
  | .FunctionDef _ a _ _ _ _ _ _ _ _ => a
  | _ => ⟨[], [], none, [], [], none, []⟩
noncomputable def bodyOf : Stmt → List Stmt
  | .FunctionDef _ _ b _ _ _ _ _ _ _ => b
  | _ => []
noncomputable def scOf : Stmt → Scope
  | .FunctionDef _ _ _ _ _ _ s _ _ _ => s
  | _ => pw_pc0212_01.main.scope
noncomputable def psOf (st : Stmt) : List Str := (parOf st).args.map (·.arg)
noncomputable def nmOf (st : Stmt) : List Str := psOf st ++ ((scOf st).names.filterMap fun (n, k) => if (k == .local || k == .cell) && !(psOf st).contains n then some n else none)
noncomputable def nN (x : Str) : Str × Option Value := (x, none)
noncomputable def nR (x : Str) (a : Addr) : Str × Option Value := (x, some (.ref a))
noncomputable def namesT : List (Str × Option Value) := [nN "dict", nN "zip", nN "tuple", nN "list", nN "str", nN "int", nN "range", nN "len", nN "max", nN "min", nR "expr" 21, nR "is_expr" 28, nR "head_of" 35, nR "parts_of" 42, nR "is_sym" 49, nR "put_once" 59, nR "place_names_scopes" 66, nR "function_head" 73, nR "own_name" 80, nR "parts_in_scope" 87, nR "bound_names" 122, nR "argument_names_scopes" 129, nR "where_names_scopes" 136, nR "without" 141, nR "joined" 148, nR "scope_uses" 155, nR "function_uses" 162, nR "head_uses" 167, nR "plain_uses" 196, nR "used_names" 203, nR "place_names_binders" 212, nR "own_names" 224, nR "argument_names_binders" 231, nR "head_call" 238, nR "head_names" 245, nR "keyword_names" 252, nR "where_names_binders" 259, nR "renamed_locals" 445, nR "_law_tub" 452, nR "_law_cup" 459, nR "_law_new" 466, nR "_law_argument" 473, nR "_law_arguments" 478, nR "_law_bound" 485, nR "_law_function" 490, nR "_law_led" 495, nR "_law_right" 500, nR "law" 507, nR "Bound" 111, nR "NameSupply" 316, nR "Renamer" 434]
noncomputable def funT : List (Addr × Stmt) := [(21, sel 1), (28, sel 2), (35, sel 3), (42, sel 4), (49, sel 5), (59, sel 10), (66, sel 11), (73, sel 13), (80, sel 14), (87, sel 15), (122, sel 17), (129, sel 18), (136, sel 20), (141, sel 22), (148, sel 23), (155, sel 24), (162, sel 25), (167, sel 26), (196, sel 31), (203, sel 32), (212, sel 36), (224, sel 39), (231, sel 40), (238, sel 42), (245, sel 43), (252, sel 44), (259, sel 45), (445, sel 55), (452, sel 57), (459, sel 58), (466, sel 59), (473, sel 60), (478, sel 61), (485, sel 62), (490, sel 63), (495, sel 64), (500, sel 65), (507, sel 66), (101, selM 16 0), (108, selM 16 1), (306, selM 52 0), (313, selM 52 1), (341, selM 54 0), (348, selM 54 1), (355, selM 54 2), (362, selM 54 3), (367, selM 54 4), (374, selM 54 5), (379, selM 54 6), (386, selM 54 7), (393, selM 54 8), (398, selM 54 9), (405, selM 54 10)]
noncomputable def strs_CHANGING : List Str := ["+=", "-=", "*=", "//=", "%=", "|=", "&="]
noncomputable def strs_FUNCTIONS : List Str := ["function", "->", "do", "generated"]
noncomputable def strs_OPENING : List Str := ["function", "->", "do", "let", "for", "while", "try", "comprehension", "generator", "macro", "quote", "escape", "struct", "abstract", "generated"]
noncomputable def strs_SILENT : List Str := ["quote", "macro", "struct", "abstract", "escape"]
noncomputable def strs_UPDATES : List Str := ["=", "+=", "-=", "*=", "//=", "%=", "|=", "&="]
noncomputable def strT : List (Str × List Str) := [("CHANGING", strs_CHANGING), ("FUNCTIONS", strs_FUNCTIONS), ("OPENING", strs_OPENING), ("SILENT", strs_SILENT), ("UPDATES", strs_UPDATES)]
noncomputable def clsT : List Addr := [111, 316, 434]
noncomputable def attT : List (Addr × Str) := [(111, "assigned"), (111, "told_local"), (111, "told_global"), (316, "many"), (434, "supply")]
noncomputable def metT : List (Addr × Str × Addr) := [(111, "__init__", 101), (111, "note", 108), (316, "__init__", 306), (316, "next", 313), (434, "__init__", 341), (434, "fresh", 348), (434, "opened", 355), (434, "body", 362), (434, "all_of", 367), (434, "of", 374), (434, "named", 379), (434, "kept", 386), (434, "function", 393), (434, "head", 398), (434, "argument", 405)]
/-- what is seen of the heap behind the top -/
noncomputable def funO (o : Obj) : Option FuncData := match o.data with
  | .func fd => some fd
  | _ => none
theorem funO_spec {o : Obj} {fd : FuncData} (h : funO o = some fd) : ∃ c dd sl, o = ⟨c, dd, .func fd, sl⟩ := by
  obtain ⟨c, dd, da, sl⟩ := o
  cases da with
  | func f => exact ⟨c, dd, sl, by rw [Option.some.inj (show some f = some fd from h)]⟩
  | _ => cases h
noncomputable def fnObs (K : Frag) (a : Addr) : Option (Arguments × Scope × FuncBody × Bool) := (K.lookup a).bind fun o => (funO o).map fun fd => (fd.params, fd.scope, fd.body, fdCheck K fd)
noncomputable def obC (K : Frag) (C : Addr) := (findIn K (.ref C) "__getattribute__", findIn K (.ref C) "__getattr__", findIn K (.ref C) "__setattr__", plainOver K C, (clsIn K C).any (·.hasDict), makesIn K C, keepIn K (.ref C))
noncomputable def vaC (_ : Addr) := (some (some (Value.builtin "object.__getattribute__")), some (none : Option Value), some (some (Value.builtin "object.__setattr__")), true, true, true, true)
noncomputable def obA (K : Frag) (p : Addr × Str) := (findIn K (.ref p.1) p.2, takerIn K p.1 p.2)
noncomputable def vaA (_ : Addr × Str) := (some (none : Option Value), some (none : Option Value))
noncomputable def obM (K : Frag) (p : Addr × Str × Addr) := (findIn K (.ref p.1) p.2.1, typeIn K (.ref p.2.2))
noncomputable def vaM (p : Addr × Str × Addr) := (some (some (Value.ref p.2.2)), some (Value.type "function"))
noncomputable def obs (K : Frag) := (namesT.map fun p => nsIn K mainGlobals p.1, funT.map fun p => fnObs K p.1, strT.map fun p => tupStrs K p.1, intIn K "MOST_DEEP", clsT.map (obC K), attT.map (obA K), metT.map (obM K))
noncomputable def val := (namesT.map fun p => some p.2, funT.map fun p => some (parOf p.2, scOf p.2, FuncBody.stmts (bodyOf p.2), true), strT.map fun p => some p.2, some (120 : Int), clsT.map vaC, attT.map vaA, metT.map vaM)
/-- the heap's objects, as a list -/
noncomputable def fragL : List Obj → Nat → Frag
  | [], _ => []
  | o :: r, i => match alive o with
    | some o' => (i, o') :: fragL r (i + 1)
    | none => fragL r (i + 1)
theorem fragL_get (l : List Obj) : ∀ (i a : Nat) (o : Obj), (fragL l i).lookup a = some o → ∃ j, a = i + j ∧ (l[j]?).bind alive = some o := by
  induction l with
  | nil => exact fun _ _ _ e => nomatch e
  | cons x r ih =>
    intro i a o e
    have rest : (fragL r (i + 1)).lookup a = some o → ∃ j, a = i + j ∧ ((x :: r)[j]?).bind alive = some o := fun e =>
      let ⟨j, h1, h2⟩ := ih (i + 1) a o e; ⟨j + 1, h1.trans (by rw [Nat.add_assoc, Nat.add_comm 1 j]), h2⟩
    have e : (match alive x with | some o' => (i, o') :: fragL r (i + 1) | none => fragL r (i + 1)).lookup a = some o := e
    cases ho : alive x with
    | none => rw [ho] at e; exact rest e
    | some o' =>
      rw [ho] at e
      rw [List.lookup_cons] at e
      cases q : a == i with
      | true => rw [q] at e; exact ⟨0, eq_of_beq q, ho.trans e⟩
      | false => rw [q] at e; exact rest e
theorem fragL_in (h : Heap) : (fragL h.objs.toList 0).In h := fun a o e => by
  obtain ⟨j, h1, h2⟩ := fragL_get _ _ _ _ e
  obtain rfl : a = j := h1.trans (Nat.zero_add j)
  unfold Heap.get?
  rw [← Array.getElem?_toList]
  cases hx : h.objs.toList[a]? with
  | none => rw [hx] at h2; cases h2
  | some x =>
    rw [hx] at h2
    have h3 : alive x = some o := h2
    unfold alive at h3
    obtain ⟨c, dd, da, sl⟩ := x
    cases da <;> first | (cases h3; rfl) | cases h3
structure FK (W : Wd) (K : Frag) : Prop where
  inn : K.In W.base
  seen : obs K = val

theorem map_at {α β : Type} {f g : α → β} {l : List α} (h : l.map f = l.map g) {i : Nat} {x : α} (hi : l[i]? = some x) : f x = g x := by
  have e := congrArg (fun r => r[i]?) h
  simp only [List.getElem?_map, hi, Option.map_some, Option.some.injEq] at e
  exact e
section
variable {W : Wd} {K : Frag} (hK : FK W K)
include hK
theorem name_at {i : Nat} {x : Str} {v : Option Value} (hi : namesT[i]? = some (x, v)) : W.mg x = v := mg_of hK.inn (map_at (f := fun p => nsIn K mainGlobals p.1) (g := fun p => some p.2) (congrArg (fun o => o.1) hK.seen) hi)
theorem fobs_at {i : Nat} {a : Addr} {st : Stmt} (hi : funT[i]? = some (a, st)) : fnObs K a = some (parOf st, scOf st, .stmts (bodyOf st), true) := map_at (f := fun p => fnObs K p.1) (g := fun p => some (parOf p.2, scOf p.2, FuncBody.stmts (bodyOf p.2), true)) (congrArg (fun o => o.2.1) hK.seen) hi
theorem fd_at {i : Nat} {a : Addr} {st : Stmt} (hi : funT[i]? = some (a, st)) : ∃ fd c dd sl, K.lookup a = some ⟨c, dd, .func fd, sl⟩ ∧ fd.params = parOf st ∧ fd.scope = scOf st ∧ fd.body = .stmts (bodyOf st) ∧ fdCheck K fd = true := by
  exact let ⟨o, hl, e⟩ := Option.bind_eq_some_iff.mp (fobs_at hK hi)
    let ⟨fd, hf, e⟩ := map_some e
    let ⟨c, dd, sl, eo⟩ := funO_spec hf
    ⟨fd, c, dd, sl, hl.trans (congrArg some eo), congrArg (fun o => o.1) e, congrArg (fun o => o.2.1) e, congrArg (fun o => o.2.2.1) e, congrArg (fun o => o.2.2.2) e⟩
theorem fn_is {i : Nat} {a : Addr} {st : Stmt} (hi : funT[i]? = some (a, st)) : IsFn W a := by
  obtain ⟨fd, c, dd, sl, h, _⟩ := fd_at hK hi
  exact ⟨_, fd, hK.inn _ _ h, rfl⟩
theorem strs_at {i : Nat} {x : Str} {v : List Str} (hi : strT[i]? = some (x, v)) : tupStrs K x = some v := map_at (f := fun p => tupStrs K p.1) (g := fun p => some p.2) (congrArg (fun o => o.2.2.1) hK.seen) hi
theorem int_at : intIn K "MOST_DEEP" = some 120 := congrArg (fun o => o.2.2.2.1) hK.seen
theorem cls_at {i : Nat} {C : Addr} (hi : clsT[i]? = some C) : ClsOk K C ∧ keepIn K (.ref C) = true := by
  have e := map_at (f := obC K) (g := vaC) (congrArg (fun o => o.2.2.2.2.1) hK.seen) hi
  exact ⟨⟨congrArg (fun o => o.1) e, congrArg (fun o => o.2.1) e, congrArg (fun o => o.2.2.1) e, congrArg (fun o => o.2.2.2.1) e, congrArg (fun o => o.2.2.2.2.1) e, congrArg (fun o => o.2.2.2.2.2.1) e⟩, congrArg (fun o => o.2.2.2.2.2.2) e⟩
theorem att_at {i : Nat} {C : Addr} {x : Str} (hi : attT[i]? = some (C, x)) : findIn K (.ref C) x = some none ∧ takerIn K C x = some none := by
  have e := map_at (f := obA K) (g := vaA) (congrArg (fun o => o.2.2.2.2.2.1) hK.seen) hi
  exact ⟨congrArg (fun o => o.1) e, congrArg (fun o => o.2) e⟩
theorem met_at {i j : Nat} {C f : Addr} {x : Str} {st : Stmt} (hi : metT[i]? = some (C, x, f)) (hj : funT[j]? = some (f, st)) : MethOk K C x f := by
  have e := map_at (f := obM K) (g := vaM) (congrArg (fun o => o.2.2.2.2.2.2) hK.seen) hi
  exact let ⟨fd, c, dd, sl, h, _⟩ := fd_at hK hj; ⟨congrArg (fun o => o.1) e, congrArg (fun o => o.2) e, fd, c, dd, sl, h⟩
/-- a call of a def of the text -/
theorem call_fn {i : Nat} {a : Addr} {st : Stmt} {nm : List Str} {n : Nat} {t : TrS} (hi : funT[i]? = some (a, st)) (hx : SndB W (scOf st) nm (bodyOf st) t) (hn : nmOf st = nm) (hnl : nm.length = n) {d : Nat} {args : List V} {H : List O} {Q : V → List O → Prop}
    (hlen : args.length = (psOf st).length) (hq : Closed H → t d (initRho n args) H fun fl _ H' => RetW H.length fl H' Q) : CallW W a (d + 1) args H Q := by
  obtain ⟨fd, c, dd, sl, h, h1, h2, h3, h4⟩ := fd_at hK hi
  have e1 : fdPs fd = psOf st := by unfold fdPs psOf; rw [h1]
  have e2 : fdBody fd = bodyOf st := by unfold fdBody; rw [h3]
  have e3 : fdNames fd = nm := by rw [← hn]; unfold fdNames nmOf; rw [e1, h2]
  have hx' : SndB W fd.scope (fdNames fd) (fdBody fd) t := by rw [h2, e3, e2]; exact hx
  refine callW_fd hK.inn (hK.inn _ _ h) rfl h4 hx' (by rw [e1]; exact hlen) ?_
  rw [e3, hnl]; exact hq
end

structure Bu (W : Wd) : Prop where
  dict : W.mb "dict" = some (.type "dict")
  zip : W.mb "zip" = some (.type "zip")
  tuple_ : W.mb "tuple" = some (.type "tuple")
  list_ : W.mb "list" = some (.type "list")
  str_ : W.mb "str" = some (.type "str")
  int_ : W.mb "int" = some (.type "int")
  range_ : W.mb "range" = some (.type "range")
  len_ : W.mb "len" = some (.builtin "len")
  max_ : W.mb "max" = some (.builtin "max")
  min_ : W.mb "min" = some (.builtin "min")
section
variable {W : Wd} {K : Frag} (hK : FK W K)
include hK
theorem n_dict : W.mg "dict" = none := name_at hK (i := 0) rfl
theorem n_zip : W.mg "zip" = none := name_at hK (i := 1) rfl
theorem n_tuple : W.mg "tuple" = none := name_at hK (i := 2) rfl
theorem n_list : W.mg "list" = none := name_at hK (i := 3) rfl
theorem n_str : W.mg "str" = none := name_at hK (i := 4) rfl
theorem n_int : W.mg "int" = none := name_at hK (i := 5) rfl
theorem n_range : W.mg "range" = none := name_at hK (i := 6) rfl
theorem n_len : W.mg "len" = none := name_at hK (i := 7) rfl
theorem n_max : W.mg "max" = none := name_at hK (i := 8) rfl
theorem n_min : W.mg "min" = none := name_at hK (i := 9) rfl
theorem g_expr : W.mg "expr" = some (.ref 21) ∧ IsFn W 21 := ⟨name_at hK (i := 10) rfl, fn_is hK (i := 0) rfl⟩
theorem g_is_expr : W.mg "is_expr" = some (.ref 28) ∧ IsFn W 28 := ⟨name_at hK (i := 11) rfl, fn_is hK (i := 1) rfl⟩
theorem g_head_of : W.mg "head_of" = some (.ref 35) ∧ IsFn W 35 := ⟨name_at hK (i := 12) rfl, fn_is hK (i := 2) rfl⟩
theorem g_parts_of : W.mg "parts_of" = some (.ref 42) ∧ IsFn W 42 := ⟨name_at hK (i := 13) rfl, fn_is hK (i := 3) rfl⟩
theorem g_is_sym : W.mg "is_sym" = some (.ref 49) ∧ IsFn W 49 := ⟨name_at hK (i := 14) rfl, fn_is hK (i := 4) rfl⟩
theorem g_put_once : W.mg "put_once" = some (.ref 59) ∧ IsFn W 59 := ⟨name_at hK (i := 15) rfl, fn_is hK (i := 5) rfl⟩
theorem g_place_names_scopes : W.mg "place_names_scopes" = some (.ref 66) ∧ IsFn W 66 := ⟨name_at hK (i := 16) rfl, fn_is hK (i := 6) rfl⟩
theorem g_function_head : W.mg "function_head" = some (.ref 73) ∧ IsFn W 73 := ⟨name_at hK (i := 17) rfl, fn_is hK (i := 7) rfl⟩
theorem g_own_name : W.mg "own_name" = some (.ref 80) ∧ IsFn W 80 := ⟨name_at hK (i := 18) rfl, fn_is hK (i := 8) rfl⟩
theorem g_parts_in_scope : W.mg "parts_in_scope" = some (.ref 87) ∧ IsFn W 87 := ⟨name_at hK (i := 19) rfl, fn_is hK (i := 9) rfl⟩
theorem g_bound_names : W.mg "bound_names" = some (.ref 122) ∧ IsFn W 122 := ⟨name_at hK (i := 20) rfl, fn_is hK (i := 10) rfl⟩
theorem g_argument_names_scopes : W.mg "argument_names_scopes" = some (.ref 129) ∧ IsFn W 129 := ⟨name_at hK (i := 21) rfl, fn_is hK (i := 11) rfl⟩
theorem g_where_names_scopes : W.mg "where_names_scopes" = some (.ref 136) ∧ IsFn W 136 := ⟨name_at hK (i := 22) rfl, fn_is hK (i := 12) rfl⟩
theorem g_without : W.mg "without" = some (.ref 141) ∧ IsFn W 141 := ⟨name_at hK (i := 23) rfl, fn_is hK (i := 13) rfl⟩
theorem g_joined : W.mg "joined" = some (.ref 148) ∧ IsFn W 148 := ⟨name_at hK (i := 24) rfl, fn_is hK (i := 14) rfl⟩
theorem g_scope_uses : W.mg "scope_uses" = some (.ref 155) ∧ IsFn W 155 := ⟨name_at hK (i := 25) rfl, fn_is hK (i := 15) rfl⟩
theorem g_function_uses : W.mg "function_uses" = some (.ref 162) ∧ IsFn W 162 := ⟨name_at hK (i := 26) rfl, fn_is hK (i := 16) rfl⟩
theorem g_head_uses : W.mg "head_uses" = some (.ref 167) ∧ IsFn W 167 := ⟨name_at hK (i := 27) rfl, fn_is hK (i := 17) rfl⟩
theorem g_plain_uses : W.mg "plain_uses" = some (.ref 196) ∧ IsFn W 196 := ⟨name_at hK (i := 28) rfl, fn_is hK (i := 18) rfl⟩
theorem g_used_names : W.mg "used_names" = some (.ref 203) ∧ IsFn W 203 := ⟨name_at hK (i := 29) rfl, fn_is hK (i := 19) rfl⟩
theorem g_place_names_binders : W.mg "place_names_binders" = some (.ref 212) ∧ IsFn W 212 := ⟨name_at hK (i := 30) rfl, fn_is hK (i := 20) rfl⟩
theorem g_own_names : W.mg "own_names" = some (.ref 224) ∧ IsFn W 224 := ⟨name_at hK (i := 31) rfl, fn_is hK (i := 21) rfl⟩
theorem g_argument_names_binders : W.mg "argument_names_binders" = some (.ref 231) ∧ IsFn W 231 := ⟨name_at hK (i := 32) rfl, fn_is hK (i := 22) rfl⟩
theorem g_head_call : W.mg "head_call" = some (.ref 238) ∧ IsFn W 238 := ⟨name_at hK (i := 33) rfl, fn_is hK (i := 23) rfl⟩
theorem g_head_names : W.mg "head_names" = some (.ref 245) ∧ IsFn W 245 := ⟨name_at hK (i := 34) rfl, fn_is hK (i := 24) rfl⟩
theorem g_keyword_names : W.mg "keyword_names" = some (.ref 252) ∧ IsFn W 252 := ⟨name_at hK (i := 35) rfl, fn_is hK (i := 25) rfl⟩
theorem g_where_names_binders : W.mg "where_names_binders" = some (.ref 259) ∧ IsFn W 259 := ⟨name_at hK (i := 36) rfl, fn_is hK (i := 26) rfl⟩
theorem g_renamed_locals : W.mg "renamed_locals" = some (.ref 445) ∧ IsFn W 445 := ⟨name_at hK (i := 37) rfl, fn_is hK (i := 27) rfl⟩
theorem g_law_tub : W.mg "_law_tub" = some (.ref 452) ∧ IsFn W 452 := ⟨name_at hK (i := 38) rfl, fn_is hK (i := 28) rfl⟩
theorem g_law_cup : W.mg "_law_cup" = some (.ref 459) ∧ IsFn W 459 := ⟨name_at hK (i := 39) rfl, fn_is hK (i := 29) rfl⟩
theorem g_law_new : W.mg "_law_new" = some (.ref 466) ∧ IsFn W 466 := ⟨name_at hK (i := 40) rfl, fn_is hK (i := 30) rfl⟩
theorem g_law_argument : W.mg "_law_argument" = some (.ref 473) ∧ IsFn W 473 := ⟨name_at hK (i := 41) rfl, fn_is hK (i := 31) rfl⟩
theorem g_law_arguments : W.mg "_law_arguments" = some (.ref 478) ∧ IsFn W 478 := ⟨name_at hK (i := 42) rfl, fn_is hK (i := 32) rfl⟩
theorem g_law_bound : W.mg "_law_bound" = some (.ref 485) ∧ IsFn W 485 := ⟨name_at hK (i := 43) rfl, fn_is hK (i := 33) rfl⟩
theorem g_law_function : W.mg "_law_function" = some (.ref 490) ∧ IsFn W 490 := ⟨name_at hK (i := 44) rfl, fn_is hK (i := 34) rfl⟩
theorem g_law_led : W.mg "_law_led" = some (.ref 495) ∧ IsFn W 495 := ⟨name_at hK (i := 45) rfl, fn_is hK (i := 35) rfl⟩
theorem g_law_right : W.mg "_law_right" = some (.ref 500) ∧ IsFn W 500 := ⟨name_at hK (i := 46) rfl, fn_is hK (i := 36) rfl⟩
theorem g_law : W.mg "law" = some (.ref 507) ∧ IsFn W 507 := ⟨name_at hK (i := 47) rfl, fn_is hK (i := 37) rfl⟩
theorem v_Bound : W.mg "Bound" = some (.ref 111) := name_at hK (i := 48) rfl
theorem v_NameSupply : W.mg "NameSupply" = some (.ref 316) := name_at hK (i := 49) rfl
theorem v_Renamer : W.mg "Renamer" = some (.ref 434) := name_at hK (i := 50) rfl
theorem s_CHANGING : tupStrs K "CHANGING" = some strs_CHANGING := strs_at hK (i := 0) rfl
theorem s_FUNCTIONS : tupStrs K "FUNCTIONS" = some strs_FUNCTIONS := strs_at hK (i := 1) rfl
theorem s_OPENING : tupStrs K "OPENING" = some strs_OPENING := strs_at hK (i := 2) rfl
theorem s_SILENT : tupStrs K "SILENT" = some strs_SILENT := strs_at hK (i := 3) rfl
theorem s_UPDATES : tupStrs K "UPDATES" = some strs_UPDATES := strs_at hK (i := 4) rfl
theorem s_MOST_DEEP : intIn K "MOST_DEEP" = some 120 := int_at hK
theorem c_Bound : ClsOk K 111 := (cls_at hK (i := 0) rfl).1
theorem kp_Bound : keepIn K (.ref 111) = true := (cls_at hK (i := 0) rfl).2
theorem c_NameSupply : ClsOk K 316 := (cls_at hK (i := 1) rfl).1
theorem kp_NameSupply : keepIn K (.ref 316) = true := (cls_at hK (i := 1) rfl).2
theorem c_Renamer : ClsOk K 434 := (cls_at hK (i := 2) rfl).1
theorem kp_Renamer : keepIn K (.ref 434) = true := (cls_at hK (i := 2) rfl).2
theorem a_assigned : findIn K (.ref 111) "assigned" = some none := (att_at hK (i := 0) rfl).1
theorem k_assigned : takerIn K 111 "assigned" = some none := (att_at hK (i := 0) rfl).2
theorem a_told_local : findIn K (.ref 111) "told_local" = some none := (att_at hK (i := 1) rfl).1
theorem k_told_local : takerIn K 111 "told_local" = some none := (att_at hK (i := 1) rfl).2
theorem a_told_global : findIn K (.ref 111) "told_global" = some none := (att_at hK (i := 2) rfl).1
theorem k_told_global : takerIn K 111 "told_global" = some none := (att_at hK (i := 2) rfl).2
theorem a_many : findIn K (.ref 316) "many" = some none := (att_at hK (i := 3) rfl).1
theorem k_many : takerIn K 316 "many" = some none := (att_at hK (i := 3) rfl).2
theorem a_supply : findIn K (.ref 434) "supply" = some none := (att_at hK (i := 4) rfl).1
theorem k_supply : takerIn K 434 "supply" = some none := (att_at hK (i := 4) rfl).2
theorem m_Bound_init : MethOk K 111 "__init__" 101 := met_at hK (i := 0) rfl (j := 38) rfl
theorem m_Bound_note : MethOk K 111 "note" 108 := met_at hK (i := 1) rfl (j := 39) rfl
theorem m_NameSupply_init : MethOk K 316 "__init__" 306 := met_at hK (i := 2) rfl (j := 40) rfl
theorem m_NameSupply_next : MethOk K 316 "next" 313 := met_at hK (i := 3) rfl (j := 41) rfl
theorem m_Renamer_init : MethOk K 434 "__init__" 341 := met_at hK (i := 4) rfl (j := 42) rfl
theorem m_Renamer_fresh : MethOk K 434 "fresh" 348 := met_at hK (i := 5) rfl (j := 43) rfl
theorem m_Renamer_opened : MethOk K 434 "opened" 355 := met_at hK (i := 6) rfl (j := 44) rfl
theorem m_Renamer_body : MethOk K 434 "body" 362 := met_at hK (i := 7) rfl (j := 45) rfl
theorem m_Renamer_all_of : MethOk K 434 "all_of" 367 := met_at hK (i := 8) rfl (j := 46) rfl
theorem m_Renamer_of : MethOk K 434 "of" 374 := met_at hK (i := 9) rfl (j := 47) rfl
theorem m_Renamer_named : MethOk K 434 "named" 379 := met_at hK (i := 10) rfl (j := 48) rfl
theorem m_Renamer_kept : MethOk K 434 "kept" 386 := met_at hK (i := 11) rfl (j := 49) rfl
theorem m_Renamer_function : MethOk K 434 "function" 393 := met_at hK (i := 12) rfl (j := 50) rfl
theorem m_Renamer_head : MethOk K 434 "head" 398 := met_at hK (i := 13) rfl (j := 51) rfl
theorem m_Renamer_argument : MethOk K 434 "argument" 405 := met_at hK (i := 14) rfl (j := 52) rfl
end

/-! ## H3 -/
open PySem.Challenge (pw_pc0212_01 rw_pc0212_01)

/-- the top's run, and what is seen behind it -/
theorem ran_ok (w : World) (os : OsState) : (ran w os).map (fun r => looks w r.2.1.abs) = some (true, openGood qv lo) := by kernel_rfl
theorem ran_obs (w : World) (os : OsState) : (ran w os).map (fun r => obs (fragL r.2.1.abs.heap.objs.toList 0)) = some val := by kernel_rfl
theorem left : LeftO pw_pc0212_01 qv lo (fun _ => true) (fun s => obs (fragL s.heap.objs.toList 0)) (fun _ => val) 4000 true := left_of ran_ok ran_obs
/-- what is known of the heap behind the top -/
noncomputable def Known (_ : World) (h : Heap) : Prop := ∃ K : Frag, K.In h ∧ obs K = val
noncomputable def lawDef : DefRec := ⟨"law", parOf (sel 66), bodyOf (sel 66), scOf (sel 66), match sel 66 with | .FunctionDef _ _ _ _ _ _ _ _ _ p => p | _ => default⟩
theorem bare_ok : pw_pc0212_01.bare := ⟨rfl, rfl, rfl, rfl, rfl, by kernel_rfl⟩
/-- the head: the rest is the call of law -/
theorem head (call : WalkO qv lo (fun _ _ => True) Known rw_pc0212_01.row.toRowW lawDef [] fun f vs => PySem.call f vs) : rw_pc0212_01.Holds :=
  holds_law said fun k1 => holds_open (r := rw_pc0212_01.row) (q := qv) (loose := lo) (Xt := fun _ => true) (XP := fun _ _ => True) (YP := Known) (d := lawDef) (kwd := []) left
    (fun w s e => ⟨_, fragL_in _, e⟩) (fun w h h' ⟨K, k1, k2⟩ k => ⟨K, k1.keeps k, k2⟩) (fun _ _ => trivial) (fun _ _ _ _ _ => trivial)
    (by kernel_rfl) (by kernel_rfl) (by kernel_rfl) (fun s e => recFacts_nil rfl) (by rfl) k1 (by kernel_rfl) bare_ok (by w_witness2) call

/-! ## D1 -/
noncomputable def p_tuple (vs : List V) (H : List O) (Q : V → List O → Prop) : Prop := one_ vs fun v => seqV v H fun l => l.length ≤ 65536 ∧ Q (.d (.tuple l)) H
noncomputable def p_list (vs : List V) (H : List O) (Q : V → List O → Prop) : Prop := one_ vs fun v => seqV v H fun l => l.length ≤ 65536 ∧ Q (.ref H.length) (H ++ [.list l])
noncomputable def p_dict (vs : List V) (H : List O) (Q : V → List O → Prop) : Prop := one_ vs fun v => dctV v H fun _ l => l.length ≤ 65536 ∧ Q (.ref H.length) (H ++ [.dict l])
noncomputable def p_len (vs : List V) (H : List O) (Q : V → List O → Prop) : Prop := one_ vs fun v => (match dictOf? H v with | some l => l.length ≤ 65536 ∧ Q (.d (.int l.length)) H | none => seqV v H fun l => l.length ≤ 65536 ∧ Q (.d (.int l.length)) H)
noncomputable def p_str (vs : List V) (H : List O) (Q : V → List O → Prop) : Prop := one_ vs fun v => intV v fun n => -1000000 < n ∧ n < 1000000 ∧ Q (.d (.str (Str.ofString (toString n)))) H
noncomputable def p_int (vs : List V) (H : List O) (Q : V → List O → Prop) : Prop := one_ vs fun v => boolV v fun b => Q (.d (.int (if b then 1 else 0))) H
noncomputable def p_max (vs : List V) (H : List O) (Q : V → List O → Prop) : Prop := two_ vs fun a b => Q (.d (.int (if b > a then b else a))) H
noncomputable def p_min (vs : List V) (H : List O) (Q : V → List O → Prop) : Prop := two_ vs fun a b => Q (.d (.int (if b < a then b else a))) H
noncomputable def t_expr (W : Wd) : TrS := (t_sns_rett (t_snd_cons (t_snd_str "expr") (t_snd_cons (t_snd_name 0) (t_snd_cons (t_snd_type (t_snd_cons (t_snd_name 1) t_snd_nil) p_tuple) t_snd_nil))))
theorem d_expr {W : Wd} {K : Frag} (hK : FK W K) (hB : Bu W) : SndB W (scOf (sel 1)) (["head", "parts"] : List Str) (bodyOf (sel 1)) (t_expr W) := (snb_one (sns_rett (snd_cons snd_str (snd_cons (snd_name (by kernel_rfl)) (snd_cons (snd_type nat_tuple (by kernel_rfl) (n_tuple hK) hB.tuple_ rfl (snd_cons (snd_name (by kernel_rfl)) snd_nil)) snd_nil)))))
noncomputable def t_is_expr (W : Wd) : TrS := (t_sns_ret (t_snd_and (t_snd_cmp .Eq (t_snd_sub (t_snd_name 0) (t_snd_int 0)) (t_snd_str "expr")) (t_snd_cmp .Eq (t_snd_sub (t_snd_name 0) (t_snd_int 1)) (t_snd_name 1))))
theorem d_is_expr {W : Wd} {K : Frag} (hK : FK W K) (hB : Bu W) : SndB W (scOf (sel 2)) (["tree", "head"] : List Str) (bodyOf (sel 2)) (t_is_expr W) := (snb_one (sns_ret (snd_and (snd_cmp (snd_sub (snd_name (by kernel_rfl)) snd_int) snd_str) (snd_and1 (snd_cmp (snd_sub (snd_name (by kernel_rfl)) snd_int) (snd_name (by kernel_rfl)))))))
noncomputable def t_head_of (W : Wd) : TrS := (t_sns_ret (t_snd_if (t_snd_tcmp .Eq (t_snd_sub (t_snd_name 0) (t_snd_int 0)) (t_snd_str "expr")) (t_snd_sub (t_snd_name 0) (t_snd_int 1)) (t_snd_str "")))
theorem d_head_of {W : Wd} {K : Frag} (hK : FK W K) (hB : Bu W) : SndB W (scOf (sel 3)) (["tree"] : List Str) (bodyOf (sel 3)) (t_head_of W) := (snb_one (sns_ret (snd_if (snd_tcmp (snd_sub (snd_name (by kernel_rfl)) snd_int) snd_str) (snd_sub (snd_name (by kernel_rfl)) snd_int) snd_str)))
noncomputable def t_parts_of (W : Wd) : TrS := (t_sns_ret (t_snd_if (t_snd_tcmp .Eq (t_snd_sub (t_snd_name 0) (t_snd_int 0)) (t_snd_str "expr")) (t_snd_sub (t_snd_name 0) (t_snd_int 2)) (t_snd_tuple t_snd_nil)))
theorem d_parts_of {W : Wd} {K : Frag} (hK : FK W K) (hB : Bu W) : SndB W (scOf (sel 4)) (["tree"] : List Str) (bodyOf (sel 4)) (t_parts_of W) := (snb_one (sns_ret (snd_if (snd_tcmp (snd_sub (snd_name (by kernel_rfl)) snd_int) snd_str) (snd_sub (snd_name (by kernel_rfl)) snd_int) (by exact snd_tuple snd_nil))))
noncomputable def t_is_sym (W : Wd) : TrS := (t_sns_ret (t_snd_cmp .Eq (t_snd_sub (t_snd_name 0) (t_snd_int 0)) (t_snd_str "sym")))
theorem d_is_sym {W : Wd} {K : Frag} (hK : FK W K) (hB : Bu W) : SndB W (scOf (sel 5)) (["tree"] : List Str) (bodyOf (sel 5)) (t_is_sym W) := (snb_one (sns_ret (snd_cmp (snd_sub (snd_name (by kernel_rfl)) snd_int) snd_str)))
noncomputable def t_put_once_1 (W : Wd) : TrS := (t_sns_if (t_snd_tcmp .NotIn (t_snd_name 2) (t_snd_name 0)) (t_sns_expr (t_snd_append (t_snd_name 0) (t_snd_name 2))) t_snb_nil)
noncomputable def t_put_once (W : Wd) : TrS := (t_sns_for 2 (t_sni_val (t_snd_name 1)) (t_put_once_1 W))
theorem d_put_once {W : Wd} {K : Frag} (hK : FK W K) (hB : Bu W) : SndB W (scOf (sel 10)) (["some", "names", "name"] : List Str) (bodyOf (sel 10)) (t_put_once W) := (snb_one (sns_for (i := 2) (by kernel_rfl) (sni_val (snd_name (by kernel_rfl))) (snb_one (sns_if (snd_tcmp (snd_name (by kernel_rfl)) (snd_name (by kernel_rfl))) (snb_one (sns_expr (by kernel_rfl) (snd_append (snd_name (by kernel_rfl)) (snd_name (by kernel_rfl)) rfl rfl))) snb_nil))))
noncomputable def t_place_names_scopes_1 (W : Wd) : TrS := (t_sns_expr (t_snd_callf W 59 (t_snd_cons (t_snd_name 3) (t_snd_cons (t_snd_callf W 66 (t_snd_cons (t_snd_name 4) t_snd_nil)) t_snd_nil))))
noncomputable def t_place_names_scopes_2 (W : Wd) : TrS := (t_sns_ret (t_snd_name 3))
noncomputable def t_place_names_scopes_3 (W : Wd) : TrS := (t_snb_cons (t_sns_if (t_snd_tcmp .Eq (t_snd_name 1) (t_snd_str "tuple")) (t_sns_for 4 (t_sni_val (t_snd_name 2)) (t_place_names_scopes_1 W)) t_snb_nil) (t_place_names_scopes_2 W))
noncomputable def t_place_names_scopes_4 (W : Wd) : TrS := (t_snb_cons (t_sns_assign 3 (t_snd_listm t_snd_nil)) (t_place_names_scopes_3 W))
noncomputable def t_place_names_scopes_5 (W : Wd) : TrS := (t_snb_cons (t_sns_if (t_snd_tor (t_snd_tcmp .Eq (t_snd_name 1) (t_snd_str "...")) (t_snd_tor (t_snd_tand (t_snd_tcmp .Eq (t_snd_name 1) (t_snd_str "::")) (t_snd_tand (t_snd_tcmp .Eq (t_snd_builtin (t_snd_cons (t_snd_name 2) t_snd_nil) p_len) (t_snd_int 2)) t_snd_tand0)) t_snd_tor0)) (t_sns_ret (t_snd_callf W 66 (t_snd_cons (t_snd_sub (t_snd_name 2) (t_snd_int 0)) t_snd_nil))) t_snb_nil) (t_place_names_scopes_4 W))
noncomputable def t_place_names_scopes_6 (W : Wd) : TrS := (t_snb_cons (t_sns_assign_tt ["head", "parts"] [1, 2] (t_snd_cons (t_snd_callf W 35 (t_snd_cons (t_snd_name 0) t_snd_nil)) (t_snd_cons (t_snd_callf W 42 (t_snd_cons (t_snd_name 0) t_snd_nil)) t_snd_nil)) true) (t_place_names_scopes_5 W))
noncomputable def t_place_names_scopes (W : Wd) : TrS := (t_snb_cons (t_sns_if (t_snd_tplain (t_snd_callf W 49 (t_snd_cons (t_snd_name 0) t_snd_nil))) (t_sns_ret (t_snd_list (t_snd_cons (t_snd_sub (t_snd_name 0) (t_snd_int 1)) t_snd_nil))) t_snb_nil) (t_place_names_scopes_6 W))
theorem d_place_names_scopes {W : Wd} {K : Frag} (hK : FK W K) (hB : Bu W) : SndB W (scOf (sel 11)) (["place", "head", "parts", "found", "part"] : List Str) (bodyOf (sel 11)) (t_place_names_scopes W) := (snb_cons (sns_if (snd_tplain (snd_callf (by kernel_rfl) (g_is_sym hK).1 (g_is_sym hK).2 rfl (snd_cons (snd_name (by kernel_rfl)) snd_nil))) (snb_one (sns_ret (by exact snd_list (snd_cons (snd_sub (snd_name (by kernel_rfl)) snd_int) snd_nil)))) snb_nil) (snb_cons (sns_assign_tt ["head", "parts"] [1, 2] (by kernel_rfl) (by kernel_rfl) (by exact ⟨⟨_, rfl⟩, ⟨⟨_, rfl⟩, rfl⟩⟩) (by kernel_rfl) (sw := true) (by kernel_rfl) (by kernel_rfl) (snd_cons (snd_callf (by kernel_rfl) (g_head_of hK).1 (g_head_of hK).2 rfl (snd_cons (snd_name (by kernel_rfl)) snd_nil)) (snd_cons (snd_callf (by kernel_rfl) (g_parts_of hK).1 (g_parts_of hK).2 rfl (snd_cons (snd_name (by kernel_rfl)) snd_nil)) snd_nil)) rfl) (snb_cons (sns_if (snd_tor (snd_tcmp (snd_name (by kernel_rfl)) snd_str) (snd_tor (snd_tand (snd_tcmp (snd_name (by kernel_rfl)) snd_str) (snd_tand (snd_tcmp (snd_builtin nat_len (by kernel_rfl) (n_len hK) hB.len_ rfl (snd_cons (snd_name (by kernel_rfl)) snd_nil)) snd_int) snd_tand0)) snd_tor0)) (snb_one (sns_ret (snd_callf (by kernel_rfl) (g_place_names_scopes hK).1 (g_place_names_scopes hK).2 rfl (snd_cons (snd_sub (snd_name (by kernel_rfl)) snd_int) snd_nil)))) snb_nil) (snb_cons (sns_assign (i := 3) (by kernel_rfl) (by exact snd_listm snd_nil)) (snb_cons (sns_if (snd_tcmp (snd_name (by kernel_rfl)) snd_str) (snb_one (sns_for (i := 4) (by kernel_rfl) (sni_val (snd_name (by kernel_rfl))) (snb_one (sns_expr (by kernel_rfl) (snd_callf (by kernel_rfl) (g_put_once hK).1 (g_put_once hK).2 rfl (snd_cons (snd_name (by kernel_rfl)) (snd_cons (snd_callf (by kernel_rfl) (g_place_names_scopes hK).1 (g_place_names_scopes hK).2 rfl (snd_cons (snd_name (by kernel_rfl)) snd_nil)) snd_nil))))))) snb_nil) (snb_one (sns_ret (snd_name (by kernel_rfl)))))))))
noncomputable def t_function_head_1 (W : Wd) : TrB := (t_snd_tor (t_snd_tcmp .Eq (t_snd_callf W 35 (t_snd_cons (t_snd_name 1) t_snd_nil)) (t_snd_str "where")) (t_snd_tor (t_snd_tand (t_snd_tcmp .Eq (t_snd_callf W 35 (t_snd_cons (t_snd_name 1) t_snd_nil)) (t_snd_str "::")) (t_snd_tand (t_snd_tplain (t_snd_callf W 28 (t_snd_cons (t_snd_name 0) (t_snd_cons (t_snd_str "function") t_snd_nil)))) t_snd_tand0)) t_snd_tor0))
noncomputable def t_function_head_2 (W : Wd) : TrS := (t_sns_assign 1 (t_snd_sub (t_snd_sub (t_snd_name 1) (t_snd_int 2)) (t_snd_int 0)))
noncomputable def t_function_head_3 (W : Wd) : TrS := (t_sns_ret (t_snd_name 1))
noncomputable def t_function_head_4 (W : Wd) : TrS := (t_snb_cons (t_sns_while (t_function_head_1 W) (t_function_head_2 W)) (t_function_head_3 W))
noncomputable def t_function_head_5 (W : Wd) : TrS := (t_snb_cons (t_sns_if (t_snd_tplain (t_snd_callf W 28 (t_snd_cons (t_snd_name 0) (t_snd_cons (t_snd_str "generated") t_snd_nil)))) (t_sns_assign 1 (t_snd_sub (t_snd_sub (t_snd_name 1) (t_snd_int 2)) (t_snd_int 0))) t_snb_nil) (t_function_head_4 W))
noncomputable def t_function_head (W : Wd) : TrS := (t_snb_cons (t_sns_assign 1 (t_snd_sub (t_snd_sub (t_snd_name 0) (t_snd_int 2)) (t_snd_int 0))) (t_function_head_5 W))
theorem d_function_head {W : Wd} {K : Frag} (hK : FK W K) (hB : Bu W) : SndB W (scOf (sel 13)) (["tree", "head"] : List Str) (bodyOf (sel 13)) (t_function_head W) := (snb_cons (sns_assign (i := 1) (by kernel_rfl) (snd_sub (snd_sub (snd_name (by kernel_rfl)) snd_int) snd_int)) (snb_cons (sns_if (snd_tplain (snd_callf (by kernel_rfl) (g_is_expr hK).1 (g_is_expr hK).2 rfl (snd_cons (snd_name (by kernel_rfl)) (snd_cons snd_str snd_nil)))) (snb_one (sns_assign (i := 1) (by kernel_rfl) (snd_sub (snd_sub (snd_name (by kernel_rfl)) snd_int) snd_int))) snb_nil) (snb_cons (sns_while (snd_tor (snd_tcmp (snd_callf (by kernel_rfl) (g_head_of hK).1 (g_head_of hK).2 rfl (snd_cons (snd_name (by kernel_rfl)) snd_nil)) snd_str) (snd_tor (snd_tand (snd_tcmp (snd_callf (by kernel_rfl) (g_head_of hK).1 (g_head_of hK).2 rfl (snd_cons (snd_name (by kernel_rfl)) snd_nil)) snd_str) (snd_tand (snd_tplain (snd_callf (by kernel_rfl) (g_is_expr hK).1 (g_is_expr hK).2 rfl (snd_cons (snd_name (by kernel_rfl)) (snd_cons snd_str snd_nil)))) snd_tand0)) snd_tor0)) (snb_one (sns_assign (i := 1) (by kernel_rfl) (snd_sub (snd_sub (snd_name (by kernel_rfl)) snd_int) snd_int)))) (snb_one (sns_ret (snd_name (by kernel_rfl)))))))
noncomputable def t_parts_in_scope_1 (W : Wd) : TrS := (t_sns_ret (t_snd_if (t_snd_tcmp .Eq (t_snd_name 1) (t_snd_str "kw")) (t_snd_from1 (t_snd_name 2)) (t_snd_name 2)))
noncomputable def t_parts_in_scope_2 (W : Wd) : TrS := (t_snb_cons (t_sns_if (t_snd_tcmp .Eq (t_snd_name 1) (t_snd_str "for")) (t_sns_ret (t_snd_from1 (t_snd_sub (t_snd_sub (t_snd_name 2) (t_snd_int 0)) (t_snd_int 2)))) t_snb_nil) (t_parts_in_scope_1 W))
noncomputable def t_parts_in_scope_3 (W : Wd) : TrS := (t_snb_cons (t_sns_if (t_snd_tcmp .Eq (t_snd_name 1) (t_snd_str "while")) (t_sns_ret t_snd_no) t_snb_nil) (t_parts_in_scope_2 W))
noncomputable def t_parts_in_scope_4 (W : Wd) : TrS := (t_snb_cons (t_sns_if (t_snd_tor (t_snd_tcmp .In (t_snd_name 1) (t_snd_gstrs strs_FUNCTIONS)) (t_snd_tor (t_snd_tcmp .In (t_snd_name 1) (t_snd_gstrs strs_SILENT)) (t_snd_tor (t_snd_tcmp .In (t_snd_name 1) (t_snd_tuple (t_snd_cons (t_snd_str "let") (t_snd_cons (t_snd_str "comprehension") (t_snd_cons (t_snd_str "generator") (t_snd_cons (t_snd_str "try") t_snd_nil)))))) t_snd_tor0))) (t_sns_ret (t_snd_if (t_snd_tcmp .Eq (t_snd_name 1) (t_snd_str "do")) t_snd_no (t_snd_tuple t_snd_nil))) t_snb_nil) (t_parts_in_scope_3 W))
noncomputable def t_parts_in_scope (W : Wd) : TrS := (t_snb_cons (t_sns_assign_tt ["head", "parts"] [1, 2] (t_snd_cons (t_snd_sub (t_snd_name 0) (t_snd_int 1)) (t_snd_cons (t_snd_sub (t_snd_name 0) (t_snd_int 2)) t_snd_nil)) true) (t_parts_in_scope_4 W))
theorem d_parts_in_scope {W : Wd} {K : Frag} (hK : FK W K) (hB : Bu W) : SndB W (scOf (sel 15)) (["tree", "head", "parts"] : List Str) (bodyOf (sel 15)) (t_parts_in_scope W) := (snb_cons (sns_assign_tt ["head", "parts"] [1, 2] (by kernel_rfl) (by kernel_rfl) (by exact ⟨⟨_, rfl⟩, ⟨⟨_, rfl⟩, rfl⟩⟩) (by kernel_rfl) (sw := true) (by kernel_rfl) (by kernel_rfl) (snd_cons (snd_sub (snd_name (by kernel_rfl)) snd_int) (snd_cons (snd_sub (snd_name (by kernel_rfl)) snd_int) snd_nil)) rfl) (snb_cons (sns_if (snd_tor (snd_tcmp (snd_name (by kernel_rfl)) (snd_gstrs hK.inn (by kernel_rfl) (s_FUNCTIONS hK))) (snd_tor (snd_tcmp (snd_name (by kernel_rfl)) (snd_gstrs hK.inn (by kernel_rfl) (s_SILENT hK))) (snd_tor (snd_tcmp (snd_name (by kernel_rfl)) (by exact snd_tuple (snd_cons snd_str (snd_cons snd_str (snd_cons snd_str (snd_cons snd_str snd_nil)))))) snd_tor0))) (snb_one (sns_ret (snd_if (snd_tcmp (snd_name (by kernel_rfl)) snd_str) snd_no (by exact snd_tuple snd_nil)))) snb_nil) (snb_cons (sns_if (snd_tcmp (snd_name (by kernel_rfl)) snd_str) (snb_one (sns_ret snd_no)) snb_nil) (snb_cons (sns_if (snd_tcmp (snd_name (by kernel_rfl)) snd_str) (snb_one (sns_ret (snd_from1 (snd_sub (snd_sub (snd_name (by kernel_rfl)) snd_int) snd_int)))) snb_nil) (snb_one (sns_ret (snd_if (snd_tcmp (snd_name (by kernel_rfl)) snd_str) (snd_from1 (snd_name (by kernel_rfl))) (snd_name (by kernel_rfl)))))))))
noncomputable def t_bound_names_1 (W : Wd) : TrS := (t_sns_expr (t_snd_extend (t_snd_name 2) (t_snd_revt (t_snd_callf W 87 (t_snd_cons (t_snd_name 3) t_snd_nil)))))
noncomputable def t_bound_names_2 (W : Wd) : TrS := (t_sns_if (t_snd_tcmp .Eq (t_snd_sub (t_snd_name 3) (t_snd_int 0)) (t_snd_str "expr")) (t_snb_cons (t_sns_expr (t_snd_meth W "note" 111 108 (t_snd_name 1) (t_snd_cons (t_snd_name 3) t_snd_nil))) (t_bound_names_1 W)) t_snb_nil)
noncomputable def t_bound_names_3 (W : Wd) : TrB := (t_snd_tcmp .NotEq (t_snd_name 2) (t_snd_list t_snd_nil))
noncomputable def t_bound_names_4 (W : Wd) : TrS := (t_snb_cons (t_sns_assign 3 (t_snd_pop (t_snd_name 2))) (t_bound_names_2 W))
noncomputable def t_bound_names_5 (W : Wd) : TrS := (t_sns_rett (t_snd_cons (t_snd_attr "assigned" 111 (t_snd_name 1)) (t_snd_cons (t_snd_attr "told_local" 111 (t_snd_name 1)) (t_snd_cons (t_snd_attr "told_global" 111 (t_snd_name 1)) t_snd_nil))))
noncomputable def t_bound_names_6 (W : Wd) : TrS := (t_snb_cons (t_sns_while (t_bound_names_3 W) (t_bound_names_4 W)) (t_bound_names_5 W))
noncomputable def t_bound_names (W : Wd) : TrS := (t_snb_cons (t_sns_assign_tt ["found", "left"] [1, 2] (t_snd_cons (t_snd_make W 111 101 t_snd_nil) (t_snd_cons (t_snd_listm (t_snd_cons (t_snd_name 0) t_snd_nil)) t_snd_nil)) true) (t_bound_names_6 W))
theorem d_bound_names {W : Wd} {K : Frag} (hK : FK W K) (hB : Bu W) : SndB W (scOf (sel 17)) (["tree", "found", "left", "here"] : List Str) (bodyOf (sel 17)) (t_bound_names W) := (snb_cons (sns_assign_tt ["found", "left"] [1, 2] (by kernel_rfl) (by kernel_rfl) (by exact ⟨⟨_, rfl⟩, ⟨⟨_, rfl⟩, rfl⟩⟩) (by kernel_rfl) (sw := true) (by kernel_rfl) (by kernel_rfl) (snd_cons (snd_make hK.inn (c_Bound hK) (m_Bound_init hK) (by kernel_rfl) (v_Bound hK) (kp_Bound hK) rfl snd_nil) (snd_cons (by exact snd_listm (snd_cons (snd_name (by kernel_rfl)) snd_nil)) snd_nil)) rfl) (snb_cons (sns_while (snd_tcmp (snd_name (by kernel_rfl)) (by exact snd_list snd_nil)) (snb_cons (sns_assign (i := 3) (by kernel_rfl) (snd_pop (snd_name (by kernel_rfl)) rfl)) (snb_one (sns_if (snd_tcmp (snd_sub (snd_name (by kernel_rfl)) snd_int) snd_str) (snb_cons (sns_expr (by kernel_rfl) (snd_meth hK.inn (c_Bound hK) (m_Bound_note hK) (snd_name (by kernel_rfl)) rfl (snd_cons (snd_name (by kernel_rfl)) snd_nil))) (snb_one (sns_expr (by kernel_rfl) (snd_extend (snd_name (by kernel_rfl)) (snd_revt (snd_callf (by kernel_rfl) (g_parts_in_scope hK).1 (g_parts_in_scope hK).2 rfl (snd_cons (snd_name (by kernel_rfl)) snd_nil))) rfl rfl)))) snb_nil)))) (snb_one (sns_rett (snd_cons (snd_attr hK.inn (c_Bound hK) (a_assigned hK) (snd_name (by kernel_rfl))) (snd_cons (snd_attr hK.inn (c_Bound hK) (a_told_local hK) (snd_name (by kernel_rfl))) (snd_cons (snd_attr hK.inn (c_Bound hK) (a_told_global hK) (snd_name (by kernel_rfl))) snd_nil)))))))
noncomputable def t_argument_names_scopes_1 (W : Wd) : TrS := (t_sns_if (t_snd_tplain (t_snd_callf W 28 (t_snd_cons (t_snd_name 3) (t_snd_cons (t_snd_str "parameters") t_snd_nil)))) (t_sns_expr (t_snd_extend (t_snd_name 2) (t_snd_sub (t_snd_name 3) (t_snd_int 2)))) (t_sns_if (t_snd_tcmp .In (t_snd_callf W 35 (t_snd_cons (t_snd_name 3) t_snd_nil)) (t_snd_tuple (t_snd_cons (t_snd_str "kw") (t_snd_cons (t_snd_str "=") t_snd_nil)))) (t_sns_expr (t_snd_insert0 (t_snd_name 2) (t_snd_sub (t_snd_sub (t_snd_name 3) (t_snd_int 2)) (t_snd_int 0)))) (t_sns_expr (t_snd_callf W 59 (t_snd_cons (t_snd_name 1) (t_snd_cons (t_snd_callf W 66 (t_snd_cons (t_snd_name 3) t_snd_nil)) t_snd_nil))))))
noncomputable def t_argument_names_scopes_2 (W : Wd) : TrB := (t_snd_tcmp .NotEq (t_snd_name 2) (t_snd_list t_snd_nil))
noncomputable def t_argument_names_scopes_3 (W : Wd) : TrS := (t_snb_cons (t_sns_assign 3 (t_snd_pop0 (t_snd_name 2))) (t_argument_names_scopes_1 W))
noncomputable def t_argument_names_scopes_4 (W : Wd) : TrS := (t_sns_ret (t_snd_name 1))
noncomputable def t_argument_names_scopes_5 (W : Wd) : TrS := (t_snb_cons (t_sns_while (t_argument_names_scopes_2 W) (t_argument_names_scopes_3 W)) (t_argument_names_scopes_4 W))
noncomputable def t_argument_names_scopes_6 (W : Wd) : TrS := (t_snb_cons (t_sns_if (t_snd_tand (t_snd_tplain (t_snd_callf W 28 (t_snd_cons (t_snd_name 0) (t_snd_cons (t_snd_str "call") t_snd_nil)))) (t_snd_tand (t_snd_tplain (t_snd_callf W 28 (t_snd_cons (t_snd_sub (t_snd_sub (t_snd_name 0) (t_snd_int 2)) (t_snd_int 0)) (t_snd_cons (t_snd_str "::") t_snd_nil)))) (t_snd_tand (t_snd_tcmp .Eq (t_snd_builtin (t_snd_cons (t_snd_sub (t_snd_sub (t_snd_sub (t_snd_name 0) (t_snd_int 2)) (t_snd_int 0)) (t_snd_int 2)) t_snd_nil) p_len) (t_snd_int 2)) t_snd_tand0))) (t_sns_expr (t_snd_callf W 59 (t_snd_cons (t_snd_name 1) (t_snd_cons (t_snd_callf W 66 (t_snd_cons (t_snd_sub (t_snd_sub (t_snd_name 0) (t_snd_int 2)) (t_snd_int 0)) t_snd_nil)) t_snd_nil)))) t_snb_nil) (t_argument_names_scopes_5 W))
noncomputable def t_argument_names_scopes_7 (W : Wd) : TrS := (t_snb_cons (t_sns_assign_tt ["found", "left"] [1, 2] (t_snd_cons (t_snd_listm t_snd_nil) (t_snd_cons (t_snd_type (t_snd_cons (t_snd_if (t_snd_tplain (t_snd_callf W 28 (t_snd_cons (t_snd_name 0) (t_snd_cons (t_snd_str "call") t_snd_nil)))) (t_snd_from1 (t_snd_sub (t_snd_name 0) (t_snd_int 2))) (t_snd_if (t_snd_tplain (t_snd_callf W 28 (t_snd_cons (t_snd_name 0) (t_snd_cons (t_snd_str "tuple") t_snd_nil)))) (t_snd_sub (t_snd_name 0) (t_snd_int 2)) (t_snd_tuple (t_snd_cons (t_snd_name 0) t_snd_nil)))) t_snd_nil) p_list) t_snd_nil)) true) (t_argument_names_scopes_6 W))
noncomputable def t_argument_names_scopes (W : Wd) : TrS := (t_snb_cons (t_sns_if (t_snd_tplain (t_snd_callf W 49 (t_snd_cons (t_snd_name 0) t_snd_nil))) (t_sns_ret (t_snd_list (t_snd_cons (t_snd_sub (t_snd_name 0) (t_snd_int 1)) t_snd_nil))) t_snb_nil) (t_argument_names_scopes_7 W))
theorem d_argument_names_scopes {W : Wd} {K : Frag} (hK : FK W K) (hB : Bu W) : SndB W (scOf (sel 18)) (["call", "found", "left", "here"] : List Str) (bodyOf (sel 18)) (t_argument_names_scopes W) := (snb_cons (sns_if (snd_tplain (snd_callf (by kernel_rfl) (g_is_sym hK).1 (g_is_sym hK).2 rfl (snd_cons (snd_name (by kernel_rfl)) snd_nil))) (snb_one (sns_ret (by exact snd_list (snd_cons (snd_sub (snd_name (by kernel_rfl)) snd_int) snd_nil)))) snb_nil) (snb_cons (sns_assign_tt ["found", "left"] [1, 2] (by kernel_rfl) (by kernel_rfl) (by exact ⟨⟨_, rfl⟩, ⟨⟨_, rfl⟩, rfl⟩⟩) (by kernel_rfl) (sw := true) (by kernel_rfl) (by kernel_rfl) (snd_cons (by exact snd_listm snd_nil) (snd_cons (snd_type nat_list (by kernel_rfl) (n_list hK) hB.list_ rfl (snd_cons (snd_if (snd_tplain (snd_callf (by kernel_rfl) (g_is_expr hK).1 (g_is_expr hK).2 rfl (snd_cons (snd_name (by kernel_rfl)) (snd_cons snd_str snd_nil)))) (snd_from1 (snd_sub (snd_name (by kernel_rfl)) snd_int)) (snd_if (snd_tplain (snd_callf (by kernel_rfl) (g_is_expr hK).1 (g_is_expr hK).2 rfl (snd_cons (snd_name (by kernel_rfl)) (snd_cons snd_str snd_nil)))) (snd_sub (snd_name (by kernel_rfl)) snd_int) (by exact snd_tuple (snd_cons (snd_name (by kernel_rfl)) snd_nil)))) snd_nil)) snd_nil)) rfl) (snb_cons (sns_if (snd_tand (snd_tplain (snd_callf (by kernel_rfl) (g_is_expr hK).1 (g_is_expr hK).2 rfl (snd_cons (snd_name (by kernel_rfl)) (snd_cons snd_str snd_nil)))) (snd_tand (snd_tplain (snd_callf (by kernel_rfl) (g_is_expr hK).1 (g_is_expr hK).2 rfl (snd_cons (snd_sub (snd_sub (snd_name (by kernel_rfl)) snd_int) snd_int) (snd_cons snd_str snd_nil)))) (snd_tand (snd_tcmp (snd_builtin nat_len (by kernel_rfl) (n_len hK) hB.len_ rfl (snd_cons (snd_sub (snd_sub (snd_sub (snd_name (by kernel_rfl)) snd_int) snd_int) snd_int) snd_nil)) snd_int) snd_tand0))) (snb_one (sns_expr (by kernel_rfl) (snd_callf (by kernel_rfl) (g_put_once hK).1 (g_put_once hK).2 rfl (snd_cons (snd_name (by kernel_rfl)) (snd_cons (snd_callf (by kernel_rfl) (g_place_names_scopes hK).1 (g_place_names_scopes hK).2 rfl (snd_cons (snd_sub (snd_sub (snd_name (by kernel_rfl)) snd_int) snd_int) snd_nil)) snd_nil))))) snb_nil) (snb_cons (sns_while (snd_tcmp (snd_name (by kernel_rfl)) (by exact snd_list snd_nil)) (snb_cons (sns_assign (i := 3) (by kernel_rfl) (snd_pop0 (snd_name (by kernel_rfl)) rfl)) (snb_one (sns_if (snd_tplain (snd_callf (by kernel_rfl) (g_is_expr hK).1 (g_is_expr hK).2 rfl (snd_cons (snd_name (by kernel_rfl)) (snd_cons snd_str snd_nil)))) (snb_one (sns_expr (by kernel_rfl) (snd_extend (snd_name (by kernel_rfl)) (snd_sub (snd_name (by kernel_rfl)) snd_int) rfl rfl))) (snb_one (sns_if (snd_tcmp (snd_callf (by kernel_rfl) (g_head_of hK).1 (g_head_of hK).2 rfl (snd_cons (snd_name (by kernel_rfl)) snd_nil)) (by exact snd_tuple (snd_cons snd_str (snd_cons snd_str snd_nil)))) (snb_one (sns_expr (by kernel_rfl) (snd_insert0 (snd_name (by kernel_rfl)) (snd_sub (snd_sub (snd_name (by kernel_rfl)) snd_int) snd_int) rfl rfl))) (snb_one (sns_expr (by kernel_rfl) (snd_callf (by kernel_rfl) (g_put_once hK).1 (g_put_once hK).2 rfl (snd_cons (snd_name (by kernel_rfl)) (snd_cons (snd_callf (by kernel_rfl) (g_place_names_scopes hK).1 (g_place_names_scopes hK).2 rfl (snd_cons (snd_name (by kernel_rfl)) snd_nil)) snd_nil))))))))))) (snb_one (sns_ret (snd_name (by kernel_rfl))))))))
noncomputable def t_where_names_scopes_1 (W : Wd) : TrS := (t_sns_expr (t_snd_callf W 59 (t_snd_cons (t_snd_name 1) (t_snd_cons (t_snd_callf W 66 (t_snd_cons (t_snd_name 5) t_snd_nil)) t_snd_nil))))
noncomputable def t_where_names_scopes_2 (W : Wd) : TrS := (t_snb_cons (t_sns_assign 5 (t_snd_if (t_snd_tcmp .Eq (t_snd_name 4) (t_snd_tuple t_snd_nil)) (t_snd_name 3) (t_snd_if (t_snd_tplain (t_snd_callf W 28 (t_snd_cons (t_snd_name 3) (t_snd_cons (t_snd_str "comparison") t_snd_nil)))) (t_snd_sub (t_snd_name 4) (t_snd_int 2)) (t_snd_sub (t_snd_name 4) (t_snd_int 0))))) (t_where_names_scopes_1 W))
noncomputable def t_where_names_scopes_3 (W : Wd) : TrS := (t_snb_cons (t_sns_assign 4 (t_snd_callf W 42 (t_snd_cons (t_snd_name 3) t_snd_nil))) (t_where_names_scopes_2 W))
noncomputable def t_where_names_scopes_4 (W : Wd) : TrS := (t_sns_assign 2 (t_snd_sub (t_snd_sub (t_snd_name 2) (t_snd_int 2)) (t_snd_int 0)))
noncomputable def t_where_names_scopes_5 (W : Wd) : TrB := (t_snd_tcmp .In (t_snd_callf W 35 (t_snd_cons (t_snd_name 2) t_snd_nil)) (t_snd_tuple (t_snd_cons (t_snd_str "where") (t_snd_cons (t_snd_str "::") t_snd_nil))))
noncomputable def t_where_names_scopes_6 (W : Wd) : TrS := (t_snb_cons (t_sns_if (t_snd_tplain (t_snd_callf W 28 (t_snd_cons (t_snd_name 2) (t_snd_cons (t_snd_str "where") t_snd_nil)))) (t_sns_for 3 (t_sni_val (t_snd_from1 (t_snd_sub (t_snd_name 2) (t_snd_int 2)))) (t_where_names_scopes_3 W)) t_snb_nil) (t_where_names_scopes_4 W))
noncomputable def t_where_names_scopes_7 (W : Wd) : TrS := (t_sns_ret (t_snd_name 1))
noncomputable def t_where_names_scopes_8 (W : Wd) : TrS := (t_snb_cons (t_sns_while (t_where_names_scopes_5 W) (t_where_names_scopes_6 W)) (t_where_names_scopes_7 W))
noncomputable def t_where_names_scopes (W : Wd) : TrS := (t_snb_cons (t_sns_assign_tt ["found", "here"] [1, 2] (t_snd_cons (t_snd_listm t_snd_nil) (t_snd_cons (t_snd_name 0) t_snd_nil)) true) (t_where_names_scopes_8 W))
theorem d_where_names_scopes {W : Wd} {K : Frag} (hK : FK W K) (hB : Bu W) : SndB W (scOf (sel 20)) (["tree", "found", "here", "told", "parts", "place"] : List Str) (bodyOf (sel 20)) (t_where_names_scopes W) := (snb_cons (sns_assign_tt ["found", "here"] [1, 2] (by kernel_rfl) (by kernel_rfl) (by exact ⟨⟨_, rfl⟩, ⟨⟨_, rfl⟩, rfl⟩⟩) (by kernel_rfl) (sw := true) (by kernel_rfl) (by kernel_rfl) (snd_cons (by exact snd_listm snd_nil) (snd_cons (snd_name (by kernel_rfl)) snd_nil)) rfl) (snb_cons (sns_while (snd_tcmp (snd_callf (by kernel_rfl) (g_head_of hK).1 (g_head_of hK).2 rfl (snd_cons (snd_name (by kernel_rfl)) snd_nil)) (by exact snd_tuple (snd_cons snd_str (snd_cons snd_str snd_nil)))) (snb_cons (sns_if (snd_tplain (snd_callf (by kernel_rfl) (g_is_expr hK).1 (g_is_expr hK).2 rfl (snd_cons (snd_name (by kernel_rfl)) (snd_cons snd_str snd_nil)))) (snb_one (sns_for (i := 3) (by kernel_rfl) (sni_val (snd_from1 (snd_sub (snd_name (by kernel_rfl)) snd_int))) (snb_cons (sns_assign (i := 4) (by kernel_rfl) (snd_callf (by kernel_rfl) (g_parts_of hK).1 (g_parts_of hK).2 rfl (snd_cons (snd_name (by kernel_rfl)) snd_nil))) (snb_cons (sns_assign (i := 5) (by kernel_rfl) (snd_if (snd_tcmp (snd_name (by kernel_rfl)) (by exact snd_tuple snd_nil)) (snd_name (by kernel_rfl)) (snd_if (snd_tplain (snd_callf (by kernel_rfl) (g_is_expr hK).1 (g_is_expr hK).2 rfl (snd_cons (snd_name (by kernel_rfl)) (snd_cons snd_str snd_nil)))) (snd_sub (snd_name (by kernel_rfl)) snd_int) (snd_sub (snd_name (by kernel_rfl)) snd_int)))) (snb_one (sns_expr (by kernel_rfl) (snd_callf (by kernel_rfl) (g_put_once hK).1 (g_put_once hK).2 rfl (snd_cons (snd_name (by kernel_rfl)) (snd_cons (snd_callf (by kernel_rfl) (g_place_names_scopes hK).1 (g_place_names_scopes hK).2 rfl (snd_cons (snd_name (by kernel_rfl)) snd_nil)) snd_nil))))))))) snb_nil) (snb_one (sns_assign (i := 2) (by kernel_rfl) (snd_sub (snd_sub (snd_name (by kernel_rfl)) snd_int) snd_int))))) (snb_one (sns_ret (snd_name (by kernel_rfl))))))
noncomputable def t_without (W : Wd) : TrS := (t_sns_ret (t_snd_comp [("others", 1)] (t_sni_val (t_snd_name 0)) (t_snd_tcmp .NotIn (t_snd_name 0) (t_snd_name 1)) (t_snd_name 0)))
theorem d_without {W : Wd} {K : Frag} (hK : FK W K) (hB : Bu W) : SndB W (scOf (sel 22)) (["names", "others"] : List Str) (bodyOf (sel 22)) (t_without W) := (snb_one (sns_ret (snd_comp [("others", 1)] (by kernel_rfl) (sni_val (snd_name (by kernel_rfl))) (sndf_one (snd_tcmp (snd_name (by kernel_rfl)) (snd_name (by kernel_rfl)))) (snd_name (by kernel_rfl)))))
noncomputable def t_joined_1 (W : Wd) : TrS := (t_sns_expr (t_snd_callf W 59 (t_snd_cons (t_snd_name 1) (t_snd_cons (t_snd_name 2) t_snd_nil))))
noncomputable def t_joined_2 (W : Wd) : TrS := (t_sns_ret (t_snd_name 1))
noncomputable def t_joined_3 (W : Wd) : TrS := (t_snb_cons (t_sns_for 2 (t_sni_val (t_snd_name 0)) (t_joined_1 W)) (t_joined_2 W))
noncomputable def t_joined (W : Wd) : TrS := (t_snb_cons (t_sns_assign 1 (t_snd_listm t_snd_nil)) (t_joined_3 W))
theorem d_joined {W : Wd} {K : Frag} (hK : FK W K) (hB : Bu W) : SndB W (scOf (sel 23)) (["lists", "found", "names"] : List Str) (bodyOf (sel 23)) (t_joined W) := (snb_cons (sns_assign (i := 1) (by kernel_rfl) (by exact snd_listm snd_nil)) (snb_cons (sns_for (i := 2) (by kernel_rfl) (sni_val (snd_name (by kernel_rfl))) (snb_one (sns_expr (by kernel_rfl) (snd_callf (by kernel_rfl) (g_put_once hK).1 (g_put_once hK).2 rfl (snd_cons (snd_name (by kernel_rfl)) (snd_cons (snd_name (by kernel_rfl)) snd_nil)))))) (snb_one (sns_ret (snd_name (by kernel_rfl))))))
noncomputable def t_scope_uses (W : Wd) : TrS := (t_sns_ret (t_snd_callf W 141 (t_snd_cons (t_snd_callf W 203 (t_snd_cons (t_snd_name 0) t_snd_nil)) (t_snd_cons (t_snd_bin .Add (t_snd_name 1) (t_snd_sub (t_snd_callf W 122 (t_snd_cons (t_snd_name 0) t_snd_nil)) (t_snd_int 1))) t_snd_nil))))
theorem d_scope_uses {W : Wd} {K : Frag} (hK : FK W K) (hB : Bu W) : SndB W (scOf (sel 24)) (["tree", "own"] : List Str) (bodyOf (sel 24)) (t_scope_uses W) := (snb_one (sns_ret (snd_callf (by kernel_rfl) (g_without hK).1 (g_without hK).2 rfl (snd_cons (snd_callf (by kernel_rfl) (g_used_names hK).1 (g_used_names hK).2 rfl (snd_cons (snd_name (by kernel_rfl)) snd_nil)) (snd_cons (snd_bin (snd_name (by kernel_rfl)) (snd_sub (snd_callf (by kernel_rfl) (g_bound_names hK).1 (g_bound_names hK).2 rfl (snd_cons (snd_name (by kernel_rfl)) snd_nil)) snd_int)) snd_nil)))))
noncomputable def t_function_uses_1 (W : Wd) : TrS := (t_sns_ret (t_snd_callf W 141 (t_snd_cons (t_snd_callf W 148 (t_snd_cons (t_snd_name 5) t_snd_nil)) (t_snd_cons (t_snd_name 4) t_snd_nil))))
noncomputable def t_function_uses_2 (W : Wd) : TrS := (t_snb_cons (t_sns_assign 5 (t_snd_bin .Add (t_snd_list (t_snd_cons (t_snd_callf W 167 (t_snd_cons (t_snd_name 0) (t_snd_cons (t_snd_name 3) t_snd_nil))) t_snd_nil)) (t_snd_list (t_snd_cons (t_snd_callf W 155 (t_snd_cons (t_snd_name 2) (t_snd_cons (t_snd_list t_snd_nil) t_snd_nil))) t_snd_nil)))) (t_function_uses_1 W))
noncomputable def t_function_uses_3 (W : Wd) : TrS := (t_snb_cons (t_sns_assign 4 (t_snd_bin .Add (t_snd_callf W 129 (t_snd_cons (t_snd_name 3) t_snd_nil)) (t_snd_if (t_snd_tplain (t_snd_callf W 28 (t_snd_cons (t_snd_name 0) (t_snd_cons (t_snd_str "function") t_snd_nil)))) (t_snd_callf W 136 (t_snd_cons (t_snd_name 1) t_snd_nil)) (t_snd_list t_snd_nil)))) (t_function_uses_2 W))
noncomputable def t_function_uses_4 (W : Wd) : TrS := (t_snb_cons (t_sns_assign 3 (t_snd_callf W 73 (t_snd_cons (t_snd_name 0) t_snd_nil))) (t_function_uses_3 W))
noncomputable def t_function_uses_5 (W : Wd) : TrS := (t_snb_cons (t_sns_assign_tv ["head", "body"] [1, 2] (t_snd_sub (t_snd_name 0) (t_snd_int 2))) (t_function_uses_4 W))
noncomputable def t_function_uses_6 (W : Wd) : TrS := (t_snb_cons (t_sns_if (t_snd_tplain (t_snd_callf W 28 (t_snd_cons (t_snd_name 0) (t_snd_cons (t_snd_str "generated") t_snd_nil)))) (t_sns_ret (t_snd_callf W 162 (t_snd_cons (t_snd_sub (t_snd_sub (t_snd_name 0) (t_snd_int 2)) (t_snd_int 0)) t_snd_nil))) t_snb_nil) (t_function_uses_5 W))
noncomputable def t_function_uses (W : Wd) : TrS := (t_snb_cons (t_sns_if (t_snd_tplain (t_snd_callf W 28 (t_snd_cons (t_snd_name 0) (t_snd_cons (t_snd_str "do") t_snd_nil)))) (t_sns_ret (t_snd_callf W 148 (t_snd_cons (t_snd_list (t_snd_cons (t_snd_callf W 203 (t_snd_cons (t_snd_sub (t_snd_sub (t_snd_name 0) (t_snd_int 2)) (t_snd_int 0)) t_snd_nil)) (t_snd_cons (t_snd_callf W 162 (t_snd_cons (t_snd_sub (t_snd_sub (t_snd_name 0) (t_snd_int 2)) (t_snd_int 1)) t_snd_nil)) t_snd_nil))) t_snd_nil))) t_snb_nil) (t_function_uses_6 W))
theorem d_function_uses {W : Wd} {K : Frag} (hK : FK W K) (hB : Bu W) : SndB W (scOf (sel 25)) (["tree", "head", "body", "call", "own", "some"] : List Str) (bodyOf (sel 25)) (t_function_uses W) := (snb_cons (sns_if (snd_tplain (snd_callf (by kernel_rfl) (g_is_expr hK).1 (g_is_expr hK).2 rfl (snd_cons (snd_name (by kernel_rfl)) (snd_cons snd_str snd_nil)))) (snb_one (sns_ret (snd_callf (by kernel_rfl) (g_joined hK).1 (g_joined hK).2 rfl (snd_cons (by exact snd_list (snd_cons (snd_callf (by kernel_rfl) (g_used_names hK).1 (g_used_names hK).2 rfl (snd_cons (snd_sub (snd_sub (snd_name (by kernel_rfl)) snd_int) snd_int) snd_nil)) (snd_cons (snd_callf (by kernel_rfl) (g_function_uses hK).1 (g_function_uses hK).2 rfl (snd_cons (snd_sub (snd_sub (snd_name (by kernel_rfl)) snd_int) snd_int) snd_nil)) snd_nil))) snd_nil)))) snb_nil) (snb_cons (sns_if (snd_tplain (snd_callf (by kernel_rfl) (g_is_expr hK).1 (g_is_expr hK).2 rfl (snd_cons (snd_name (by kernel_rfl)) (snd_cons snd_str snd_nil)))) (snb_one (sns_ret (snd_callf (by kernel_rfl) (g_function_uses hK).1 (g_function_uses hK).2 rfl (snd_cons (snd_sub (snd_sub (snd_name (by kernel_rfl)) snd_int) snd_int) snd_nil)))) snb_nil) (snb_cons (sns_assign_tv ["head", "body"] [1, 2] (by exact ⟨⟨_, rfl⟩, ⟨⟨_, rfl⟩, rfl⟩⟩) (by kernel_rfl) (snd_sub (snd_name (by kernel_rfl)) snd_int)) (snb_cons (sns_assign (i := 3) (by kernel_rfl) (snd_callf (by kernel_rfl) (g_function_head hK).1 (g_function_head hK).2 rfl (snd_cons (snd_name (by kernel_rfl)) snd_nil))) (snb_cons (sns_assign (i := 4) (by kernel_rfl) (snd_bin (snd_callf (by kernel_rfl) (g_argument_names_scopes hK).1 (g_argument_names_scopes hK).2 rfl (snd_cons (snd_name (by kernel_rfl)) snd_nil)) (snd_if (snd_tplain (snd_callf (by kernel_rfl) (g_is_expr hK).1 (g_is_expr hK).2 rfl (snd_cons (snd_name (by kernel_rfl)) (snd_cons snd_str snd_nil)))) (snd_callf (by kernel_rfl) (g_where_names_scopes hK).1 (g_where_names_scopes hK).2 rfl (snd_cons (snd_name (by kernel_rfl)) snd_nil)) (by exact snd_list snd_nil)))) (snb_cons (sns_assign (i := 5) (by kernel_rfl) (snd_bin (by exact snd_list (snd_cons (snd_callf (by kernel_rfl) (g_head_uses hK).1 (g_head_uses hK).2 rfl (snd_cons (snd_name (by kernel_rfl)) (snd_cons (snd_name (by kernel_rfl)) snd_nil))) snd_nil)) (by exact snd_list (snd_cons (snd_callf (by kernel_rfl) (g_scope_uses hK).1 (g_scope_uses hK).2 rfl (snd_cons (snd_name (by kernel_rfl)) (snd_cons (by exact snd_list snd_nil) snd_nil))) snd_nil)))) (snb_one (sns_ret (snd_callf (by kernel_rfl) (g_without hK).1 (g_without hK).2 rfl (snd_cons (snd_callf (by kernel_rfl) (g_joined hK).1 (g_joined hK).2 rfl (snd_cons (snd_name (by kernel_rfl)) snd_nil)) (snd_cons (snd_name (by kernel_rfl)) snd_nil)))))))))))
noncomputable def t_head_uses_1 (W : Wd) : TrS := (t_sns_if (t_snd_tnot (t_snd_tplain (t_snd_callf W 49 (t_snd_cons (t_snd_sub (t_snd_name 6) (t_snd_int 0)) t_snd_nil)))) (t_sns_expr (t_snd_append (t_snd_name 3) (t_snd_sub (t_snd_name 6) (t_snd_int 0)))) t_snb_nil)
noncomputable def t_head_uses_2 (W : Wd) : TrS := (t_sns_expr (t_snd_callf W 59 (t_snd_cons (t_snd_name 2) (t_snd_cons (t_snd_callf W 203 (t_snd_cons (t_snd_sub (t_snd_name 6) (t_snd_int 1)) t_snd_nil)) t_snd_nil))))
noncomputable def t_head_uses_3 (W : Wd) : TrS := (t_sns_expr (t_snd_callf W 59 (t_snd_cons (t_snd_name 2) (t_snd_cons (t_snd_callf W 203 (t_snd_cons (t_snd_sub (t_snd_name 6) (t_snd_neg 1)) t_snd_nil)) t_snd_nil))))
noncomputable def t_head_uses_4 (W : Wd) : TrS := (t_sns_expr (t_snd_callf W 59 (t_snd_cons (t_snd_name 2) (t_snd_cons (t_snd_callf W 148 (t_snd_cons (t_snd_comp [] (t_sni_val (t_snd_from1 (t_snd_name 6))) t_sndf_nil (t_snd_callf W 203 (t_snd_cons (t_snd_name 0) t_snd_nil))) t_snd_nil)) t_snd_nil))))
noncomputable def t_head_uses_5 (W : Wd) : TrS := (t_sns_if (t_snd_tand (t_snd_tcmp .Eq (t_snd_name 4) (t_snd_name 1)) (t_snd_tand (t_snd_tplain (t_snd_callf W 28 (t_snd_cons (t_snd_name 1) (t_snd_cons (t_snd_str "call") t_snd_nil)))) t_snd_tand0)) (t_snb_cons (t_sns_expr (t_snd_extend (t_snd_name 3) (t_snd_from1 (t_snd_name 6)))) (t_head_uses_1 W)) (t_sns_if (t_snd_tcmp .In (t_snd_name 5) (t_snd_tuple (t_snd_cons (t_snd_str "kw") (t_snd_cons (t_snd_str "=") t_snd_nil)))) (t_snb_cons (t_sns_expr (t_snd_append (t_snd_name 3) (t_snd_sub (t_snd_name 6) (t_snd_int 0)))) (t_head_uses_2 W)) (t_sns_if (t_snd_tcmp .In (t_snd_name 5) (t_snd_tuple (t_snd_cons (t_snd_str "tuple") (t_snd_cons (t_snd_str "parameters") (t_snd_cons (t_snd_str "...") t_snd_nil))))) (t_sns_expr (t_snd_extend (t_snd_name 3) (t_snd_name 6))) (t_sns_if (t_snd_tcmp .Eq (t_snd_name 5) (t_snd_str "::")) (t_snb_cons (t_sns_expr (t_snd_extend (t_snd_name 3) (t_snd_but1 (t_snd_name 6)))) (t_head_uses_3 W)) (t_sns_if (t_snd_tcmp .Eq (t_snd_name 5) (t_snd_str "where")) (t_snb_cons (t_sns_expr (t_snd_append (t_snd_name 3) (t_snd_sub (t_snd_name 6) (t_snd_int 0)))) (t_head_uses_4 W)) (t_sns_if (t_snd_tcmp .NotEq (t_snd_name 5) (t_snd_str "")) (t_sns_expr (t_snd_callf W 59 (t_snd_cons (t_snd_name 2) (t_snd_cons (t_snd_callf W 203 (t_snd_cons (t_snd_name 4) t_snd_nil)) t_snd_nil)))) t_snb_nil))))))
noncomputable def t_head_uses_6 (W : Wd) : TrS := (t_snb_cons (t_sns_assign_tt ["head", "parts"] [5, 6] (t_snd_cons (t_snd_callf W 35 (t_snd_cons (t_snd_name 4) t_snd_nil)) (t_snd_cons (t_snd_callf W 42 (t_snd_cons (t_snd_name 4) t_snd_nil)) t_snd_nil)) true) (t_head_uses_5 W))
noncomputable def t_head_uses_7 (W : Wd) : TrB := (t_snd_tcmp .NotEq (t_snd_name 3) (t_snd_list t_snd_nil))
noncomputable def t_head_uses_8 (W : Wd) : TrS := (t_snb_cons (t_sns_assign 4 (t_snd_pop0 (t_snd_name 3))) (t_head_uses_6 W))
noncomputable def t_head_uses_9 (W : Wd) : TrS := (t_sns_ret (t_snd_name 2))
noncomputable def t_head_uses_10 (W : Wd) : TrS := (t_snb_cons (t_sns_while (t_head_uses_7 W) (t_head_uses_8 W)) (t_head_uses_9 W))
noncomputable def t_head_uses (W : Wd) : TrS := (t_snb_cons (t_sns_assign_tt ["found", "left"] [2, 3] (t_snd_cons (t_snd_listm t_snd_nil) (t_snd_cons (t_snd_listm (t_snd_cons (t_snd_sub (t_snd_sub (t_snd_name 0) (t_snd_int 2)) (t_snd_int 0)) t_snd_nil)) t_snd_nil)) true) (t_head_uses_10 W))
theorem d_head_uses {W : Wd} {K : Frag} (hK : FK W K) (hB : Bu W) : SndB W (scOf (sel 26)) (["tree", "call", "found", "left", "here", "head", "parts"] : List Str) (bodyOf (sel 26)) (t_head_uses W) := (snb_cons (sns_assign_tt ["found", "left"] [2, 3] (by kernel_rfl) (by kernel_rfl) (by exact ⟨⟨_, rfl⟩, ⟨⟨_, rfl⟩, rfl⟩⟩) (by kernel_rfl) (sw := true) (by kernel_rfl) (by kernel_rfl) (snd_cons (by exact snd_listm snd_nil) (snd_cons (by exact snd_listm (snd_cons (snd_sub (snd_sub (snd_name (by kernel_rfl)) snd_int) snd_int) snd_nil)) snd_nil)) rfl) (snb_cons (sns_while (snd_tcmp (snd_name (by kernel_rfl)) (by exact snd_list snd_nil)) (snb_cons (sns_assign (i := 4) (by kernel_rfl) (snd_pop0 (snd_name (by kernel_rfl)) rfl)) (snb_cons (sns_assign_tt ["head", "parts"] [5, 6] (by kernel_rfl) (by kernel_rfl) (by exact ⟨⟨_, rfl⟩, ⟨⟨_, rfl⟩, rfl⟩⟩) (by kernel_rfl) (sw := true) (by kernel_rfl) (by kernel_rfl) (snd_cons (snd_callf (by kernel_rfl) (g_head_of hK).1 (g_head_of hK).2 rfl (snd_cons (snd_name (by kernel_rfl)) snd_nil)) (snd_cons (snd_callf (by kernel_rfl) (g_parts_of hK).1 (g_parts_of hK).2 rfl (snd_cons (snd_name (by kernel_rfl)) snd_nil)) snd_nil)) rfl) (snb_one (sns_if (snd_tand (snd_tcmp (snd_name (by kernel_rfl)) (snd_name (by kernel_rfl))) (snd_tand (snd_tplain (snd_callf (by kernel_rfl) (g_is_expr hK).1 (g_is_expr hK).2 rfl (snd_cons (snd_name (by kernel_rfl)) (snd_cons snd_str snd_nil)))) snd_tand0)) (snb_cons (sns_expr (by kernel_rfl) (snd_extend (snd_name (by kernel_rfl)) (snd_from1 (snd_name (by kernel_rfl))) rfl rfl)) (snb_one (sns_if (snd_tnot (snd_tplain (snd_callf (by kernel_rfl) (g_is_sym hK).1 (g_is_sym hK).2 rfl (snd_cons (snd_sub (snd_name (by kernel_rfl)) snd_int) snd_nil)))) (snb_one (sns_expr (by kernel_rfl) (snd_append (snd_name (by kernel_rfl)) (snd_sub (snd_name (by kernel_rfl)) snd_int) rfl rfl))) snb_nil))) (snb_one (sns_if (snd_tcmp (snd_name (by kernel_rfl)) (by exact snd_tuple (snd_cons snd_str (snd_cons snd_str snd_nil)))) (snb_cons (sns_expr (by kernel_rfl) (snd_append (snd_name (by kernel_rfl)) (snd_sub (snd_name (by kernel_rfl)) snd_int) rfl rfl)) (snb_one (sns_expr (by kernel_rfl) (snd_callf (by kernel_rfl) (g_put_once hK).1 (g_put_once hK).2 rfl (snd_cons (snd_name (by kernel_rfl)) (snd_cons (snd_callf (by kernel_rfl) (g_used_names hK).1 (g_used_names hK).2 rfl (snd_cons (snd_sub (snd_name (by kernel_rfl)) snd_int) snd_nil)) snd_nil)))))) (snb_one (sns_if (snd_tcmp (snd_name (by kernel_rfl)) (by exact snd_tuple (snd_cons snd_str (snd_cons snd_str (snd_cons snd_str snd_nil))))) (snb_one (sns_expr (by kernel_rfl) (snd_extend (snd_name (by kernel_rfl)) (snd_name (by kernel_rfl)) rfl rfl))) (snb_one (sns_if (snd_tcmp (snd_name (by kernel_rfl)) snd_str) (snb_cons (sns_expr (by kernel_rfl) (snd_extend (snd_name (by kernel_rfl)) (snd_but1 (snd_name (by kernel_rfl))) rfl rfl)) (snb_one (sns_expr (by kernel_rfl) (snd_callf (by kernel_rfl) (g_put_once hK).1 (g_put_once hK).2 rfl (snd_cons (snd_name (by kernel_rfl)) (snd_cons (snd_callf (by kernel_rfl) (g_used_names hK).1 (g_used_names hK).2 rfl (snd_cons (snd_sub (snd_name (by kernel_rfl)) snd_neg) snd_nil)) snd_nil)))))) (snb_one (sns_if (snd_tcmp (snd_name (by kernel_rfl)) snd_str) (snb_cons (sns_expr (by kernel_rfl) (snd_append (snd_name (by kernel_rfl)) (snd_sub (snd_name (by kernel_rfl)) snd_int) rfl rfl)) (snb_one (sns_expr (by kernel_rfl) (snd_callf (by kernel_rfl) (g_put_once hK).1 (g_put_once hK).2 rfl (snd_cons (snd_name (by kernel_rfl)) (snd_cons (snd_callf (by kernel_rfl) (g_joined hK).1 (g_joined hK).2 rfl (snd_cons (snd_comp [] (by kernel_rfl) (sni_val (snd_from1 (snd_name (by kernel_rfl)))) sndf_nil (snd_callf (by kernel_rfl) (g_used_names hK).1 (g_used_names hK).2 rfl (snd_cons (snd_name (by kernel_rfl)) snd_nil))) snd_nil)) snd_nil)))))) (snb_one (sns_if (snd_tcmp (snd_name (by kernel_rfl)) snd_str) (snb_one (sns_expr (by kernel_rfl) (snd_callf (by kernel_rfl) (g_put_once hK).1 (g_put_once hK).2 rfl (snd_cons (snd_name (by kernel_rfl)) (snd_cons (snd_callf (by kernel_rfl) (g_used_names hK).1 (g_used_names hK).2 rfl (snd_cons (snd_name (by kernel_rfl)) snd_nil)) snd_nil))))) snb_nil))))))))))))))) (snb_one (sns_ret (snd_name (by kernel_rfl))))))
noncomputable def t_plain_uses_1 (W : Wd) : TrS := (t_sns_ret (t_snd_callf W 148 (t_snd_cons (t_snd_comp [] (t_sni_val (t_snd_name 2)) t_sndf_nil (t_snd_callf W 203 (t_snd_cons (t_snd_name 0) t_snd_nil))) t_snd_nil)))
noncomputable def t_plain_uses_2 (W : Wd) : TrS := (t_snb_cons (t_sns_if (t_snd_tcmp .Eq (t_snd_name 1) (t_snd_str ".")) (t_sns_assign 2 t_snd_no) (t_sns_if (t_snd_tcmp .Eq (t_snd_name 1) (t_snd_str "kw")) (t_sns_assign 2 (t_snd_from1 (t_snd_name 2))) t_snb_nil)) (t_plain_uses_1 W))
noncomputable def t_plain_uses_3 (W : Wd) : TrS := (t_snb_cons (t_sns_if (t_snd_tcmp .Eq (t_snd_name 1) (t_snd_str "where")) (t_sns_ret (t_snd_callf W 141 (t_snd_cons (t_snd_callf W 148 (t_snd_cons (t_snd_comp [] (t_sni_val (t_snd_name 2)) t_sndf_nil (t_snd_callf W 203 (t_snd_cons (t_snd_name 0) t_snd_nil))) t_snd_nil)) (t_snd_cons (t_snd_callf W 136 (t_snd_cons (t_snd_name 0) t_snd_nil)) t_snd_nil)))) t_snb_nil) (t_plain_uses_2 W))
noncomputable def t_plain_uses_4 (W : Wd) : TrS := (t_snb_cons (t_sns_if (t_snd_tcmp .Eq (t_snd_name 1) (t_snd_str "while")) (t_sns_ret (t_snd_callf W 148 (t_snd_cons (t_snd_list (t_snd_cons (t_snd_callf W 203 (t_snd_cons (t_snd_sub (t_snd_name 2) (t_snd_int 0)) t_snd_nil)) (t_snd_cons (t_snd_callf W 155 (t_snd_cons (t_snd_sub (t_snd_name 2) (t_snd_int 1)) (t_snd_cons (t_snd_list t_snd_nil) t_snd_nil))) t_snd_nil))) t_snd_nil))) t_snb_nil) (t_plain_uses_3 W))
noncomputable def t_plain_uses (W : Wd) : TrS := (t_snb_cons (t_sns_assign_tt ["head", "parts"] [1, 2] (t_snd_cons (t_snd_sub (t_snd_name 0) (t_snd_int 1)) (t_snd_cons (t_snd_sub (t_snd_name 0) (t_snd_int 2)) t_snd_nil)) true) (t_plain_uses_4 W))
theorem d_plain_uses {W : Wd} {K : Frag} (hK : FK W K) (hB : Bu W) : SndB W (scOf (sel 31)) (["tree", "head", "parts"] : List Str) (bodyOf (sel 31)) (t_plain_uses W) := (snb_cons (sns_assign_tt ["head", "parts"] [1, 2] (by kernel_rfl) (by kernel_rfl) (by exact ⟨⟨_, rfl⟩, ⟨⟨_, rfl⟩, rfl⟩⟩) (by kernel_rfl) (sw := true) (by kernel_rfl) (by kernel_rfl) (snd_cons (snd_sub (snd_name (by kernel_rfl)) snd_int) (snd_cons (snd_sub (snd_name (by kernel_rfl)) snd_int) snd_nil)) rfl) (snb_cons (sns_if (snd_tcmp (snd_name (by kernel_rfl)) snd_str) (snb_one (sns_ret (snd_callf (by kernel_rfl) (g_joined hK).1 (g_joined hK).2 rfl (snd_cons (by exact snd_list (snd_cons (snd_callf (by kernel_rfl) (g_used_names hK).1 (g_used_names hK).2 rfl (snd_cons (snd_sub (snd_name (by kernel_rfl)) snd_int) snd_nil)) (snd_cons (snd_callf (by kernel_rfl) (g_scope_uses hK).1 (g_scope_uses hK).2 rfl (snd_cons (snd_sub (snd_name (by kernel_rfl)) snd_int) (snd_cons (by exact snd_list snd_nil) snd_nil))) snd_nil))) snd_nil)))) snb_nil) (snb_cons (sns_if (snd_tcmp (snd_name (by kernel_rfl)) snd_str) (snb_one (sns_ret (snd_callf (by kernel_rfl) (g_without hK).1 (g_without hK).2 rfl (snd_cons (snd_callf (by kernel_rfl) (g_joined hK).1 (g_joined hK).2 rfl (snd_cons (snd_comp [] (by kernel_rfl) (sni_val (snd_name (by kernel_rfl))) sndf_nil (snd_callf (by kernel_rfl) (g_used_names hK).1 (g_used_names hK).2 rfl (snd_cons (snd_name (by kernel_rfl)) snd_nil))) snd_nil)) (snd_cons (snd_callf (by kernel_rfl) (g_where_names_scopes hK).1 (g_where_names_scopes hK).2 rfl (snd_cons (snd_name (by kernel_rfl)) snd_nil)) snd_nil))))) snb_nil) (snb_cons (sns_if (snd_tcmp (snd_name (by kernel_rfl)) snd_str) (snb_one (sns_assign (i := 2) (by kernel_rfl) snd_no)) (snb_one (sns_if (snd_tcmp (snd_name (by kernel_rfl)) snd_str) (snb_one (sns_assign (i := 2) (by kernel_rfl) (snd_from1 (snd_name (by kernel_rfl))))) snb_nil))) (snb_one (sns_ret (snd_callf (by kernel_rfl) (g_joined hK).1 (g_joined hK).2 rfl (snd_cons (snd_comp [] (by kernel_rfl) (sni_val (snd_name (by kernel_rfl))) sndf_nil (snd_callf (by kernel_rfl) (g_used_names hK).1 (g_used_names hK).2 rfl (snd_cons (snd_name (by kernel_rfl)) snd_nil))) snd_nil))))))))
noncomputable def t_used_names_1 (W : Wd) : TrS := (t_sns_ret (t_snd_callf W 148 (t_snd_cons (t_snd_list (t_snd_cons (t_snd_if (t_snd_tcmp .NotEq (t_snd_name 2) (t_snd_str "")) (t_snd_list (t_snd_cons (t_snd_name 2) t_snd_nil)) (t_snd_list t_snd_nil)) (t_snd_cons (t_snd_callf W 162 (t_snd_cons (t_snd_name 0) t_snd_nil)) t_snd_nil))) t_snd_nil)))
noncomputable def t_used_names_2 (W : Wd) : TrS := (t_sns_ret (t_snd_if (t_snd_tcmp .Eq (t_snd_name 1) (t_snd_str "try")) t_snd_no (t_snd_callf W 196 (t_snd_cons (t_snd_name 0) t_snd_nil))))
noncomputable def t_used_names_3 (W : Wd) : TrS := (t_snb_cons (t_sns_if (t_snd_tcmp .In (t_snd_name 1) (t_snd_tuple (t_snd_cons (t_snd_str "comprehension") (t_snd_cons (t_snd_str "generator") t_snd_nil)))) (t_sns_ret t_snd_no) t_snb_nil) (t_used_names_2 W))
noncomputable def t_used_names_4 (W : Wd) : TrS := (t_snb_cons (t_sns_if (t_snd_tcmp .Eq (t_snd_name 1) (t_snd_str "for")) (t_sns_ret t_snd_no) t_snb_nil) (t_used_names_3 W))
noncomputable def t_used_names_5 (W : Wd) : TrS := (t_snb_cons (t_sns_if (t_snd_tcmp .Eq (t_snd_name 1) (t_snd_str "let")) (t_sns_ret t_snd_no) t_snb_nil) (t_used_names_4 W))
noncomputable def t_used_names_6 (W : Wd) : TrS := (t_snb_cons (t_sns_if (t_snd_tcmp .In (t_snd_name 1) (t_snd_gstrs strs_FUNCTIONS)) (t_snb_cons (t_sns_assign 2 (t_snd_callf W 80 (t_snd_cons (t_snd_name 0) t_snd_nil))) (t_used_names_1 W)) t_snb_nil) (t_used_names_5 W))
noncomputable def t_used_names_7 (W : Wd) : TrS := (t_snb_cons (t_sns_if (t_snd_tcmp .In (t_snd_name 1) (t_snd_gstrs strs_SILENT)) (t_sns_ret (t_snd_list t_snd_nil)) t_snb_nil) (t_used_names_6 W))
noncomputable def t_used_names_8 (W : Wd) : TrS := (t_snb_cons (t_sns_if (t_snd_tcmp .Eq (t_snd_name 1) (t_snd_str "")) (t_sns_ret (t_snd_if (t_snd_tplain (t_snd_callf W 49 (t_snd_cons (t_snd_name 0) t_snd_nil))) (t_snd_list (t_snd_cons (t_snd_sub (t_snd_name 0) (t_snd_int 1)) t_snd_nil)) (t_snd_list t_snd_nil))) t_snb_nil) (t_used_names_7 W))
noncomputable def t_used_names (W : Wd) : TrS := (t_snb_cons (t_sns_assign 1 (t_snd_callf W 35 (t_snd_cons (t_snd_name 0) t_snd_nil))) (t_used_names_8 W))
theorem d_used_names {W : Wd} {K : Frag} (hK : FK W K) (hB : Bu W) : SndB W (scOf (sel 32)) (["tree", "head", "name"] : List Str) (bodyOf (sel 32)) (t_used_names W) := (snb_cons (sns_assign (i := 1) (by kernel_rfl) (snd_callf (by kernel_rfl) (g_head_of hK).1 (g_head_of hK).2 rfl (snd_cons (snd_name (by kernel_rfl)) snd_nil))) (snb_cons (sns_if (snd_tcmp (snd_name (by kernel_rfl)) snd_str) (snb_one (sns_ret (snd_if (snd_tplain (snd_callf (by kernel_rfl) (g_is_sym hK).1 (g_is_sym hK).2 rfl (snd_cons (snd_name (by kernel_rfl)) snd_nil))) (by exact snd_list (snd_cons (snd_sub (snd_name (by kernel_rfl)) snd_int) snd_nil)) (by exact snd_list snd_nil)))) snb_nil) (snb_cons (sns_if (snd_tcmp (snd_name (by kernel_rfl)) (snd_gstrs hK.inn (by kernel_rfl) (s_SILENT hK))) (snb_one (sns_ret (by exact snd_list snd_nil))) snb_nil) (snb_cons (sns_if (snd_tcmp (snd_name (by kernel_rfl)) (snd_gstrs hK.inn (by kernel_rfl) (s_FUNCTIONS hK))) (snb_cons (sns_assign (i := 2) (by kernel_rfl) (snd_callf (by kernel_rfl) (g_own_name hK).1 (g_own_name hK).2 rfl (snd_cons (snd_name (by kernel_rfl)) snd_nil))) (snb_one (sns_ret (snd_callf (by kernel_rfl) (g_joined hK).1 (g_joined hK).2 rfl (snd_cons (by exact snd_list (snd_cons (snd_if (snd_tcmp (snd_name (by kernel_rfl)) snd_str) (by exact snd_list (snd_cons (snd_name (by kernel_rfl)) snd_nil)) (by exact snd_list snd_nil)) (snd_cons (snd_callf (by kernel_rfl) (g_function_uses hK).1 (g_function_uses hK).2 rfl (snd_cons (snd_name (by kernel_rfl)) snd_nil)) snd_nil))) snd_nil))))) snb_nil) (snb_cons (sns_if (snd_tcmp (snd_name (by kernel_rfl)) snd_str) (snb_one (sns_ret snd_no)) snb_nil) (snb_cons (sns_if (snd_tcmp (snd_name (by kernel_rfl)) snd_str) (snb_one (sns_ret snd_no)) snb_nil) (snb_cons (sns_if (snd_tcmp (snd_name (by kernel_rfl)) (by exact snd_tuple (snd_cons snd_str (snd_cons snd_str snd_nil)))) (snb_one (sns_ret snd_no)) snb_nil) (snb_one (sns_ret (snd_if (snd_tcmp (snd_name (by kernel_rfl)) snd_str) snd_no (snd_callf (by kernel_rfl) (g_plain_uses hK).1 (g_plain_uses hK).2 rfl (snd_cons (snd_name (by kernel_rfl)) snd_nil))))))))))))
noncomputable def t_place_names_binders_1 (W : Wd) : TrS := (t_sns_if (t_snd_tplain (t_snd_callf W 49 (t_snd_cons (t_snd_name 3) t_snd_nil))) (t_sns_expr (t_snd_append (t_snd_name 1) (t_snd_sub (t_snd_name 3) (t_snd_int 1)))) (t_sns_if (t_snd_tand (t_snd_tplain (t_snd_callf W 28 (t_snd_cons (t_snd_name 3) (t_snd_cons (t_snd_str "::") t_snd_nil)))) (t_snd_tand (t_snd_tcmp .Eq (t_snd_builtin (t_snd_cons (t_snd_sub (t_snd_name 3) (t_snd_int 2)) t_snd_nil) p_len) (t_snd_int 2)) t_snd_tand0)) (t_sns_expr (t_snd_append (t_snd_name 2) (t_snd_sub (t_snd_sub (t_snd_name 3) (t_snd_int 2)) (t_snd_int 0)))) (t_sns_if (t_snd_tcmp .In (t_snd_callf W 35 (t_snd_cons (t_snd_name 3) t_snd_nil)) (t_snd_tuple (t_snd_cons (t_snd_str "tuple") (t_snd_cons (t_snd_str "...") t_snd_nil)))) (t_sns_expr (t_snd_extend (t_snd_name 2) (t_snd_revt (t_snd_sub (t_snd_name 3) (t_snd_int 2))))) t_snb_nil)))
noncomputable def t_place_names_binders_2 (W : Wd) : TrB := (t_snd_tcmp .NotEq (t_snd_name 2) (t_snd_list t_snd_nil))
noncomputable def t_place_names_binders_3 (W : Wd) : TrS := (t_snb_cons (t_sns_assign 3 (t_snd_pop (t_snd_name 2))) (t_place_names_binders_1 W))
noncomputable def t_place_names_binders_4 (W : Wd) : TrS := (t_sns_ret (t_snd_name 1))
noncomputable def t_place_names_binders_5 (W : Wd) : TrS := (t_snb_cons (t_sns_while (t_place_names_binders_2 W) (t_place_names_binders_3 W)) (t_place_names_binders_4 W))
noncomputable def t_place_names_binders (W : Wd) : TrS := (t_snb_cons (t_sns_assign_tt ["found", "left"] [1, 2] (t_snd_cons (t_snd_listm t_snd_nil) (t_snd_cons (t_snd_listm (t_snd_cons (t_snd_name 0) t_snd_nil)) t_snd_nil)) true) (t_place_names_binders_5 W))
theorem d_place_names_binders {W : Wd} {K : Frag} (hK : FK W K) (hB : Bu W) : SndB W (scOf (sel 36)) (["place", "found", "left", "here"] : List Str) (bodyOf (sel 36)) (t_place_names_binders W) := (snb_cons (sns_assign_tt ["found", "left"] [1, 2] (by kernel_rfl) (by kernel_rfl) (by exact ⟨⟨_, rfl⟩, ⟨⟨_, rfl⟩, rfl⟩⟩) (by kernel_rfl) (sw := true) (by kernel_rfl) (by kernel_rfl) (snd_cons (by exact snd_listm snd_nil) (snd_cons (by exact snd_listm (snd_cons (snd_name (by kernel_rfl)) snd_nil)) snd_nil)) rfl) (snb_cons (sns_while (snd_tcmp (snd_name (by kernel_rfl)) (by exact snd_list snd_nil)) (snb_cons (sns_assign (i := 3) (by kernel_rfl) (snd_pop (snd_name (by kernel_rfl)) rfl)) (snb_one (sns_if (snd_tplain (snd_callf (by kernel_rfl) (g_is_sym hK).1 (g_is_sym hK).2 rfl (snd_cons (snd_name (by kernel_rfl)) snd_nil))) (snb_one (sns_expr (by kernel_rfl) (snd_append (snd_name (by kernel_rfl)) (snd_sub (snd_name (by kernel_rfl)) snd_int) rfl rfl))) (snb_one (sns_if (snd_tand (snd_tplain (snd_callf (by kernel_rfl) (g_is_expr hK).1 (g_is_expr hK).2 rfl (snd_cons (snd_name (by kernel_rfl)) (snd_cons snd_str snd_nil)))) (snd_tand (snd_tcmp (snd_builtin nat_len (by kernel_rfl) (n_len hK) hB.len_ rfl (snd_cons (snd_sub (snd_name (by kernel_rfl)) snd_int) snd_nil)) snd_int) snd_tand0)) (snb_one (sns_expr (by kernel_rfl) (snd_append (snd_name (by kernel_rfl)) (snd_sub (snd_sub (snd_name (by kernel_rfl)) snd_int) snd_int) rfl rfl))) (snb_one (sns_if (snd_tcmp (snd_callf (by kernel_rfl) (g_head_of hK).1 (g_head_of hK).2 rfl (snd_cons (snd_name (by kernel_rfl)) snd_nil)) (by exact snd_tuple (snd_cons snd_str (snd_cons snd_str snd_nil)))) (snb_one (sns_expr (by kernel_rfl) (snd_extend (snd_name (by kernel_rfl)) (snd_revt (snd_sub (snd_name (by kernel_rfl)) snd_int)) rfl rfl))) snb_nil)))))))) (snb_one (sns_ret (snd_name (by kernel_rfl))))))
noncomputable def t_own_names_1 (W : Wd) : TrS := t_sns_continue
noncomputable def t_own_names_2 (W : Wd) : TrS := (t_snb_cons (t_sns_expr (t_snd_extend (t_snd_name 3) (t_snd_comp [] (t_sni_val (t_snd_revt (t_snd_sub (t_snd_name 4) (t_snd_int 2)))) (t_snd_tplain (t_snd_callf W 28 (t_snd_cons (t_snd_name 0) (t_snd_cons (t_snd_str "=") t_snd_nil)))) (t_snd_sub (t_snd_sub (t_snd_name 0) (t_snd_int 2)) (t_snd_int 1))))) (t_own_names_1 W))
noncomputable def t_own_names_3 (W : Wd) : TrS := (t_snb_cons (t_sns_expr (t_snd_extend (t_snd_name 6) t_snd_no)) (t_own_names_2 W))
noncomputable def t_own_names_4 (W : Wd) : TrS := (t_sns_expr (t_snd_extend (t_snd_name 3) (t_snd_revt (t_snd_callf W 42 (t_snd_cons (t_snd_name 4) t_snd_nil)))))
noncomputable def t_own_names_5 (W : Wd) : TrS := (t_snb_cons (t_sns_if (t_snd_tor (t_snd_tcmp .Eq (t_snd_name 5) (t_snd_str "=")) (t_snd_tor (t_snd_tcmp .In (t_snd_name 5) (t_snd_gstrs strs_CHANGING)) t_snd_tor0)) (t_sns_expr (t_snd_extend (t_snd_name 1) (t_snd_callf W 212 (t_snd_cons (t_snd_sub (t_snd_sub (t_snd_name 4) (t_snd_int 2)) (t_snd_int 0)) t_snd_nil)))) (t_sns_if (t_snd_tcmp .In (t_snd_name 5) (t_snd_tuple (t_snd_cons (t_snd_str "local") (t_snd_cons (t_snd_str "global") t_snd_nil)))) (t_snb_cons (t_sns_assign 6 (t_snd_if (t_snd_tcmp .Eq (t_snd_name 5) (t_snd_str "local")) (t_snd_name 1) (t_snd_name 2))) (t_own_names_3 W)) t_snb_nil)) (t_own_names_4 W))
noncomputable def t_own_names_6 (W : Wd) : TrS := (t_snb_cons (t_sns_if (t_snd_tcmp .In (t_snd_name 5) (t_snd_gstrs strs_OPENING)) t_sns_continue t_snb_nil) (t_own_names_5 W))
noncomputable def t_own_names_7 (W : Wd) : TrS := (t_snb_cons (t_sns_assign 5 (t_snd_callf W 35 (t_snd_cons (t_snd_name 4) t_snd_nil))) (t_own_names_6 W))
noncomputable def t_own_names_8 (W : Wd) : TrB := (t_snd_tcmp .NotEq (t_snd_name 3) (t_snd_list t_snd_nil))
noncomputable def t_own_names_9 (W : Wd) : TrS := (t_snb_cons (t_sns_assign 4 (t_snd_pop (t_snd_name 3))) (t_own_names_7 W))
noncomputable def t_own_names_10 (W : Wd) : TrS := (t_sns_rett (t_snd_cons (t_snd_name 1) (t_snd_cons (t_snd_name 2) t_snd_nil)))
noncomputable def t_own_names_11 (W : Wd) : TrS := (t_snb_cons (t_sns_while (t_own_names_8 W) (t_own_names_9 W)) (t_own_names_10 W))
noncomputable def t_own_names (W : Wd) : TrS := (t_snb_cons (t_sns_assign_tt ["bound", "told_global", "left"] [1, 2, 3] (t_snd_cons (t_snd_listm t_snd_nil) (t_snd_cons (t_snd_list t_snd_nil) (t_snd_cons (t_snd_revl (t_snd_type (t_snd_cons (t_snd_name 0) t_snd_nil) p_list)) t_snd_nil))) true) (t_own_names_11 W))
theorem d_own_names {W : Wd} {K : Frag} (hK : FK W K) (hB : Bu W) : SndB W (scOf (sel 39)) (["trees", "bound", "told_global", "left", "here", "head", "told"] : List Str) (bodyOf (sel 39)) (t_own_names W) := (snb_cons (sns_assign_tt ["bound", "told_global", "left"] [1, 2, 3] (by kernel_rfl) (by kernel_rfl) (by exact ⟨⟨_, rfl⟩, ⟨⟨_, rfl⟩, ⟨⟨_, rfl⟩, rfl⟩⟩⟩) (by kernel_rfl) (sw := true) (by kernel_rfl) (by kernel_rfl) (snd_cons (by exact snd_listm snd_nil) (snd_cons (by exact snd_list snd_nil) (snd_cons (snd_revl (snd_type nat_list (by kernel_rfl) (n_list hK) hB.list_ rfl (snd_cons (snd_name (by kernel_rfl)) snd_nil))) snd_nil))) rfl) (snb_cons (sns_while (snd_tcmp (snd_name (by kernel_rfl)) (by exact snd_list snd_nil)) (snb_cons (sns_assign (i := 4) (by kernel_rfl) (snd_pop (snd_name (by kernel_rfl)) rfl)) (snb_cons (sns_assign (i := 5) (by kernel_rfl) (snd_callf (by kernel_rfl) (g_head_of hK).1 (g_head_of hK).2 rfl (snd_cons (snd_name (by kernel_rfl)) snd_nil))) (snb_cons (sns_if (snd_tcmp (snd_name (by kernel_rfl)) (snd_gstrs hK.inn (by kernel_rfl) (s_OPENING hK))) (snb_one sns_continue) snb_nil) (snb_cons (sns_if (snd_tor (snd_tcmp (snd_name (by kernel_rfl)) snd_str) (snd_tor (snd_tcmp (snd_name (by kernel_rfl)) (snd_gstrs hK.inn (by kernel_rfl) (s_CHANGING hK))) snd_tor0)) (snb_one (sns_expr (by kernel_rfl) (snd_extend (snd_name (by kernel_rfl)) (snd_callf (by kernel_rfl) (g_place_names_binders hK).1 (g_place_names_binders hK).2 rfl (snd_cons (snd_sub (snd_sub (snd_name (by kernel_rfl)) snd_int) snd_int) snd_nil)) rfl rfl))) (snb_one (sns_if (snd_tcmp (snd_name (by kernel_rfl)) (by exact snd_tuple (snd_cons snd_str (snd_cons snd_str snd_nil)))) (snb_cons (sns_assign (i := 6) (by kernel_rfl) (snd_if (snd_tcmp (snd_name (by kernel_rfl)) snd_str) (snd_name (by kernel_rfl)) (snd_name (by kernel_rfl)))) (snb_cons (sns_expr (by kernel_rfl) (snd_extend (snd_name (by kernel_rfl)) snd_no rfl rfl)) (snb_cons (sns_expr (by kernel_rfl) (snd_extend (snd_name (by kernel_rfl)) (snd_comp [] (by kernel_rfl) (sni_val (snd_revt (snd_sub (snd_name (by kernel_rfl)) snd_int))) (sndf_one (snd_tplain (snd_callf (by kernel_rfl) (g_is_expr hK).1 (g_is_expr hK).2 rfl (snd_cons (snd_name (by kernel_rfl)) (snd_cons snd_str snd_nil))))) (snd_sub (snd_sub (snd_name (by kernel_rfl)) snd_int) snd_int)) rfl rfl)) (snb_one sns_continue)))) snb_nil))) (snb_one (sns_expr (by kernel_rfl) (snd_extend (snd_name (by kernel_rfl)) (snd_revt (snd_callf (by kernel_rfl) (g_parts_of hK).1 (g_parts_of hK).2 rfl (snd_cons (snd_name (by kernel_rfl)) snd_nil))) rfl rfl)))))))) (snb_one (sns_rett (snd_cons (snd_name (by kernel_rfl)) (snd_cons (snd_name (by kernel_rfl)) snd_nil))))))
noncomputable def t_argument_names_binders_1 (W : Wd) : TrS := (t_sns_ret (t_snd_if (t_snd_tplain (t_snd_callf W 28 (t_snd_cons (t_snd_name 0) (t_snd_cons (t_snd_str "parameters") t_snd_nil)))) (t_snd_list t_snd_nil) (t_snd_callf W 212 (t_snd_cons (t_snd_name 0) t_snd_nil))))
noncomputable def t_argument_names_binders (W : Wd) : TrS := (t_snb_cons (t_sns_if (t_snd_tplain (t_snd_callf W 28 (t_snd_cons (t_snd_name 0) (t_snd_cons (t_snd_str "kw") t_snd_nil)))) (t_sns_ret (t_snd_callf W 212 (t_snd_cons (t_snd_sub (t_snd_sub (t_snd_name 0) (t_snd_int 2)) (t_snd_int 0)) t_snd_nil))) t_snb_nil) (t_argument_names_binders_1 W))
theorem d_argument_names_binders {W : Wd} {K : Frag} (hK : FK W K) (hB : Bu W) : SndB W (scOf (sel 40)) (["argument"] : List Str) (bodyOf (sel 40)) (t_argument_names_binders W) := (snb_cons (sns_if (snd_tplain (snd_callf (by kernel_rfl) (g_is_expr hK).1 (g_is_expr hK).2 rfl (snd_cons (snd_name (by kernel_rfl)) (snd_cons snd_str snd_nil)))) (snb_one (sns_ret (snd_callf (by kernel_rfl) (g_place_names_binders hK).1 (g_place_names_binders hK).2 rfl (snd_cons (snd_sub (snd_sub (snd_name (by kernel_rfl)) snd_int) snd_int) snd_nil)))) snb_nil) (snb_one (sns_ret (snd_if (snd_tplain (snd_callf (by kernel_rfl) (g_is_expr hK).1 (g_is_expr hK).2 rfl (snd_cons (snd_name (by kernel_rfl)) (snd_cons snd_str snd_nil)))) (by exact snd_list snd_nil) (snd_callf (by kernel_rfl) (g_place_names_binders hK).1 (g_place_names_binders hK).2 rfl (snd_cons (snd_name (by kernel_rfl)) snd_nil))))))
noncomputable def t_head_call_1 (W : Wd) : TrB := (t_snd_tor (t_snd_tplain (t_snd_callf W 28 (t_snd_cons (t_snd_name 0) (t_snd_cons (t_snd_str "where") t_snd_nil)))) (t_snd_tor (t_snd_tand (t_snd_tplain (t_snd_callf W 28 (t_snd_cons (t_snd_name 0) (t_snd_cons (t_snd_str "::") t_snd_nil)))) (t_snd_tand (t_snd_tcmp .In (t_snd_callf W 35 (t_snd_cons (t_snd_sub (t_snd_sub (t_snd_name 0) (t_snd_int 2)) (t_snd_int 0)) t_snd_nil)) (t_snd_tuple (t_snd_cons (t_snd_str "call") (t_snd_cons (t_snd_str "where") (t_snd_cons (t_snd_str "tuple") (t_snd_cons (t_snd_str "::") t_snd_nil)))))) t_snd_tand0)) t_snd_tor0))
noncomputable def t_head_call_2 (W : Wd) : TrS := (t_sns_assign 0 (t_snd_sub (t_snd_sub (t_snd_name 0) (t_snd_int 2)) (t_snd_int 0)))
noncomputable def t_head_call_3 (W : Wd) : TrS := (t_sns_ret (t_snd_name 0))
noncomputable def t_head_call (W : Wd) : TrS := (t_snb_cons (t_sns_while (t_head_call_1 W) (t_head_call_2 W)) (t_head_call_3 W))
theorem d_head_call {W : Wd} {K : Frag} (hK : FK W K) (hB : Bu W) : SndB W (scOf (sel 42)) (["head"] : List Str) (bodyOf (sel 42)) (t_head_call W) := (snb_cons (sns_while (snd_tor (snd_tplain (snd_callf (by kernel_rfl) (g_is_expr hK).1 (g_is_expr hK).2 rfl (snd_cons (snd_name (by kernel_rfl)) (snd_cons snd_str snd_nil)))) (snd_tor (snd_tand (snd_tplain (snd_callf (by kernel_rfl) (g_is_expr hK).1 (g_is_expr hK).2 rfl (snd_cons (snd_name (by kernel_rfl)) (snd_cons snd_str snd_nil)))) (snd_tand (snd_tcmp (snd_callf (by kernel_rfl) (g_head_of hK).1 (g_head_of hK).2 rfl (snd_cons (snd_sub (snd_sub (snd_name (by kernel_rfl)) snd_int) snd_int) snd_nil)) (by exact snd_tuple (snd_cons snd_str (snd_cons snd_str (snd_cons snd_str (snd_cons snd_str snd_nil)))))) snd_tand0)) snd_tor0)) (snb_one (sns_assign (i := 0) (by kernel_rfl) (snd_sub (snd_sub (snd_name (by kernel_rfl)) snd_int) snd_int)))) (snb_one (sns_ret (snd_name (by kernel_rfl)))))
noncomputable def t_head_names_1 (W : Wd) : TrS := (t_sns_assign 2 (t_snd_from1 (t_snd_sub (t_snd_name 1) (t_snd_int 2))))
noncomputable def t_head_names_2 (W : Wd) : TrS := (t_sns_expr (t_snd_extend (t_snd_name 3) (t_snd_callf W 231 (t_snd_cons (t_snd_name 4) t_snd_nil))))
noncomputable def t_head_names_3 (W : Wd) : TrS := (t_sns_ret (t_snd_name 3))
noncomputable def t_head_names_4 (W : Wd) : TrS := (t_snb_cons (t_sns_for 4 (t_sni_val (t_snd_name 2)) (t_head_names_2 W)) (t_head_names_3 W))
noncomputable def t_head_names_5 (W : Wd) : TrS := (t_snb_cons (t_sns_if (t_snd_tplain (t_snd_callf W 28 (t_snd_cons (t_snd_name 1) (t_snd_cons (t_snd_str "call") t_snd_nil)))) (t_snb_cons (t_sns_assign 3 (t_snd_if (t_snd_tplain (t_snd_callf W 28 (t_snd_cons (t_snd_sub (t_snd_sub (t_snd_name 1) (t_snd_int 2)) (t_snd_int 0)) (t_snd_cons (t_snd_str "::") t_snd_nil)))) (t_snd_callf W 212 (t_snd_cons (t_snd_sub (t_snd_sub (t_snd_name 1) (t_snd_int 2)) (t_snd_int 0)) t_snd_nil)) (t_snd_listm t_snd_nil))) (t_head_names_1 W)) (t_sns_if (t_snd_tnot (t_snd_tplain (t_snd_callf W 28 (t_snd_cons (t_snd_name 1) (t_snd_cons (t_snd_str "tuple") t_snd_nil))))) (t_sns_ret (t_snd_callf W 212 (t_snd_cons (t_snd_name 1) t_snd_nil))) t_snb_nil)) (t_head_names_4 W))
noncomputable def t_head_names_6 (W : Wd) : TrS := (t_snb_cons (t_sns_assign 3 (t_snd_listm t_snd_nil)) (t_head_names_5 W))
noncomputable def t_head_names_7 (W : Wd) : TrS := (t_snb_cons (t_sns_assign 2 (t_snd_sub (t_snd_name 1) (t_snd_int 2))) (t_head_names_6 W))
noncomputable def t_head_names_8 (W : Wd) : TrS := (t_snb_cons (t_sns_if (t_snd_tplain (t_snd_callf W 49 (t_snd_cons (t_snd_name 1) t_snd_nil))) (t_sns_ret (t_snd_list (t_snd_cons (t_snd_sub (t_snd_name 1) (t_snd_int 1)) t_snd_nil))) t_snb_nil) (t_head_names_7 W))
noncomputable def t_head_names (W : Wd) : TrS := (t_snb_cons (t_sns_assign 1 (t_snd_callf W 238 (t_snd_cons (t_snd_name 0) t_snd_nil))) (t_head_names_8 W))
theorem d_head_names {W : Wd} {K : Frag} (hK : FK W K) (hB : Bu W) : SndB W (scOf (sel 43)) (["head", "inner", "arguments", "found", "argument"] : List Str) (bodyOf (sel 43)) (t_head_names W) := (snb_cons (sns_assign (i := 1) (by kernel_rfl) (snd_callf (by kernel_rfl) (g_head_call hK).1 (g_head_call hK).2 rfl (snd_cons (snd_name (by kernel_rfl)) snd_nil))) (snb_cons (sns_if (snd_tplain (snd_callf (by kernel_rfl) (g_is_sym hK).1 (g_is_sym hK).2 rfl (snd_cons (snd_name (by kernel_rfl)) snd_nil))) (snb_one (sns_ret (by exact snd_list (snd_cons (snd_sub (snd_name (by kernel_rfl)) snd_int) snd_nil)))) snb_nil) (snb_cons (sns_assign (i := 2) (by kernel_rfl) (snd_sub (snd_name (by kernel_rfl)) snd_int)) (snb_cons (sns_assign (i := 3) (by kernel_rfl) (by exact snd_listm snd_nil)) (snb_cons (sns_if (snd_tplain (snd_callf (by kernel_rfl) (g_is_expr hK).1 (g_is_expr hK).2 rfl (snd_cons (snd_name (by kernel_rfl)) (snd_cons snd_str snd_nil)))) (snb_cons (sns_assign (i := 3) (by kernel_rfl) (snd_if (snd_tplain (snd_callf (by kernel_rfl) (g_is_expr hK).1 (g_is_expr hK).2 rfl (snd_cons (snd_sub (snd_sub (snd_name (by kernel_rfl)) snd_int) snd_int) (snd_cons snd_str snd_nil)))) (snd_callf (by kernel_rfl) (g_place_names_binders hK).1 (g_place_names_binders hK).2 rfl (snd_cons (snd_sub (snd_sub (snd_name (by kernel_rfl)) snd_int) snd_int) snd_nil)) (by exact snd_listm snd_nil))) (snb_one (sns_assign (i := 2) (by kernel_rfl) (snd_from1 (snd_sub (snd_name (by kernel_rfl)) snd_int))))) (snb_one (sns_if (snd_tnot (snd_tplain (snd_callf (by kernel_rfl) (g_is_expr hK).1 (g_is_expr hK).2 rfl (snd_cons (snd_name (by kernel_rfl)) (snd_cons snd_str snd_nil))))) (snb_one (sns_ret (snd_callf (by kernel_rfl) (g_place_names_binders hK).1 (g_place_names_binders hK).2 rfl (snd_cons (snd_name (by kernel_rfl)) snd_nil)))) snb_nil))) (snb_cons (sns_for (i := 4) (by kernel_rfl) (sni_val (snd_name (by kernel_rfl))) (snb_one (sns_expr (by kernel_rfl) (snd_extend (snd_name (by kernel_rfl)) (snd_callf (by kernel_rfl) (g_argument_names_binders hK).1 (g_argument_names_binders hK).2 rfl (snd_cons (snd_name (by kernel_rfl)) snd_nil)) rfl rfl)))) (snb_one (sns_ret (snd_name (by kernel_rfl))))))))))
noncomputable def t_keyword_names_1 (W : Wd) : TrS := (t_sns_expr (t_snd_extend (t_snd_name 1) (t_snd_callf W 212 (t_snd_cons (t_snd_if (t_snd_tplain (t_snd_callf W 28 (t_snd_cons (t_snd_name 3) (t_snd_cons (t_snd_str "kw") t_snd_nil)))) (t_snd_sub (t_snd_sub (t_snd_name 3) (t_snd_int 2)) (t_snd_int 0)) (t_snd_name 3)) t_snd_nil))))
noncomputable def t_keyword_names_2 (W : Wd) : TrS := (t_sns_if (t_snd_tplain (t_snd_callf W 28 (t_snd_cons (t_snd_name 2) (t_snd_cons (t_snd_str "parameters") t_snd_nil)))) (t_sns_for 3 (t_sni_val (t_snd_sub (t_snd_name 2) (t_snd_int 2))) (t_keyword_names_1 W)) t_snb_nil)
noncomputable def t_keyword_names_3 (W : Wd) : TrS := (t_sns_ret (t_snd_name 1))
noncomputable def t_keyword_names_4 (W : Wd) : TrS := (t_snb_cons (t_sns_for 2 (t_sni_val (t_snd_callf W 42 (t_snd_cons (t_snd_callf W 238 (t_snd_cons (t_snd_name 0) t_snd_nil)) t_snd_nil))) (t_keyword_names_2 W)) (t_keyword_names_3 W))
noncomputable def t_keyword_names (W : Wd) : TrS := (t_snb_cons (t_sns_assign 1 (t_snd_listm t_snd_nil)) (t_keyword_names_4 W))
theorem d_keyword_names {W : Wd} {K : Frag} (hK : FK W K) (hB : Bu W) : SndB W (scOf (sel 44)) (["head", "found", "argument", "keyword"] : List Str) (bodyOf (sel 44)) (t_keyword_names W) := (snb_cons (sns_assign (i := 1) (by kernel_rfl) (by exact snd_listm snd_nil)) (snb_cons (sns_for (i := 2) (by kernel_rfl) (sni_val (snd_callf (by kernel_rfl) (g_parts_of hK).1 (g_parts_of hK).2 rfl (snd_cons (snd_callf (by kernel_rfl) (g_head_call hK).1 (g_head_call hK).2 rfl (snd_cons (snd_name (by kernel_rfl)) snd_nil)) snd_nil))) (snb_one (sns_if (snd_tplain (snd_callf (by kernel_rfl) (g_is_expr hK).1 (g_is_expr hK).2 rfl (snd_cons (snd_name (by kernel_rfl)) (snd_cons snd_str snd_nil)))) (snb_one (sns_for (i := 3) (by kernel_rfl) (sni_val (snd_sub (snd_name (by kernel_rfl)) snd_int)) (snb_one (sns_expr (by kernel_rfl) (snd_extend (snd_name (by kernel_rfl)) (snd_callf (by kernel_rfl) (g_place_names_binders hK).1 (g_place_names_binders hK).2 rfl (snd_cons (snd_if (snd_tplain (snd_callf (by kernel_rfl) (g_is_expr hK).1 (g_is_expr hK).2 rfl (snd_cons (snd_name (by kernel_rfl)) (snd_cons snd_str snd_nil)))) (snd_sub (snd_sub (snd_name (by kernel_rfl)) snd_int) snd_int) (snd_name (by kernel_rfl))) snd_nil)) rfl rfl))))) snb_nil))) (snb_one (sns_ret (snd_name (by kernel_rfl))))))
noncomputable def t_where_names_binders_1 (W : Wd) : TrB := (t_snd_tand (t_snd_tnot (t_snd_tplain (t_snd_callf W 49 (t_snd_cons (t_snd_name 2) t_snd_nil)))) (t_snd_tand (t_snd_tcmp .NotEq (t_snd_callf W 42 (t_snd_cons (t_snd_name 2) t_snd_nil)) (t_snd_tuple t_snd_nil)) t_snd_tand0))
noncomputable def t_where_names_binders_2 (W : Wd) : TrS := (t_sns_assign 2 (t_snd_if (t_snd_tplain (t_snd_callf W 28 (t_snd_cons (t_snd_name 2) (t_snd_cons (t_snd_str "comparison") t_snd_nil)))) (t_snd_sub (t_snd_sub (t_snd_name 2) (t_snd_int 2)) (t_snd_int 2)) (t_snd_sub (t_snd_sub (t_snd_name 2) (t_snd_int 2)) (t_snd_int 0))))
noncomputable def t_where_names_binders_3 (W : Wd) : TrS := (t_sns_expr (t_snd_extend (t_snd_name 1) (t_snd_if (t_snd_tplain (t_snd_callf W 49 (t_snd_cons (t_snd_name 2) t_snd_nil))) (t_snd_list (t_snd_cons (t_snd_sub (t_snd_name 2) (t_snd_int 1)) t_snd_nil)) (t_snd_list t_snd_nil))))
noncomputable def t_where_names_binders_4 (W : Wd) : TrS := (t_snb_cons (t_sns_while (t_where_names_binders_1 W) (t_where_names_binders_2 W)) (t_where_names_binders_3 W))
noncomputable def t_where_names_binders_5 (W : Wd) : TrS := (t_sns_assign 0 (t_snd_sub (t_snd_sub (t_snd_name 0) (t_snd_int 2)) (t_snd_int 0)))
noncomputable def t_where_names_binders_6 (W : Wd) : TrB := (t_snd_tor (t_snd_tplain (t_snd_callf W 28 (t_snd_cons (t_snd_name 0) (t_snd_cons (t_snd_str "where") t_snd_nil)))) (t_snd_tor (t_snd_tplain (t_snd_callf W 28 (t_snd_cons (t_snd_name 0) (t_snd_cons (t_snd_str "::") t_snd_nil)))) t_snd_tor0))
noncomputable def t_where_names_binders_7 (W : Wd) : TrS := (t_snb_cons (t_sns_for 2 (t_sni_val (t_snd_if (t_snd_tplain (t_snd_callf W 28 (t_snd_cons (t_snd_name 0) (t_snd_cons (t_snd_str "where") t_snd_nil)))) (t_snd_from1 (t_snd_sub (t_snd_name 0) (t_snd_int 2))) (t_snd_tuple t_snd_nil))) (t_where_names_binders_4 W)) (t_where_names_binders_5 W))
noncomputable def t_where_names_binders_8 (W : Wd) : TrS := (t_sns_ret (t_snd_name 1))
noncomputable def t_where_names_binders_9 (W : Wd) : TrS := (t_snb_cons (t_sns_while (t_where_names_binders_6 W) (t_where_names_binders_7 W)) (t_where_names_binders_8 W))
noncomputable def t_where_names_binders (W : Wd) : TrS := (t_snb_cons (t_sns_assign 1 (t_snd_listm t_snd_nil)) (t_where_names_binders_9 W))
theorem d_where_names_binders {W : Wd} {K : Frag} (hK : FK W K) (hB : Bu W) : SndB W (scOf (sel 45)) (["head", "found", "var"] : List Str) (bodyOf (sel 45)) (t_where_names_binders W) := (snb_cons (sns_assign (i := 1) (by kernel_rfl) (by exact snd_listm snd_nil)) (snb_cons (sns_while (snd_tor (snd_tplain (snd_callf (by kernel_rfl) (g_is_expr hK).1 (g_is_expr hK).2 rfl (snd_cons (snd_name (by kernel_rfl)) (snd_cons snd_str snd_nil)))) (snd_tor (snd_tplain (snd_callf (by kernel_rfl) (g_is_expr hK).1 (g_is_expr hK).2 rfl (snd_cons (snd_name (by kernel_rfl)) (snd_cons snd_str snd_nil)))) snd_tor0)) (snb_cons (sns_for (i := 2) (by kernel_rfl) (sni_val (snd_if (snd_tplain (snd_callf (by kernel_rfl) (g_is_expr hK).1 (g_is_expr hK).2 rfl (snd_cons (snd_name (by kernel_rfl)) (snd_cons snd_str snd_nil)))) (snd_from1 (snd_sub (snd_name (by kernel_rfl)) snd_int)) (by exact snd_tuple snd_nil))) (snb_cons (sns_while (snd_tand (snd_tnot (snd_tplain (snd_callf (by kernel_rfl) (g_is_sym hK).1 (g_is_sym hK).2 rfl (snd_cons (snd_name (by kernel_rfl)) snd_nil)))) (snd_tand (snd_tcmp (snd_callf (by kernel_rfl) (g_parts_of hK).1 (g_parts_of hK).2 rfl (snd_cons (snd_name (by kernel_rfl)) snd_nil)) (by exact snd_tuple snd_nil)) snd_tand0)) (snb_one (sns_assign (i := 2) (by kernel_rfl) (snd_if (snd_tplain (snd_callf (by kernel_rfl) (g_is_expr hK).1 (g_is_expr hK).2 rfl (snd_cons (snd_name (by kernel_rfl)) (snd_cons snd_str snd_nil)))) (snd_sub (snd_sub (snd_name (by kernel_rfl)) snd_int) snd_int) (snd_sub (snd_sub (snd_name (by kernel_rfl)) snd_int) snd_int))))) (snb_one (sns_expr (by kernel_rfl) (snd_extend (snd_name (by kernel_rfl)) (snd_if (snd_tplain (snd_callf (by kernel_rfl) (g_is_sym hK).1 (g_is_sym hK).2 rfl (snd_cons (snd_name (by kernel_rfl)) snd_nil))) (by exact snd_list (snd_cons (snd_sub (snd_name (by kernel_rfl)) snd_int) snd_nil)) (by exact snd_list snd_nil)) rfl rfl))))) (snb_one (sns_assign (i := 0) (by kernel_rfl) (snd_sub (snd_sub (snd_name (by kernel_rfl)) snd_int) snd_int))))) (snb_one (sns_ret (snd_name (by kernel_rfl))))))
noncomputable def t_renamed_locals (W : Wd) : TrS := (t_sns_ret (t_snd_meth W "body" 434 362 (t_snd_make W 434 341 (t_snd_cons (t_snd_name 1) t_snd_nil)) (t_snd_cons t_snd_dict0 (t_snd_cons (t_snd_name 0) (t_snd_cons (t_snd_int 0) t_snd_nil)))))
theorem d_renamed_locals {W : Wd} {K : Frag} (hK : FK W K) (hB : Bu W) : SndB W (scOf (sel 55)) (["tree", "supply"] : List Str) (bodyOf (sel 55)) (t_renamed_locals W) := (snb_one (sns_ret (snd_meth hK.inn (c_Renamer hK) (m_Renamer_body hK) (snd_make hK.inn (c_Renamer hK) (m_Renamer_init hK) (by kernel_rfl) (v_Renamer hK) (kp_Renamer hK) rfl (snd_cons (snd_name (by kernel_rfl)) snd_nil)) rfl (snd_cons snd_dict0 (snd_cons (snd_name (by kernel_rfl)) (snd_cons snd_int snd_nil))))))
noncomputable def t_law_tub_1 (W : Wd) : TrS := (t_sns_ret (t_snd_listm (t_snd_cons (t_snd_if (t_snd_tcmp .GtE (t_snd_name 3) (t_snd_bin .Pow (t_snd_int 10) (t_snd_int 15))) (t_snd_name 3) (t_snd_int 0)) (t_snd_cons (t_snd_bin .Mod (t_snd_bin .Add (t_snd_bin .Add (t_snd_bin .Add (t_snd_bin .Mult (t_snd_bin .Mod (t_snd_name 3) (t_snd_int 999917)) (t_snd_int 331)) (t_snd_bin .Mult (t_snd_int 59) (t_snd_name 1))) (t_snd_bin .Mult (t_snd_int 37) (t_snd_type (t_snd_cons (t_snd_cmp .Lt (t_snd_name 2) (t_snd_int 0)) t_snd_nil) p_int))) (t_snd_int 19)) (t_snd_int 65423)) (t_snd_cons (t_snd_int 0) t_snd_nil)))))
noncomputable def t_law_tub_2 (W : Wd) : TrS := (t_snb_cons (t_sns_assign 3 (t_snd_if (t_snd_tcmp .GtE (t_snd_name 2) (t_snd_int 0)) (t_snd_name 2) (t_snd_bin .Sub (t_snd_int 0) (t_snd_name 2)))) (t_law_tub_1 W))
noncomputable def t_law_tub (W : Wd) : TrS := (t_snb_cons (t_sns_assign 2 (t_snd_if (t_snd_tcmp .Lt (t_snd_name 1) (t_snd_builtin (t_snd_cons (t_snd_name 0) t_snd_nil) p_len)) (t_snd_sub (t_snd_name 0) (t_snd_name 1)) (t_snd_int 0))) (t_law_tub_2 W))
theorem d_law_tub {W : Wd} {K : Frag} (hK : FK W K) (hB : Bu W) : SndB W (scOf (sel 57)) (["script", "turn", "cell", "fill"] : List Str) (bodyOf (sel 57)) (t_law_tub W) := (snb_cons (sns_assign (i := 2) (by kernel_rfl) (snd_if (snd_tcmp (snd_name (by kernel_rfl)) (snd_builtin nat_len (by kernel_rfl) (n_len hK) hB.len_ rfl (snd_cons (snd_name (by kernel_rfl)) snd_nil))) (snd_sub (snd_name (by kernel_rfl)) (snd_name (by kernel_rfl))) snd_int)) (snb_cons (sns_assign (i := 3) (by kernel_rfl) (snd_if (snd_tcmp (snd_name (by kernel_rfl)) snd_int) (snd_name (by kernel_rfl)) (snd_bin snd_int (snd_name (by kernel_rfl))))) (snb_one (sns_ret (by exact snd_listm (snd_cons (snd_if (snd_tcmp (snd_name (by kernel_rfl)) (snd_bin snd_int snd_int)) (snd_name (by kernel_rfl)) snd_int) (snd_cons (snd_bin (snd_bin (snd_bin (snd_bin (snd_bin (snd_bin (snd_name (by kernel_rfl)) snd_int) snd_int) (snd_bin snd_int (snd_name (by kernel_rfl)))) (snd_bin snd_int (snd_type nat_int (by kernel_rfl) (n_int hK) hB.int_ rfl (snd_cons (snd_cmp (snd_name (by kernel_rfl)) snd_int) snd_nil)))) snd_int) snd_int) (snd_cons snd_int snd_nil))))))))
noncomputable def t_law_cup_1 (W : Wd) : TrS := (t_sns_ret (t_snd_name 2))
noncomputable def t_law_cup_2 (W : Wd) : TrS := (t_snb_cons (t_sns_assign_sub (t_snd_name 0) (t_snd_int 0) (t_snd_bin .FloorDiv (t_snd_sub (t_snd_name 0) (t_snd_int 0)) (t_snd_name 1))) (t_law_cup_1 W))
noncomputable def t_law_cup_3 (W : Wd) : TrS := (t_sns_ret (t_snd_bin .Mod (t_snd_bin .FloorDiv (t_snd_sub (t_snd_name 0) (t_snd_int 1)) (t_snd_int 5)) (t_snd_name 1)))
noncomputable def t_law_cup_4 (W : Wd) : TrS := (t_snb_cons (t_sns_assign_sub (t_snd_name 0) (t_snd_int 1) (t_snd_bin .Mod (t_snd_bin .Add (t_snd_bin .Mult (t_snd_sub (t_snd_name 0) (t_snd_int 1)) (t_snd_int 149)) (t_snd_int 3011)) (t_snd_int 65423))) (t_law_cup_3 W))
noncomputable def t_law_cup (W : Wd) : TrS := (t_snb_cons (t_sns_if (t_snd_tcmp .Gt (t_snd_sub (t_snd_name 0) (t_snd_int 0)) (t_snd_int 0)) (t_snb_cons (t_sns_assign 2 (t_snd_bin .Mod (t_snd_sub (t_snd_name 0) (t_snd_int 0)) (t_snd_name 1))) (t_law_cup_2 W)) t_snb_nil) (t_law_cup_4 W))
theorem d_law_cup {W : Wd} {K : Frag} (hK : FK W K) (hB : Bu W) : SndB W (scOf (sel 58)) (["tub", "many", "part"] : List Str) (bodyOf (sel 58)) (t_law_cup W) := (snb_cons (sns_if (snd_tcmp (snd_sub (snd_name (by kernel_rfl)) snd_int) snd_int) (snb_cons (sns_assign (i := 2) (by kernel_rfl) (snd_bin (snd_sub (snd_name (by kernel_rfl)) snd_int) (snd_name (by kernel_rfl)))) (snb_cons (sns_assign_sub (snd_bin (snd_sub (snd_name (by kernel_rfl)) snd_int) (snd_name (by kernel_rfl))) (snd_name (by kernel_rfl)) snd_int) (snb_one (sns_ret (snd_name (by kernel_rfl)))))) snb_nil) (snb_cons (sns_assign_sub (snd_bin (snd_bin (snd_bin (snd_sub (snd_name (by kernel_rfl)) snd_int) snd_int) snd_int) snd_int) (snd_name (by kernel_rfl)) snd_int) (snb_one (sns_ret (snd_bin (snd_bin (snd_sub (snd_name (by kernel_rfl)) snd_int) snd_int) (snd_name (by kernel_rfl)))))))
noncomputable def t_law_new_1 (W : Wd) : TrS := (t_sns_ret (t_snd_bin .Add (t_snd_str "n") (t_snd_type (t_snd_cons (t_snd_sub (t_snd_name 0) (t_snd_int 2)) t_snd_nil) p_str)))
noncomputable def t_law_new (W : Wd) : TrS := (t_snb_cons (t_sns_assign_sub (t_snd_name 0) (t_snd_int 2) (t_snd_bin .Add (t_snd_sub (t_snd_name 0) (t_snd_int 2)) (t_snd_int 1))) (t_law_new_1 W))
theorem d_law_new {W : Wd} {K : Frag} (hK : FK W K) (hB : Bu W) : SndB W (scOf (sel 59)) (["tub"] : List Str) (bodyOf (sel 59)) (t_law_new W) := (snb_cons (sns_assign_sub (snd_bin (snd_sub (snd_name (by kernel_rfl)) snd_int) snd_int) (snd_name (by kernel_rfl)) snd_int) (snb_one (sns_ret (snd_bin snd_str (snd_type nat_str (by kernel_rfl) (n_str hK) hB.str_ rfl (snd_cons (snd_sub (snd_name (by kernel_rfl)) snd_int) snd_nil))))))
noncomputable def t_law_argument_1 (W : Wd) : TrS := (t_sns_rett (t_snd_cons (t_snd_tuple (t_snd_cons (t_snd_str "expr") (t_snd_cons (t_snd_str "kw") (t_snd_cons (t_snd_tuple (t_snd_cons (t_snd_tuple (t_snd_cons (t_snd_str "sym") (t_snd_cons (t_snd_name 4) t_snd_nil))) (t_snd_cons (t_snd_tuple (t_snd_cons (t_snd_str "sym") (t_snd_cons (t_snd_name 5) t_snd_nil))) t_snd_nil))) t_snd_nil)))) (t_snd_cons (t_snd_list (t_snd_cons (t_snd_name 4) t_snd_nil)) t_snd_nil)))
noncomputable def t_law_argument_2 (W : Wd) : TrS := (t_sns_rett (t_snd_cons (t_snd_tuple (t_snd_cons (t_snd_str "expr") (t_snd_cons (t_snd_str "tuple") (t_snd_cons (t_snd_tuple (t_snd_cons (t_snd_tuple (t_snd_cons (t_snd_str "sym") (t_snd_cons (t_snd_name 4) t_snd_nil))) (t_snd_cons (t_snd_tuple (t_snd_cons (t_snd_str "sym") (t_snd_cons (t_snd_name 6) t_snd_nil))) t_snd_nil))) t_snd_nil)))) (t_snd_cons (t_snd_list (t_snd_cons (t_snd_name 4) (t_snd_cons (t_snd_name 6) t_snd_nil))) t_snd_nil)))
noncomputable def t_law_argument_3 (W : Wd) : TrS := (t_sns_rett (t_snd_cons (t_snd_tuple (t_snd_cons (t_snd_str "sym") (t_snd_cons (t_snd_name 4) t_snd_nil))) (t_snd_cons (t_snd_list (t_snd_cons (t_snd_name 4) t_snd_nil)) t_snd_nil)))
noncomputable def t_law_argument_4 (W : Wd) : TrS := (t_snb_cons (t_sns_if (t_snd_tcmp .Eq (t_snd_name 3) (t_snd_int 4)) (t_snb_cons (t_sns_assign 6 (t_snd_callf W 466 (t_snd_cons (t_snd_name 0) t_snd_nil))) (t_law_argument_2 W)) t_snb_nil) (t_law_argument_3 W))
noncomputable def t_law_argument_5 (W : Wd) : TrS := (t_snb_cons (t_sns_if (t_snd_tand (t_snd_tcmp .Eq (t_snd_name 3) (t_snd_int 3)) (t_snd_tand (t_snd_tplain (t_snd_name 2)) t_snd_tand0)) (t_sns_rett (t_snd_cons (t_snd_tuple (t_snd_cons (t_snd_str "expr") (t_snd_cons (t_snd_str "...") (t_snd_cons (t_snd_tuple (t_snd_cons (t_snd_tuple (t_snd_cons (t_snd_str "sym") (t_snd_cons (t_snd_name 4) t_snd_nil))) t_snd_nil)) t_snd_nil)))) (t_snd_cons (t_snd_list (t_snd_cons (t_snd_name 4) t_snd_nil)) t_snd_nil))) t_snb_nil) (t_law_argument_4 W))
noncomputable def t_law_argument_6 (W : Wd) : TrS := (t_snb_cons (t_sns_if (t_snd_tcmp .Eq (t_snd_name 3) (t_snd_int 2)) (t_snb_cons (t_sns_assign 5 (t_snd_if (t_snd_tcmp .NotEq (t_snd_name 1) (t_snd_list t_snd_nil)) (t_snd_sub (t_snd_name 1) (t_snd_callf W 459 (t_snd_cons (t_snd_name 0) (t_snd_cons (t_snd_builtin (t_snd_cons (t_snd_name 1) t_snd_nil) p_len) t_snd_nil)))) (t_snd_str "u"))) (t_law_argument_1 W)) t_snb_nil) (t_law_argument_5 W))
noncomputable def t_law_argument_7 (W : Wd) : TrS := (t_snb_cons (t_sns_if (t_snd_tcmp .Eq (t_snd_name 3) (t_snd_int 1)) (t_sns_rett (t_snd_cons (t_snd_tuple (t_snd_cons (t_snd_str "expr") (t_snd_cons (t_snd_str "::") (t_snd_cons (t_snd_tuple (t_snd_cons (t_snd_tuple (t_snd_cons (t_snd_str "sym") (t_snd_cons (t_snd_name 4) t_snd_nil))) (t_snd_cons (t_snd_tuple (t_snd_cons (t_snd_str "sym") (t_snd_cons (t_snd_str "T") t_snd_nil))) t_snd_nil))) t_snd_nil)))) (t_snd_cons (t_snd_list (t_snd_cons (t_snd_name 4) t_snd_nil)) t_snd_nil))) t_snb_nil) (t_law_argument_6 W))
noncomputable def t_law_argument_8 (W : Wd) : TrS := (t_snb_cons (t_sns_assign 4 (t_snd_callf W 466 (t_snd_cons (t_snd_name 0) t_snd_nil))) (t_law_argument_7 W))
noncomputable def t_law_argument (W : Wd) : TrS := (t_snb_cons (t_sns_assign 3 (t_snd_callf W 459 (t_snd_cons (t_snd_name 0) (t_snd_cons (t_snd_int 6) t_snd_nil)))) (t_law_argument_8 W))
theorem d_law_argument {W : Wd} {K : Frag} (hK : FK W K) (hB : Bu W) : SndB W (scOf (sel 60)) (["tub", "ahead", "is_last", "way", "name", "other", "more"] : List Str) (bodyOf (sel 60)) (t_law_argument W) := (snb_cons (sns_assign (i := 3) (by kernel_rfl) (snd_callf (by kernel_rfl) (g_law_cup hK).1 (g_law_cup hK).2 rfl (snd_cons (snd_name (by kernel_rfl)) (snd_cons snd_int snd_nil)))) (snb_cons (sns_assign (i := 4) (by kernel_rfl) (snd_callf (by kernel_rfl) (g_law_new hK).1 (g_law_new hK).2 rfl (snd_cons (snd_name (by kernel_rfl)) snd_nil))) (snb_cons (sns_if (snd_tcmp (snd_name (by kernel_rfl)) snd_int) (snb_one (sns_rett (snd_cons (by exact snd_tuple (snd_cons snd_str (snd_cons snd_str (snd_cons (by exact snd_tuple (snd_cons (by exact snd_tuple (snd_cons snd_str (snd_cons (snd_name (by kernel_rfl)) snd_nil))) (snd_cons (by exact snd_tuple (snd_cons snd_str (snd_cons snd_str snd_nil))) snd_nil))) snd_nil)))) (snd_cons (by exact snd_list (snd_cons (snd_name (by kernel_rfl)) snd_nil)) snd_nil)))) snb_nil) (snb_cons (sns_if (snd_tcmp (snd_name (by kernel_rfl)) snd_int) (snb_cons (sns_assign (i := 5) (by kernel_rfl) (snd_if (snd_tcmp (snd_name (by kernel_rfl)) (by exact snd_list snd_nil)) (snd_sub (snd_name (by kernel_rfl)) (snd_callf (by kernel_rfl) (g_law_cup hK).1 (g_law_cup hK).2 rfl (snd_cons (snd_name (by kernel_rfl)) (snd_cons (snd_builtin nat_len (by kernel_rfl) (n_len hK) hB.len_ rfl (snd_cons (snd_name (by kernel_rfl)) snd_nil)) snd_nil)))) snd_str)) (snb_one (sns_rett (snd_cons (by exact snd_tuple (snd_cons snd_str (snd_cons snd_str (snd_cons (by exact snd_tuple (snd_cons (by exact snd_tuple (snd_cons snd_str (snd_cons (snd_name (by kernel_rfl)) snd_nil))) (snd_cons (by exact snd_tuple (snd_cons snd_str (snd_cons (snd_name (by kernel_rfl)) snd_nil))) snd_nil))) snd_nil)))) (snd_cons (by exact snd_list (snd_cons (snd_name (by kernel_rfl)) snd_nil)) snd_nil))))) snb_nil) (snb_cons (sns_if (snd_tand (snd_tcmp (snd_name (by kernel_rfl)) snd_int) (snd_tand (snd_tplain (snd_name (by kernel_rfl))) snd_tand0)) (snb_one (sns_rett (snd_cons (by exact snd_tuple (snd_cons snd_str (snd_cons snd_str (snd_cons (by exact snd_tuple (snd_cons (by exact snd_tuple (snd_cons snd_str (snd_cons (snd_name (by kernel_rfl)) snd_nil))) snd_nil)) snd_nil)))) (snd_cons (by exact snd_list (snd_cons (snd_name (by kernel_rfl)) snd_nil)) snd_nil)))) snb_nil) (snb_cons (sns_if (snd_tcmp (snd_name (by kernel_rfl)) snd_int) (snb_cons (sns_assign (i := 6) (by kernel_rfl) (snd_callf (by kernel_rfl) (g_law_new hK).1 (g_law_new hK).2 rfl (snd_cons (snd_name (by kernel_rfl)) snd_nil))) (snb_one (sns_rett (snd_cons (by exact snd_tuple (snd_cons snd_str (snd_cons snd_str (snd_cons (by exact snd_tuple (snd_cons (by exact snd_tuple (snd_cons snd_str (snd_cons (snd_name (by kernel_rfl)) snd_nil))) (snd_cons (by exact snd_tuple (snd_cons snd_str (snd_cons (snd_name (by kernel_rfl)) snd_nil))) snd_nil))) snd_nil)))) (snd_cons (by exact snd_list (snd_cons (snd_name (by kernel_rfl)) (snd_cons (snd_name (by kernel_rfl)) snd_nil))) snd_nil))))) snb_nil) (snb_one (sns_rett (snd_cons (by exact snd_tuple (snd_cons snd_str (snd_cons (snd_name (by kernel_rfl)) snd_nil))) (snd_cons (by exact snd_list (snd_cons (snd_name (by kernel_rfl)) snd_nil)) snd_nil))))))))))
noncomputable def t_law_arguments_1 (W : Wd) : TrS := (t_sns_assign_tt ["arguments", "names"] [4, 5] (t_snd_cons (t_snd_bin .Add (t_snd_name 4) (t_snd_list (t_snd_cons (t_snd_name 7) t_snd_nil))) (t_snd_cons (t_snd_bin .Add (t_snd_name 5) (t_snd_name 8)) t_snd_nil)) true)
noncomputable def t_law_arguments_2 (W : Wd) : TrS := (t_snb_cons (t_sns_assign_tv ["one", "some"] [7, 8] (t_snd_callf W 473 (t_snd_cons (t_snd_name 0) (t_snd_cons (t_snd_name 5) (t_snd_cons (t_snd_cmp .Eq (t_snd_name 1) (t_snd_bin .Sub (t_snd_name 6) (t_snd_int 1))) t_snd_nil))))) (t_law_arguments_1 W))
noncomputable def t_law_arguments_3 (W : Wd) : TrS := (t_sns_rett (t_snd_cons (t_snd_name 4) (t_snd_cons (t_snd_name 5) (t_snd_cons (t_snd_name 2) t_snd_nil))))
noncomputable def t_law_arguments_4 (W : Wd) : TrS := (t_snb_cons (t_sns_for 1 (t_sni_range (t_snd_name 6)) (t_law_arguments_2 W)) (t_law_arguments_3 W))
noncomputable def t_law_arguments_5 (W : Wd) : TrS := (t_snb_cons (t_sns_assign 6 (t_snd_callf W 459 (t_snd_cons (t_snd_name 0) (t_snd_cons (t_snd_int 5) t_snd_nil)))) (t_law_arguments_4 W))
noncomputable def t_law_arguments_6 (W : Wd) : TrS := (t_snb_cons (t_sns_assign_tt ["arguments", "names"] [4, 5] (t_snd_cons (t_snd_if (t_snd_tcmp .NotEq (t_snd_name 3) (t_snd_list t_snd_nil)) (t_snd_list (t_snd_cons (t_snd_tuple (t_snd_cons (t_snd_str "expr") (t_snd_cons (t_snd_str "parameters") (t_snd_cons (t_snd_type (t_snd_cons (t_snd_name 3) t_snd_nil) p_tuple) t_snd_nil)))) t_snd_nil)) (t_snd_list t_snd_nil)) (t_snd_cons (t_snd_list t_snd_nil) t_snd_nil)) true) (t_law_arguments_5 W))
noncomputable def t_law_arguments_7 (W : Wd) : TrS := (t_snb_cons (t_sns_assign_comp [] 3 (t_sni_val (t_snd_name 2)) t_sndf_nil (t_snd_tuple (t_snd_cons (t_snd_str "expr") (t_snd_cons (t_snd_str "kw") (t_snd_cons (t_snd_tuple (t_snd_cons (t_snd_tuple (t_snd_cons (t_snd_str "sym") (t_snd_cons (t_snd_name 0) t_snd_nil))) (t_snd_cons (t_snd_tuple (t_snd_cons (t_snd_str "int") (t_snd_cons (t_snd_int 2) t_snd_nil))) t_snd_nil))) t_snd_nil))))) (t_law_arguments_6 W))
noncomputable def t_law_arguments (W : Wd) : TrS := (t_snb_cons (t_sns_assign_comp [("tub", 0)] 2 (t_sni_range (t_snd_callf W 459 (t_snd_cons (t_snd_name 0) (t_snd_cons (t_snd_int 3) t_snd_nil)))) t_sndf_nil (t_snd_callf W 466 (t_snd_cons (t_snd_name 1) t_snd_nil))) (t_law_arguments_7 W))
theorem d_law_arguments {W : Wd} {K : Frag} (hK : FK W K) (hB : Bu W) : SndB W (scOf (sel 61)) (["tub", "turn", "keywords", "rows", "arguments", "names", "many", "one", "some"] : List Str) (bodyOf (sel 61)) (t_law_arguments W) := (snb_cons (sns_assign_comp (i := 2) [("tub", 0)] (by kernel_rfl) (by kernel_rfl) (sni_range (by kernel_rfl) (n_range hK) hB.range_ rfl (snd_callf (by kernel_rfl) (g_law_cup hK).1 (g_law_cup hK).2 rfl (snd_cons (snd_name (by kernel_rfl)) (snd_cons snd_int snd_nil)))) sndf_nil (snd_callf (by kernel_rfl) (g_law_new hK).1 (g_law_new hK).2 rfl (snd_cons (snd_name (by kernel_rfl)) snd_nil)) (by kernel_rfl)) (snb_cons (sns_assign_comp (i := 3) [] (by kernel_rfl) (by kernel_rfl) (sni_val (snd_name (by kernel_rfl))) sndf_nil (by exact snd_tuple (snd_cons snd_str (snd_cons snd_str (snd_cons (by exact snd_tuple (snd_cons (by exact snd_tuple (snd_cons snd_str (snd_cons (snd_name (by kernel_rfl)) snd_nil))) (snd_cons (by exact snd_tuple (snd_cons snd_str (snd_cons snd_int snd_nil))) snd_nil))) snd_nil)))) (by kernel_rfl)) (snb_cons (sns_assign_tt ["arguments", "names"] [4, 5] (by kernel_rfl) (by kernel_rfl) (by exact ⟨⟨_, rfl⟩, ⟨⟨_, rfl⟩, rfl⟩⟩) (by kernel_rfl) (sw := true) (by kernel_rfl) (by kernel_rfl) (snd_cons (snd_if (snd_tcmp (snd_name (by kernel_rfl)) (by exact snd_list snd_nil)) (by exact snd_list (snd_cons (by exact snd_tuple (snd_cons snd_str (snd_cons snd_str (snd_cons (snd_type nat_tuple (by kernel_rfl) (n_tuple hK) hB.tuple_ rfl (snd_cons (snd_name (by kernel_rfl)) snd_nil)) snd_nil)))) snd_nil)) (by exact snd_list snd_nil)) (snd_cons (by exact snd_list snd_nil) snd_nil)) rfl) (snb_cons (sns_assign (i := 6) (by kernel_rfl) (snd_callf (by kernel_rfl) (g_law_cup hK).1 (g_law_cup hK).2 rfl (snd_cons (snd_name (by kernel_rfl)) (snd_cons snd_int snd_nil)))) (snb_cons (sns_for (i := 1) (by kernel_rfl) (sni_range (by kernel_rfl) (n_range hK) hB.range_ rfl (snd_name (by kernel_rfl))) (snb_cons (sns_assign_tv ["one", "some"] [7, 8] (by exact ⟨⟨_, rfl⟩, ⟨⟨_, rfl⟩, rfl⟩⟩) (by kernel_rfl) (snd_callf (by kernel_rfl) (g_law_argument hK).1 (g_law_argument hK).2 rfl (snd_cons (snd_name (by kernel_rfl)) (snd_cons (snd_name (by kernel_rfl)) (snd_cons (snd_cmp (snd_name (by kernel_rfl)) (snd_bin (snd_name (by kernel_rfl)) snd_int)) snd_nil))))) (snb_one (sns_assign_tt ["arguments", "names"] [4, 5] (by kernel_rfl) (by kernel_rfl) (by exact ⟨⟨_, rfl⟩, ⟨⟨_, rfl⟩, rfl⟩⟩) (by kernel_rfl) (sw := true) (by kernel_rfl) (by kernel_rfl) (snd_cons (snd_bin (snd_name (by kernel_rfl)) (by exact snd_list (snd_cons (snd_name (by kernel_rfl)) snd_nil))) (snd_cons (snd_bin (snd_name (by kernel_rfl)) (snd_name (by kernel_rfl))) snd_nil)) rfl)))) (snb_one (sns_rett (snd_cons (snd_name (by kernel_rfl)) (snd_cons (snd_name (by kernel_rfl)) (snd_cons (snd_name (by kernel_rfl)) snd_nil))))))))))
noncomputable def t_law_bound (W : Wd) : TrS := (t_sns_ret (t_snd_sub (t_snd_list (t_snd_cons (t_snd_tuple (t_snd_cons (t_snd_str "sym") (t_snd_cons (t_snd_name 1) t_snd_nil))) (t_snd_cons (t_snd_tuple (t_snd_cons (t_snd_str "expr") (t_snd_cons (t_snd_str "<:") (t_snd_cons (t_snd_tuple (t_snd_cons (t_snd_tuple (t_snd_cons (t_snd_str "sym") (t_snd_cons (t_snd_name 1) t_snd_nil))) (t_snd_cons (t_snd_tuple (t_snd_cons (t_snd_str "sym") (t_snd_cons (t_snd_str "U") t_snd_nil))) t_snd_nil))) t_snd_nil)))) (t_snd_cons (t_snd_tuple (t_snd_cons (t_snd_str "expr") (t_snd_cons (t_snd_str ">:") (t_snd_cons (t_snd_tuple (t_snd_cons (t_snd_tuple (t_snd_cons (t_snd_str "sym") (t_snd_cons (t_snd_name 1) t_snd_nil))) (t_snd_cons (t_snd_tuple (t_snd_cons (t_snd_str "sym") (t_snd_cons (t_snd_str "U") t_snd_nil))) t_snd_nil))) t_snd_nil)))) (t_snd_cons (t_snd_tuple (t_snd_cons (t_snd_str "expr") (t_snd_cons (t_snd_str "comparison") (t_snd_cons (t_snd_tuple (t_snd_cons (t_snd_tuple (t_snd_cons (t_snd_str "sym") (t_snd_cons (t_snd_str "L") t_snd_nil))) (t_snd_cons (t_snd_tuple (t_snd_cons (t_snd_str "sym") (t_snd_cons (t_snd_str "<:") t_snd_nil))) (t_snd_cons (t_snd_tuple (t_snd_cons (t_snd_str "sym") (t_snd_cons (t_snd_name 1) t_snd_nil))) (t_snd_cons (t_snd_tuple (t_snd_cons (t_snd_str "sym") (t_snd_cons (t_snd_str "<:") t_snd_nil))) (t_snd_cons (t_snd_tuple (t_snd_cons (t_snd_str "sym") (t_snd_cons (t_snd_str "U") t_snd_nil))) t_snd_nil)))))) t_snd_nil)))) t_snd_nil))))) (t_snd_callf W 459 (t_snd_cons (t_snd_name 0) (t_snd_cons (t_snd_int 4) t_snd_nil)))))
theorem d_law_bound {W : Wd} {K : Frag} (hK : FK W K) (hB : Bu W) : SndB W (scOf (sel 62)) (["tub", "name"] : List Str) (bodyOf (sel 62)) (t_law_bound W) := (snb_one (sns_ret (snd_sub (by exact snd_list (snd_cons (by exact snd_tuple (snd_cons snd_str (snd_cons (snd_name (by kernel_rfl)) snd_nil))) (snd_cons (by exact snd_tuple (snd_cons snd_str (snd_cons snd_str (snd_cons (by exact snd_tuple (snd_cons (by exact snd_tuple (snd_cons snd_str (snd_cons (snd_name (by kernel_rfl)) snd_nil))) (snd_cons (by exact snd_tuple (snd_cons snd_str (snd_cons snd_str snd_nil))) snd_nil))) snd_nil)))) (snd_cons (by exact snd_tuple (snd_cons snd_str (snd_cons snd_str (snd_cons (by exact snd_tuple (snd_cons (by exact snd_tuple (snd_cons snd_str (snd_cons (snd_name (by kernel_rfl)) snd_nil))) (snd_cons (by exact snd_tuple (snd_cons snd_str (snd_cons snd_str snd_nil))) snd_nil))) snd_nil)))) (snd_cons (by exact snd_tuple (snd_cons snd_str (snd_cons snd_str (snd_cons (by exact snd_tuple (snd_cons (by exact snd_tuple (snd_cons snd_str (snd_cons snd_str snd_nil))) (snd_cons (by exact snd_tuple (snd_cons snd_str (snd_cons snd_str snd_nil))) (snd_cons (by exact snd_tuple (snd_cons snd_str (snd_cons (snd_name (by kernel_rfl)) snd_nil))) (snd_cons (by exact snd_tuple (snd_cons snd_str (snd_cons snd_str snd_nil))) (snd_cons (by exact snd_tuple (snd_cons snd_str (snd_cons snd_str snd_nil))) snd_nil)))))) snd_nil)))) snd_nil))))) (snd_callf (by kernel_rfl) (g_law_cup hK).1 (g_law_cup hK).2 rfl (snd_cons (snd_name (by kernel_rfl)) (snd_cons snd_int snd_nil))))))
noncomputable def t_law_function_1 (W : Wd) : TrS := (t_sns_rett (t_snd_cons (t_snd_tuple (t_snd_cons (t_snd_str "expr") (t_snd_cons (t_snd_str "->") (t_snd_cons (t_snd_tuple (t_snd_cons (t_snd_tuple (t_snd_cons (t_snd_str "expr") (t_snd_cons (t_snd_str "tuple") (t_snd_cons (t_snd_type (t_snd_cons (t_snd_name 1) t_snd_nil) p_tuple) t_snd_nil)))) (t_snd_cons (t_snd_name 5) t_snd_nil))) t_snd_nil)))) (t_snd_cons (t_snd_name 2) (t_snd_cons (t_snd_name 3) (t_snd_cons (t_snd_list t_snd_nil) t_snd_nil)))))
noncomputable def t_law_function_2 (W : Wd) : TrS := (t_sns_assign 6 (t_snd_tuple (t_snd_cons (t_snd_str "expr") (t_snd_cons (t_snd_str "::") (t_snd_cons (t_snd_tuple (t_snd_cons (t_snd_tuple (t_snd_cons (t_snd_str "sym") (t_snd_cons (t_snd_sub (t_snd_name 2) (t_snd_int 0)) t_snd_nil))) (t_snd_cons (t_snd_tuple (t_snd_cons (t_snd_str "sym") (t_snd_cons (t_snd_str "P") t_snd_nil))) t_snd_nil))) t_snd_nil)))))
noncomputable def t_law_function_3 (W : Wd) : TrS := (t_sns_assign_tt ["head", "wheres"] [7, 8] (t_snd_cons (t_snd_tuple (t_snd_cons (t_snd_str "expr") (t_snd_cons (t_snd_str "where") (t_snd_cons (t_snd_tuple (t_snd_cons (t_snd_name 7) (t_snd_cons (t_snd_callf W 485 (t_snd_cons (t_snd_name 0) (t_snd_cons (t_snd_name 4) t_snd_nil))) t_snd_nil))) t_snd_nil)))) (t_snd_cons (t_snd_bin .Add (t_snd_list (t_snd_cons (t_snd_name 4) t_snd_nil)) (t_snd_name 8)) t_snd_nil)) true)
noncomputable def t_law_function_4 (W : Wd) : TrS := (t_snb_cons (t_sns_assign 4 (t_snd_callf W 466 (t_snd_cons (t_snd_name 0) t_snd_nil))) (t_law_function_3 W))
noncomputable def t_law_function_5 (W : Wd) : TrS := (t_sns_rett (t_snd_cons (t_snd_tuple (t_snd_cons (t_snd_str "expr") (t_snd_cons (t_snd_str "function") (t_snd_cons (t_snd_tuple (t_snd_cons (t_snd_name 7) (t_snd_cons (t_snd_name 5) t_snd_nil))) t_snd_nil)))) (t_snd_cons (t_snd_name 2) (t_snd_cons (t_snd_name 3) (t_snd_cons (t_snd_name 8) t_snd_nil)))))
noncomputable def t_law_function_6 (W : Wd) : TrS := (t_snb_cons (t_sns_assign 5 (t_snd_tuple (t_snd_cons (t_snd_str "expr") (t_snd_cons (t_snd_str "tuple") (t_snd_cons (t_snd_type (t_snd_cons (t_snd_comp [] (t_sni_val (t_snd_bin .Add (t_snd_bin .Add (t_snd_bin .Add (t_snd_name 2) (t_snd_name 3)) (t_snd_name 8)) (t_snd_list (t_snd_cons (t_snd_str "u") (t_snd_cons (t_snd_str "T") t_snd_nil))))) t_sndf_nil (t_snd_tuple (t_snd_cons (t_snd_str "sym") (t_snd_cons (t_snd_name 0) t_snd_nil)))) t_snd_nil) p_tuple) t_snd_nil))))) (t_law_function_5 W))
noncomputable def t_law_function_7 (W : Wd) : TrS := (t_snb_cons (t_sns_for 9 (t_sni_range (t_snd_callf W 459 (t_snd_cons (t_snd_name 0) (t_snd_cons (t_snd_int 3) t_snd_nil)))) (t_law_function_4 W)) (t_law_function_6 W))
noncomputable def t_law_function_8 (W : Wd) : TrS := (t_snb_cons (t_sns_if (t_snd_tcmp .Eq (t_snd_callf W 459 (t_snd_cons (t_snd_name 0) (t_snd_cons (t_snd_int 3) t_snd_nil))) (t_snd_int 0)) (t_sns_assign 7 (t_snd_tuple (t_snd_cons (t_snd_str "expr") (t_snd_cons (t_snd_str "::") (t_snd_cons (t_snd_tuple (t_snd_cons (t_snd_name 7) (t_snd_cons (t_snd_tuple (t_snd_cons (t_snd_str "sym") (t_snd_cons (t_snd_str "R") t_snd_nil))) t_snd_nil))) t_snd_nil))))) t_snb_nil) (t_law_function_7 W))
noncomputable def t_law_function_9 (W : Wd) : TrS := (t_snb_cons (t_sns_assign_tt ["head", "wheres"] [7, 8] (t_snd_cons (t_snd_tuple (t_snd_cons (t_snd_str "expr") (t_snd_cons (t_snd_str "call") (t_snd_cons (t_snd_bin .Add (t_snd_tuple (t_snd_cons (t_snd_name 6) t_snd_nil)) (t_snd_type (t_snd_cons (t_snd_name 1) t_snd_nil) p_tuple)) t_snd_nil)))) (t_snd_cons (t_snd_list t_snd_nil) t_snd_nil)) true) (t_law_function_8 W))
noncomputable def t_law_function_10 (W : Wd) : TrS := (t_snb_cons (t_sns_if (t_snd_tcmp .Eq (t_snd_callf W 459 (t_snd_cons (t_snd_name 0) (t_snd_cons (t_snd_int 4) t_snd_nil))) (t_snd_int 0)) (t_snb_cons (t_sns_assign 2 (t_snd_bin .Add (t_snd_list (t_snd_cons (t_snd_callf W 466 (t_snd_cons (t_snd_name 0) t_snd_nil)) t_snd_nil)) (t_snd_name 2))) (t_law_function_2 W)) t_snb_nil) (t_law_function_9 W))
noncomputable def t_law_function_11 (W : Wd) : TrS := (t_snb_cons (t_sns_assign 6 (t_snd_tuple (t_snd_cons (t_snd_str "sym") (t_snd_cons (t_snd_str "f") t_snd_nil)))) (t_law_function_10 W))
noncomputable def t_law_function_12 (W : Wd) : TrS := (t_snb_cons (t_sns_if (t_snd_tcmp .Eq (t_snd_callf W 459 (t_snd_cons (t_snd_name 0) (t_snd_cons (t_snd_int 4) t_snd_nil))) (t_snd_int 0)) (t_snb_cons (t_sns_assign 5 (t_snd_tuple (t_snd_cons (t_snd_str "expr") (t_snd_cons (t_snd_str "tuple") (t_snd_cons (t_snd_type (t_snd_cons (t_snd_comp [] (t_sni_val (t_snd_bin .Add (t_snd_bin .Add (t_snd_name 2) (t_snd_name 3)) (t_snd_list (t_snd_cons (t_snd_str "u") t_snd_nil)))) t_sndf_nil (t_snd_tuple (t_snd_cons (t_snd_str "sym") (t_snd_cons (t_snd_name 0) t_snd_nil)))) t_snd_nil) p_tuple) t_snd_nil))))) (t_law_function_1 W)) t_snb_nil) (t_law_function_11 W))
noncomputable def t_law_function (W : Wd) : TrS := (t_snb_cons (t_sns_assign_tv ["arguments", "names", "keywords"] [1, 2, 3] (t_snd_callf W 478 (t_snd_cons (t_snd_name 0) t_snd_nil))) (t_law_function_12 W))
theorem d_law_function {W : Wd} {K : Frag} (hK : FK W K) (hB : Bu W) : SndB W (scOf (sel 63)) (["tub", "arguments", "names", "keywords", "name", "body", "callee", "head", "wheres", "turn"] : List Str) (bodyOf (sel 63)) (t_law_function W) := (snb_cons (sns_assign_tv ["arguments", "names", "keywords"] [1, 2, 3] (by exact ⟨⟨_, rfl⟩, ⟨⟨_, rfl⟩, ⟨⟨_, rfl⟩, rfl⟩⟩⟩) (by kernel_rfl) (snd_callf (by kernel_rfl) (g_law_arguments hK).1 (g_law_arguments hK).2 rfl (snd_cons (snd_name (by kernel_rfl)) snd_nil))) (snb_cons (sns_if (snd_tcmp (snd_callf (by kernel_rfl) (g_law_cup hK).1 (g_law_cup hK).2 rfl (snd_cons (snd_name (by kernel_rfl)) (snd_cons snd_int snd_nil))) snd_int) (snb_cons (sns_assign (i := 5) (by kernel_rfl) (by exact snd_tuple (snd_cons snd_str (snd_cons snd_str (snd_cons (snd_type nat_tuple (by kernel_rfl) (n_tuple hK) hB.tuple_ rfl (snd_cons (snd_comp [] (by kernel_rfl) (sni_val (snd_bin (snd_bin (snd_name (by kernel_rfl)) (snd_name (by kernel_rfl))) (by exact snd_list (snd_cons snd_str snd_nil)))) sndf_nil (by exact snd_tuple (snd_cons snd_str (snd_cons (snd_name (by kernel_rfl)) snd_nil)))) snd_nil)) snd_nil))))) (snb_one (sns_rett (snd_cons (by exact snd_tuple (snd_cons snd_str (snd_cons snd_str (snd_cons (by exact snd_tuple (snd_cons (by exact snd_tuple (snd_cons snd_str (snd_cons snd_str (snd_cons (snd_type nat_tuple (by kernel_rfl) (n_tuple hK) hB.tuple_ rfl (snd_cons (snd_name (by kernel_rfl)) snd_nil)) snd_nil)))) (snd_cons (snd_name (by kernel_rfl)) snd_nil))) snd_nil)))) (snd_cons (snd_name (by kernel_rfl)) (snd_cons (snd_name (by kernel_rfl)) (snd_cons (by exact snd_list snd_nil) snd_nil))))))) snb_nil) (snb_cons (sns_assign (i := 6) (by kernel_rfl) (by exact snd_tuple (snd_cons snd_str (snd_cons snd_str snd_nil)))) (snb_cons (sns_if (snd_tcmp (snd_callf (by kernel_rfl) (g_law_cup hK).1 (g_law_cup hK).2 rfl (snd_cons (snd_name (by kernel_rfl)) (snd_cons snd_int snd_nil))) snd_int) (snb_cons (sns_assign (i := 2) (by kernel_rfl) (snd_bin (by exact snd_list (snd_cons (snd_callf (by kernel_rfl) (g_law_new hK).1 (g_law_new hK).2 rfl (snd_cons (snd_name (by kernel_rfl)) snd_nil)) snd_nil)) (snd_name (by kernel_rfl)))) (snb_one (sns_assign (i := 6) (by kernel_rfl) (by exact snd_tuple (snd_cons snd_str (snd_cons snd_str (snd_cons (by exact snd_tuple (snd_cons (by exact snd_tuple (snd_cons snd_str (snd_cons (snd_sub (snd_name (by kernel_rfl)) snd_int) snd_nil))) (snd_cons (by exact snd_tuple (snd_cons snd_str (snd_cons snd_str snd_nil))) snd_nil))) snd_nil))))))) snb_nil) (snb_cons (sns_assign_tt ["head", "wheres"] [7, 8] (by kernel_rfl) (by kernel_rfl) (by exact ⟨⟨_, rfl⟩, ⟨⟨_, rfl⟩, rfl⟩⟩) (by kernel_rfl) (sw := true) (by kernel_rfl) (by kernel_rfl) (snd_cons (by exact snd_tuple (snd_cons snd_str (snd_cons snd_str (snd_cons (snd_bin (by exact snd_tuple (snd_cons (snd_name (by kernel_rfl)) snd_nil)) (snd_type nat_tuple (by kernel_rfl) (n_tuple hK) hB.tuple_ rfl (snd_cons (snd_name (by kernel_rfl)) snd_nil))) snd_nil)))) (snd_cons (by exact snd_list snd_nil) snd_nil)) rfl) (snb_cons (sns_if (snd_tcmp (snd_callf (by kernel_rfl) (g_law_cup hK).1 (g_law_cup hK).2 rfl (snd_cons (snd_name (by kernel_rfl)) (snd_cons snd_int snd_nil))) snd_int) (snb_one (sns_assign (i := 7) (by kernel_rfl) (by exact snd_tuple (snd_cons snd_str (snd_cons snd_str (snd_cons (by exact snd_tuple (snd_cons (snd_name (by kernel_rfl)) (snd_cons (by exact snd_tuple (snd_cons snd_str (snd_cons snd_str snd_nil))) snd_nil))) snd_nil)))))) snb_nil) (snb_cons (sns_for (i := 9) (by kernel_rfl) (sni_range (by kernel_rfl) (n_range hK) hB.range_ rfl (snd_callf (by kernel_rfl) (g_law_cup hK).1 (g_law_cup hK).2 rfl (snd_cons (snd_name (by kernel_rfl)) (snd_cons snd_int snd_nil)))) (snb_cons (sns_assign (i := 4) (by kernel_rfl) (snd_callf (by kernel_rfl) (g_law_new hK).1 (g_law_new hK).2 rfl (snd_cons (snd_name (by kernel_rfl)) snd_nil))) (snb_one (sns_assign_tt ["head", "wheres"] [7, 8] (by kernel_rfl) (by kernel_rfl) (by exact ⟨⟨_, rfl⟩, ⟨⟨_, rfl⟩, rfl⟩⟩) (by kernel_rfl) (sw := true) (by kernel_rfl) (by kernel_rfl) (snd_cons (by exact snd_tuple (snd_cons snd_str (snd_cons snd_str (snd_cons (by exact snd_tuple (snd_cons (snd_name (by kernel_rfl)) (snd_cons (snd_callf (by kernel_rfl) (g_law_bound hK).1 (g_law_bound hK).2 rfl (snd_cons (snd_name (by kernel_rfl)) (snd_cons (snd_name (by kernel_rfl)) snd_nil))) snd_nil))) snd_nil)))) (snd_cons (snd_bin (by exact snd_list (snd_cons (snd_name (by kernel_rfl)) snd_nil)) (snd_name (by kernel_rfl))) snd_nil)) rfl)))) (snb_cons (sns_assign (i := 5) (by kernel_rfl) (by exact snd_tuple (snd_cons snd_str (snd_cons snd_str (snd_cons (snd_type nat_tuple (by kernel_rfl) (n_tuple hK) hB.tuple_ rfl (snd_cons (snd_comp [] (by kernel_rfl) (sni_val (snd_bin (snd_bin (snd_bin (snd_name (by kernel_rfl)) (snd_name (by kernel_rfl))) (snd_name (by kernel_rfl))) (by exact snd_list (snd_cons snd_str (snd_cons snd_str snd_nil))))) sndf_nil (by exact snd_tuple (snd_cons snd_str (snd_cons (snd_name (by kernel_rfl)) snd_nil)))) snd_nil)) snd_nil))))) (snb_one (sns_rett (snd_cons (by exact snd_tuple (snd_cons snd_str (snd_cons snd_str (snd_cons (by exact snd_tuple (snd_cons (snd_name (by kernel_rfl)) (snd_cons (snd_name (by kernel_rfl)) snd_nil))) snd_nil)))) (snd_cons (snd_name (by kernel_rfl)) (snd_cons (snd_name (by kernel_rfl)) (snd_cons (snd_name (by kernel_rfl)) snd_nil))))))))))))))
noncomputable def t_law_led_1 (W : Wd) : TrS := (t_sns_rett (t_snd_cons (t_snd_str "expr") (t_snd_cons (t_snd_sub (t_snd_name 0) (t_snd_int 1)) (t_snd_cons (t_snd_type (t_snd_cons (t_snd_comp [("table", 1)] (t_sni_val (t_snd_sub (t_snd_name 0) (t_snd_int 2))) t_sndf_nil (t_snd_callf W 495 (t_snd_cons (t_snd_name 0) (t_snd_cons (t_snd_name 1) t_snd_nil)))) t_snd_nil) p_tuple) t_snd_nil))))
noncomputable def t_law_led_2 (W : Wd) : TrS := (t_snb_cons (t_sns_if (t_snd_tcmp .NotEq (t_snd_sub (t_snd_name 0) (t_snd_int 0)) (t_snd_str "expr")) (t_sns_ret (t_snd_name 0)) t_snb_nil) (t_law_led_1 W))
noncomputable def t_law_led (W : Wd) : TrS := (t_snb_cons (t_sns_if (t_snd_tcmp .Eq (t_snd_sub (t_snd_name 0) (t_snd_int 0)) (t_snd_str "sym")) (t_sns_rett (t_snd_cons (t_snd_str "sym") (t_snd_cons (t_snd_get (t_snd_name 1) (t_snd_sub (t_snd_name 0) (t_snd_int 1)) (t_snd_sub (t_snd_name 0) (t_snd_int 1))) t_snd_nil))) t_snb_nil) (t_law_led_2 W))
theorem d_law_led {W : Wd} {K : Frag} (hK : FK W K) (hB : Bu W) : SndB W (scOf (sel 64)) (["tree", "table"] : List Str) (bodyOf (sel 64)) (t_law_led W) := (snb_cons (sns_if (snd_tcmp (snd_sub (snd_name (by kernel_rfl)) snd_int) snd_str) (snb_one (sns_rett (snd_cons snd_str (snd_cons (snd_get (snd_name (by kernel_rfl)) (snd_sub (snd_name (by kernel_rfl)) snd_int) (snd_sub (snd_name (by kernel_rfl)) snd_int) rfl rfl) snd_nil)))) snb_nil) (snb_cons (sns_if (snd_tcmp (snd_sub (snd_name (by kernel_rfl)) snd_int) snd_str) (snb_one (sns_ret (snd_name (by kernel_rfl)))) snb_nil) (snb_one (sns_rett (snd_cons snd_str (snd_cons (snd_sub (snd_name (by kernel_rfl)) snd_int) (snd_cons (snd_type nat_tuple (by kernel_rfl) (n_tuple hK) hB.tuple_ rfl (snd_cons (snd_comp [("table", 1)] (by kernel_rfl) (sni_val (snd_sub (snd_name (by kernel_rfl)) snd_int)) sndf_nil (snd_callf (by kernel_rfl) (g_law_led hK).1 (g_law_led hK).2 rfl (snd_cons (snd_name (by kernel_rfl)) (snd_cons (snd_name (by kernel_rfl)) snd_nil)))) snd_nil)) snd_nil)))))))
noncomputable def t_law_right_1 (W : Wd) : TrS := (t_sns_if (t_snd_tor (t_snd_tcmp .NotEq (t_snd_split0 "#" (t_snd_sub (t_snd_name 8) (t_snd_name 5))) (t_snd_name 5)) (t_snd_tor (t_snd_tcmp .NotIn (t_snd_str "#") (t_snd_sub (t_snd_name 8) (t_snd_name 5))) t_snd_tor0)) (t_sns_ret (t_snd_bool false)) t_snb_nil)
noncomputable def t_law_right_2 (W : Wd) : TrS := (t_sns_ret (t_snd_cmp .Eq (t_snd_name 6) (t_snd_callf W 495 (t_snd_cons (t_snd_name 0) (t_snd_cons (t_snd_name 8) t_snd_nil)))))
noncomputable def t_law_right_3 (W : Wd) : TrS := (t_snb_cons (t_sns_if (t_snd_tor (t_snd_tcmp .NotEq (t_snd_comp [("table", 8)] (t_sni_val (t_snd_name 2)) t_sndf_nil (t_snd_sub (t_snd_name 1) (t_snd_name 0))) (t_snd_name 2)) (t_snd_tor (t_snd_tcmp .NotEq (t_snd_builtin (t_snd_cons (t_snd_dictcomp [] (t_sni_val (t_snd_name 7)) t_sndf_nil (t_snd_tuple (t_snd_cons (t_snd_name 0) (t_snd_cons (t_snd_bool true) t_snd_nil)))) t_snd_nil) p_len) (t_snd_builtin (t_snd_cons (t_snd_name 7) t_snd_nil) p_len)) t_snd_tor0)) (t_sns_ret (t_snd_bool false)) t_snb_nil) (t_law_right_2 W))
noncomputable def t_law_right_4 (W : Wd) : TrS := (t_snb_cons (t_sns_for 5 (t_sni_val (t_snd_bin .Add (t_snd_name 1) (t_snd_name 3))) (t_law_right_1 W)) (t_law_right_3 W))
noncomputable def t_law_right_5 (W : Wd) : TrS := (t_snb_cons (t_sns_assign 8 (t_snd_dictzip (t_snd_bin .Add (t_snd_bin .Add (t_snd_name 1) (t_snd_name 2)) (t_snd_name 3)) (t_snd_name 7))) (t_law_right_4 W))
noncomputable def t_law_right_6 (W : Wd) : TrS := (t_snb_cons (t_sns_assign_comp [] 7 (t_sni_val (t_snd_sub (t_snd_sub (t_snd_sub (t_snd_name 6) (t_snd_int 2)) (t_snd_int 1)) (t_snd_int 2))) t_sndf_nil (t_snd_sub (t_snd_name 0) (t_snd_int 1))) (t_law_right_5 W))
noncomputable def t_law_right_7 (W : Wd) : TrS := (t_snb_cons (t_sns_assign 6 (t_snd_callf W 445 (t_snd_cons (t_snd_name 0) (t_snd_cons (t_snd_make W 316 306 t_snd_nil) t_snd_nil)))) (t_law_right_6 W))
noncomputable def t_law_right_8 (W : Wd) : TrS := (t_snb_cons (t_sns_if (t_snd_tcmp .NotEq (t_snd_comp [("wheres", 3), ("names", 1), ("keywords", 2)] (t_sni_val (t_snd_callf W 162 (t_snd_cons (t_snd_name 0) t_snd_nil))) (t_snd_tcmp .In (t_snd_name 0) (t_snd_bin .Add (t_snd_bin .Add (t_snd_name 2) (t_snd_name 3)) (t_snd_name 1))) (t_snd_name 0)) (t_snd_list t_snd_nil)) (t_sns_ret (t_snd_bool false)) t_snb_nil) (t_law_right_7 W))
noncomputable def t_law_right_9 (W : Wd) : TrS := (t_snb_cons (t_sns_if (t_snd_tor (t_snd_tcmp .NotEq (t_snd_callf W 129 (t_snd_cons (t_snd_callf W 73 (t_snd_cons (t_snd_name 0) t_snd_nil)) t_snd_nil)) (t_snd_bin .Add (t_snd_name 1) (t_snd_name 2))) (t_snd_tor (t_snd_tcmp .NotEq (t_snd_callf W 136 (t_snd_cons (t_snd_name 4) t_snd_nil)) (t_snd_name 3)) t_snd_tor0)) (t_sns_ret (t_snd_bool false)) t_snb_nil) (t_law_right_8 W))
noncomputable def t_law_right_10 (W : Wd) : TrS := (t_snb_cons (t_sns_if (t_snd_tcmp .NotEq (t_snd_tuple (t_snd_cons (t_snd_callf W 245 (t_snd_cons (t_snd_name 4) t_snd_nil)) (t_snd_cons (t_snd_callf W 252 (t_snd_cons (t_snd_name 4) t_snd_nil)) (t_snd_cons (t_snd_callf W 259 (t_snd_cons (t_snd_name 4) t_snd_nil)) t_snd_nil)))) (t_snd_tuple (t_snd_cons (t_snd_name 1) (t_snd_cons (t_snd_name 2) (t_snd_cons (t_snd_name 3) t_snd_nil))))) (t_sns_ret (t_snd_bool false)) t_snb_nil) (t_law_right_9 W))
noncomputable def t_law_right (W : Wd) : TrS := (t_snb_cons (t_sns_assign 4 (t_snd_sub (t_snd_sub (t_snd_name 0) (t_snd_int 2)) (t_snd_int 0))) (t_law_right_10 W))
theorem d_law_right {W : Wd} {K : Frag} (hK : FK W K) (hB : Bu W) : SndB W (scOf (sel 65)) (["tree", "names", "keywords", "wheres", "head", "name", "told", "places", "table"] : List Str) (bodyOf (sel 65)) (t_law_right W) := (snb_cons (sns_assign (i := 4) (by kernel_rfl) (snd_sub (snd_sub (snd_name (by kernel_rfl)) snd_int) snd_int)) (snb_cons (sns_if (snd_tcmp (by exact snd_tuple (snd_cons (snd_callf (by kernel_rfl) (g_head_names hK).1 (g_head_names hK).2 rfl (snd_cons (snd_name (by kernel_rfl)) snd_nil)) (snd_cons (snd_callf (by kernel_rfl) (g_keyword_names hK).1 (g_keyword_names hK).2 rfl (snd_cons (snd_name (by kernel_rfl)) snd_nil)) (snd_cons (snd_callf (by kernel_rfl) (g_where_names_binders hK).1 (g_where_names_binders hK).2 rfl (snd_cons (snd_name (by kernel_rfl)) snd_nil)) snd_nil)))) (by exact snd_tuple (snd_cons (snd_name (by kernel_rfl)) (snd_cons (snd_name (by kernel_rfl)) (snd_cons (snd_name (by kernel_rfl)) snd_nil))))) (snb_one (sns_ret snd_bool)) snb_nil) (snb_cons (sns_if (snd_tor (snd_tcmp (snd_callf (by kernel_rfl) (g_argument_names_scopes hK).1 (g_argument_names_scopes hK).2 rfl (snd_cons (snd_callf (by kernel_rfl) (g_function_head hK).1 (g_function_head hK).2 rfl (snd_cons (snd_name (by kernel_rfl)) snd_nil)) snd_nil)) (snd_bin (snd_name (by kernel_rfl)) (snd_name (by kernel_rfl)))) (snd_tor (snd_tcmp (snd_callf (by kernel_rfl) (g_where_names_scopes hK).1 (g_where_names_scopes hK).2 rfl (snd_cons (snd_name (by kernel_rfl)) snd_nil)) (snd_name (by kernel_rfl))) snd_tor0)) (snb_one (sns_ret snd_bool)) snb_nil) (snb_cons (sns_if (snd_tcmp (snd_comp [("wheres", 3), ("names", 1), ("keywords", 2)] (by kernel_rfl) (sni_val (snd_callf (by kernel_rfl) (g_function_uses hK).1 (g_function_uses hK).2 rfl (snd_cons (snd_name (by kernel_rfl)) snd_nil))) (sndf_one (snd_tcmp (snd_name (by kernel_rfl)) (snd_bin (snd_bin (snd_name (by kernel_rfl)) (snd_name (by kernel_rfl))) (snd_name (by kernel_rfl))))) (snd_name (by kernel_rfl))) (by exact snd_list snd_nil)) (snb_one (sns_ret snd_bool)) snb_nil) (snb_cons (sns_assign (i := 6) (by kernel_rfl) (snd_callf (by kernel_rfl) (g_renamed_locals hK).1 (g_renamed_locals hK).2 rfl (snd_cons (snd_name (by kernel_rfl)) (snd_cons (snd_make hK.inn (c_NameSupply hK) (m_NameSupply_init hK) (by kernel_rfl) (v_NameSupply hK) (kp_NameSupply hK) rfl snd_nil) snd_nil)))) (snb_cons (sns_assign_comp (i := 7) [] (by kernel_rfl) (by kernel_rfl) (sni_val (snd_sub (snd_sub (snd_sub (snd_name (by kernel_rfl)) snd_int) snd_int) snd_int)) sndf_nil (snd_sub (snd_name (by kernel_rfl)) snd_int) (by kernel_rfl)) (snb_cons (sns_assign (i := 8) (by kernel_rfl) (snd_dictzip (by kernel_rfl) (n_dict hK) hB.dict (by kernel_rfl) (n_zip hK) hB.zip (snd_bin (snd_bin (snd_name (by kernel_rfl)) (snd_name (by kernel_rfl))) (snd_name (by kernel_rfl))) (snd_name (by kernel_rfl)))) (snb_cons (sns_for (i := 5) (by kernel_rfl) (sni_val (snd_bin (snd_name (by kernel_rfl)) (snd_name (by kernel_rfl)))) (snb_one (sns_if (snd_tor (snd_tcmp (snd_split0 (snd_sub (snd_name (by kernel_rfl)) (snd_name (by kernel_rfl)))) (snd_name (by kernel_rfl))) (snd_tor (snd_tcmp snd_str (snd_sub (snd_name (by kernel_rfl)) (snd_name (by kernel_rfl)))) snd_tor0)) (snb_one (sns_ret snd_bool)) snb_nil))) (snb_cons (sns_if (snd_tor (snd_tcmp (snd_comp [("table", 8)] (by kernel_rfl) (sni_val (snd_name (by kernel_rfl))) sndf_nil (snd_sub (snd_name (by kernel_rfl)) (snd_name (by kernel_rfl)))) (snd_name (by kernel_rfl))) (snd_tor (snd_tcmp (snd_builtin nat_len (by kernel_rfl) (n_len hK) hB.len_ rfl (snd_cons (snd_dictcomp (by kernel_rfl) (n_dict hK) hB.dict [] (by kernel_rfl) (sni_val (snd_name (by kernel_rfl))) sndf_nil (by exact snd_tuple (snd_cons (snd_name (by kernel_rfl)) (snd_cons snd_bool snd_nil)))) snd_nil)) (snd_builtin nat_len (by kernel_rfl) (n_len hK) hB.len_ rfl (snd_cons (snd_name (by kernel_rfl)) snd_nil))) snd_tor0)) (snb_one (sns_ret snd_bool)) snb_nil) (snb_one (sns_ret (snd_cmp (snd_name (by kernel_rfl)) (snd_callf (by kernel_rfl) (g_law_led hK).1 (g_law_led hK).2 rfl (snd_cons (snd_name (by kernel_rfl)) (snd_cons (snd_name (by kernel_rfl)) snd_nil)))))))))))))))
noncomputable def t_law_1 (W : Wd) : TrS := (t_sns_if (t_snd_tnot (t_snd_tplain (t_snd_callf W 500 (t_snd_cons (t_snd_name 6) (t_snd_cons (t_snd_name 7) (t_snd_cons (t_snd_name 8) (t_snd_cons (t_snd_name 9) t_snd_nil))))))) (t_sns_ret (t_snd_bool false)) t_snb_nil)
noncomputable def t_law_2 (W : Wd) : TrS := (t_snb_cons (t_sns_assign_tv ["tree", "names", "keywords", "wheres"] [6, 7, 8, 9] (t_snd_callf W 490 (t_snd_cons (t_snd_name 4) t_snd_nil))) (t_law_1 W))
noncomputable def t_law_3 (W : Wd) : TrS := (t_sns_for 5 (t_sni_range (t_snd_int 2)) (t_law_2 W))
noncomputable def t_law_4 (W : Wd) : TrS := (t_snb_cons (t_sns_assign 4 (t_snd_callf W 452 (t_snd_cons (t_snd_name 0) (t_snd_cons (t_snd_name 3) t_snd_nil)))) (t_law_3 W))
noncomputable def t_law_5 (W : Wd) : TrS := (t_sns_ret (t_snd_bool true))
noncomputable def t_law_6 (W : Wd) : TrS := (t_snb_cons (t_sns_for 3 (t_sni_range (t_snd_builtin (t_snd_cons (t_snd_int 1) (t_snd_cons (t_snd_builtin (t_snd_cons (t_snd_builtin (t_snd_cons (t_snd_name 0) t_snd_nil) p_len) (t_snd_cons (t_snd_int 2) t_snd_nil)) p_min) t_snd_nil)) p_max)) (t_law_4 W)) (t_law_5 W))
noncomputable def t_law_7 (W : Wd) : TrS := (t_snb_cons (t_sns_if (t_snd_tnot (t_snd_tplain (t_snd_callf W 500 (t_snd_cons (t_snd_name 2) (t_snd_cons (t_snd_list (t_snd_cons (t_snd_str "x") t_snd_nil)) (t_snd_cons (t_snd_list (t_snd_cons (t_snd_str "k") t_snd_nil)) (t_snd_cons (t_snd_list t_snd_nil) t_snd_nil))))))) (t_sns_ret (t_snd_bool false)) t_snb_nil) (t_law_6 W))
noncomputable def t_law_8 (W : Wd) : TrS := (t_snb_cons (t_sns_assign 2 (t_snd_tuple (t_snd_cons (t_snd_str "expr") (t_snd_cons (t_snd_str "function") (t_snd_cons (t_snd_tuple (t_snd_cons (t_snd_tuple (t_snd_cons (t_snd_str "expr") (t_snd_cons (t_snd_str "call") (t_snd_cons (t_snd_tuple (t_snd_cons (t_snd_tuple (t_snd_cons (t_snd_str "sym") (t_snd_cons (t_snd_str "f") t_snd_nil))) (t_snd_cons (t_snd_name 1) (t_snd_cons (t_snd_tuple (t_snd_cons (t_snd_str "sym") (t_snd_cons (t_snd_str "x") t_snd_nil))) t_snd_nil)))) t_snd_nil)))) (t_snd_cons (t_snd_tuple (t_snd_cons (t_snd_str "expr") (t_snd_cons (t_snd_str "tuple") (t_snd_cons (t_snd_tuple (t_snd_cons (t_snd_tuple (t_snd_cons (t_snd_str "sym") (t_snd_cons (t_snd_str "x") t_snd_nil))) (t_snd_cons (t_snd_tuple (t_snd_cons (t_snd_str "sym") (t_snd_cons (t_snd_str "k") t_snd_nil))) t_snd_nil))) t_snd_nil)))) t_snd_nil))) t_snd_nil))))) (t_law_7 W))
noncomputable def t_law (W : Wd) : TrS := (t_snb_cons (t_sns_assign 1 (t_snd_tuple (t_snd_cons (t_snd_str "expr") (t_snd_cons (t_snd_str "parameters") (t_snd_cons (t_snd_tuple (t_snd_cons (t_snd_tuple (t_snd_cons (t_snd_str "expr") (t_snd_cons (t_snd_str "kw") (t_snd_cons (t_snd_tuple (t_snd_cons (t_snd_tuple (t_snd_cons (t_snd_str "sym") (t_snd_cons (t_snd_str "k") t_snd_nil))) (t_snd_cons (t_snd_tuple (t_snd_cons (t_snd_str "int") (t_snd_cons (t_snd_int 1) t_snd_nil))) t_snd_nil))) t_snd_nil)))) t_snd_nil)) t_snd_nil))))) (t_law_8 W))
theorem d_law {W : Wd} {K : Frag} (hK : FK W K) (hB : Bu W) : SndB W (scOf (sel 66)) (["script", "rows", "fixed", "turn", "tub", "again", "tree", "names", "keywords", "wheres"] : List Str) (bodyOf (sel 66)) (t_law W) := (snb_cons (sns_assign (i := 1) (by kernel_rfl) (by exact snd_tuple (snd_cons snd_str (snd_cons snd_str (snd_cons (by exact snd_tuple (snd_cons (by exact snd_tuple (snd_cons snd_str (snd_cons snd_str (snd_cons (by exact snd_tuple (snd_cons (by exact snd_tuple (snd_cons snd_str (snd_cons snd_str snd_nil))) (snd_cons (by exact snd_tuple (snd_cons snd_str (snd_cons snd_int snd_nil))) snd_nil))) snd_nil)))) snd_nil)) snd_nil))))) (snb_cons (sns_assign (i := 2) (by kernel_rfl) (by exact snd_tuple (snd_cons snd_str (snd_cons snd_str (snd_cons (by exact snd_tuple (snd_cons (by exact snd_tuple (snd_cons snd_str (snd_cons snd_str (snd_cons (by exact snd_tuple (snd_cons (by exact snd_tuple (snd_cons snd_str (snd_cons snd_str snd_nil))) (snd_cons (snd_name (by kernel_rfl)) (snd_cons (by exact snd_tuple (snd_cons snd_str (snd_cons snd_str snd_nil))) snd_nil)))) snd_nil)))) (snd_cons (by exact snd_tuple (snd_cons snd_str (snd_cons snd_str (snd_cons (by exact snd_tuple (snd_cons (by exact snd_tuple (snd_cons snd_str (snd_cons snd_str snd_nil))) (snd_cons (by exact snd_tuple (snd_cons snd_str (snd_cons snd_str snd_nil))) snd_nil))) snd_nil)))) snd_nil))) snd_nil))))) (snb_cons (sns_if (snd_tnot (snd_tplain (snd_callf (by kernel_rfl) (g_law_right hK).1 (g_law_right hK).2 rfl (snd_cons (snd_name (by kernel_rfl)) (snd_cons (by exact snd_list (snd_cons snd_str snd_nil)) (snd_cons (by exact snd_list (snd_cons snd_str snd_nil)) (snd_cons (by exact snd_list snd_nil) snd_nil))))))) (snb_one (sns_ret snd_bool)) snb_nil) (snb_cons (sns_for (i := 3) (by kernel_rfl) (sni_range (by kernel_rfl) (n_range hK) hB.range_ rfl (snd_builtin nat_max (by kernel_rfl) (n_max hK) hB.max_ rfl (snd_cons snd_int (snd_cons (snd_builtin nat_min (by kernel_rfl) (n_min hK) hB.min_ rfl (snd_cons (snd_builtin nat_len (by kernel_rfl) (n_len hK) hB.len_ rfl (snd_cons (snd_name (by kernel_rfl)) snd_nil)) (snd_cons snd_int snd_nil))) snd_nil)))) (snb_cons (sns_assign (i := 4) (by kernel_rfl) (snd_callf (by kernel_rfl) (g_law_tub hK).1 (g_law_tub hK).2 rfl (snd_cons (snd_name (by kernel_rfl)) (snd_cons (snd_name (by kernel_rfl)) snd_nil)))) (snb_one (sns_for (i := 5) (by kernel_rfl) (sni_range (by kernel_rfl) (n_range hK) hB.range_ rfl snd_int) (snb_cons (sns_assign_tv ["tree", "names", "keywords", "wheres"] [6, 7, 8, 9] (by exact ⟨⟨_, rfl⟩, ⟨⟨_, rfl⟩, ⟨⟨_, rfl⟩, ⟨⟨_, rfl⟩, rfl⟩⟩⟩⟩) (by kernel_rfl) (snd_callf (by kernel_rfl) (g_law_function hK).1 (g_law_function hK).2 rfl (snd_cons (snd_name (by kernel_rfl)) snd_nil))) (snb_one (sns_if (snd_tnot (snd_tplain (snd_callf (by kernel_rfl) (g_law_right hK).1 (g_law_right hK).2 rfl (snd_cons (snd_name (by kernel_rfl)) (snd_cons (snd_name (by kernel_rfl)) (snd_cons (snd_name (by kernel_rfl)) (snd_cons (snd_name (by kernel_rfl)) snd_nil))))))) (snb_one (sns_ret snd_bool)) snb_nil))))))) (snb_one (sns_ret snd_bool))))))
noncomputable def t_Bound_init_1 (W : Wd) : TrS := (t_sns_assign_attr "told_global" 111 (t_snd_name 0) (t_snd_list t_snd_nil))
noncomputable def t_Bound_init_2 (W : Wd) : TrS := (t_snb_cons (t_sns_assign_attr "told_local" 111 (t_snd_name 0) (t_snd_list t_snd_nil)) (t_Bound_init_1 W))
noncomputable def t_Bound_init (W : Wd) : TrS := (t_snb_cons (t_sns_assign_attr "assigned" 111 (t_snd_name 0) (t_snd_list t_snd_nil)) (t_Bound_init_2 W))
theorem d_Bound_init {W : Wd} {K : Frag} (hK : FK W K) (hB : Bu W) : SndB W (scOf (selM 16 0)) (["self"] : List Str) (bodyOf (selM 16 0)) (t_Bound_init W) := (snb_cons (sns_assign_attr hK.inn (c_Bound hK) (k_assigned hK) (by exact snd_list snd_nil) (snd_name (by kernel_rfl))) (snb_cons (sns_assign_attr hK.inn (c_Bound hK) (k_told_local hK) (by exact snd_list snd_nil) (snd_name (by kernel_rfl))) (snb_one (sns_assign_attr hK.inn (c_Bound hK) (k_told_global hK) (by exact snd_list snd_nil) (snd_name (by kernel_rfl))))))
noncomputable def t_Bound_note_1 (W : Wd) : TrS := (t_sns_expr (t_snd_callf W 59 (t_snd_cons (t_snd_if (t_snd_tcmp .Eq (t_snd_name 2) (t_snd_str "local")) (t_snd_attr "told_local" 111 (t_snd_name 0)) (t_snd_attr "told_global" 111 (t_snd_name 0))) (t_snd_cons (t_snd_callf W 66 (t_snd_cons (t_snd_name 4) t_snd_nil)) t_snd_nil))))
noncomputable def t_Bound_note_2 (W : Wd) : TrS := (t_snb_cons (t_sns_assign 4 (t_snd_if (t_snd_tcmp .In (t_snd_callf W 35 (t_snd_cons (t_snd_name 3) t_snd_nil)) (t_snd_gstrs strs_UPDATES)) (t_snd_sub (t_snd_sub (t_snd_name 3) (t_snd_int 2)) (t_snd_int 0)) (t_snd_name 3))) (t_Bound_note_1 W))
noncomputable def t_Bound_note_3 (W : Wd) : TrS := (t_sns_if (t_snd_tcmp .In (t_snd_name 2) (t_snd_gstrs strs_UPDATES)) (t_sns_expr (t_snd_callf W 59 (t_snd_cons (t_snd_attr "assigned" 111 (t_snd_name 0)) (t_snd_cons (t_snd_callf W 66 (t_snd_cons (t_snd_sub (t_snd_sub (t_snd_name 1) (t_snd_int 2)) (t_snd_int 0)) t_snd_nil)) t_snd_nil)))) (t_sns_if (t_snd_tor (t_snd_tcmp .Eq (t_snd_name 2) (t_snd_str "local")) (t_snd_tor (t_snd_tcmp .Eq (t_snd_name 2) (t_snd_str "global")) t_snd_tor0)) (t_sns_for 3 (t_sni_val (t_snd_sub (t_snd_name 1) (t_snd_int 2))) (t_Bound_note_2 W)) (t_sns_if (t_snd_tand (t_snd_tcmp .In (t_snd_name 2) (t_snd_gstrs strs_FUNCTIONS)) (t_snd_tand (t_snd_tcmp .NotEq (t_snd_callf W 80 (t_snd_cons (t_snd_name 1) t_snd_nil)) (t_snd_str "")) t_snd_tand0)) (t_sns_expr (t_snd_callf W 59 (t_snd_cons (t_snd_attr "assigned" 111 (t_snd_name 0)) (t_snd_cons (t_snd_list (t_snd_cons (t_snd_callf W 80 (t_snd_cons (t_snd_name 1) t_snd_nil)) t_snd_nil)) t_snd_nil)))) t_snb_nil)))
noncomputable def t_Bound_note (W : Wd) : TrS := (t_snb_cons (t_sns_assign 2 (t_snd_sub (t_snd_name 1) (t_snd_int 1))) (t_Bound_note_3 W))
theorem d_Bound_note {W : Wd} {K : Frag} (hK : FK W K) (hB : Bu W) : SndB W (scOf (selM 16 1)) (["self", "tree", "head", "part", "place"] : List Str) (bodyOf (selM 16 1)) (t_Bound_note W) := (snb_cons (sns_assign (i := 2) (by kernel_rfl) (snd_sub (snd_name (by kernel_rfl)) snd_int)) (snb_one (sns_if (snd_tcmp (snd_name (by kernel_rfl)) (snd_gstrs hK.inn (by kernel_rfl) (s_UPDATES hK))) (snb_one (sns_expr (by kernel_rfl) (snd_callf (by kernel_rfl) (g_put_once hK).1 (g_put_once hK).2 rfl (snd_cons (snd_attr hK.inn (c_Bound hK) (a_assigned hK) (snd_name (by kernel_rfl))) (snd_cons (snd_callf (by kernel_rfl) (g_place_names_scopes hK).1 (g_place_names_scopes hK).2 rfl (snd_cons (snd_sub (snd_sub (snd_name (by kernel_rfl)) snd_int) snd_int) snd_nil)) snd_nil))))) (snb_one (sns_if (snd_tor (snd_tcmp (snd_name (by kernel_rfl)) snd_str) (snd_tor (snd_tcmp (snd_name (by kernel_rfl)) snd_str) snd_tor0)) (snb_one (sns_for (i := 3) (by kernel_rfl) (sni_val (snd_sub (snd_name (by kernel_rfl)) snd_int)) (snb_cons (sns_assign (i := 4) (by kernel_rfl) (snd_if (snd_tcmp (snd_callf (by kernel_rfl) (g_head_of hK).1 (g_head_of hK).2 rfl (snd_cons (snd_name (by kernel_rfl)) snd_nil)) (snd_gstrs hK.inn (by kernel_rfl) (s_UPDATES hK))) (snd_sub (snd_sub (snd_name (by kernel_rfl)) snd_int) snd_int) (snd_name (by kernel_rfl)))) (snb_one (sns_expr (by kernel_rfl) (snd_callf (by kernel_rfl) (g_put_once hK).1 (g_put_once hK).2 rfl (snd_cons (snd_if (snd_tcmp (snd_name (by kernel_rfl)) snd_str) (snd_attr hK.inn (c_Bound hK) (a_told_local hK) (snd_name (by kernel_rfl))) (snd_attr hK.inn (c_Bound hK) (a_told_global hK) (snd_name (by kernel_rfl)))) (snd_cons (snd_callf (by kernel_rfl) (g_place_names_scopes hK).1 (g_place_names_scopes hK).2 rfl (snd_cons (snd_name (by kernel_rfl)) snd_nil)) snd_nil)))))))) (snb_one (sns_if (snd_tand (snd_tcmp (snd_name (by kernel_rfl)) (snd_gstrs hK.inn (by kernel_rfl) (s_FUNCTIONS hK))) (snd_tand (snd_tcmp (snd_callf (by kernel_rfl) (g_own_name hK).1 (g_own_name hK).2 rfl (snd_cons (snd_name (by kernel_rfl)) snd_nil)) snd_str) snd_tand0)) (snb_one (sns_expr (by kernel_rfl) (snd_callf (by kernel_rfl) (g_put_once hK).1 (g_put_once hK).2 rfl (snd_cons (snd_attr hK.inn (c_Bound hK) (a_assigned hK) (snd_name (by kernel_rfl))) (snd_cons (by exact snd_list (snd_cons (snd_callf (by kernel_rfl) (g_own_name hK).1 (g_own_name hK).2 rfl (snd_cons (snd_name (by kernel_rfl)) snd_nil)) snd_nil)) snd_nil))))) snb_nil)))))))
noncomputable def t_NameSupply_init (W : Wd) : TrS := (t_sns_assign_attr "many" 316 (t_snd_name 0) (t_snd_int 0))
theorem d_NameSupply_init {W : Wd} {K : Frag} (hK : FK W K) (hB : Bu W) : SndB W (scOf (selM 52 0)) (["self"] : List Str) (bodyOf (selM 52 0)) (t_NameSupply_init W) := (snb_one (sns_assign_attr hK.inn (c_NameSupply hK) (k_many hK) snd_int (snd_name (by kernel_rfl))))
noncomputable def t_NameSupply_next_1 (W : Wd) : TrS := (t_sns_ret (t_snd_bin .Add (t_snd_bin .Add (t_snd_split0 "#" (t_snd_name 1)) (t_snd_str "#")) (t_snd_type (t_snd_cons (t_snd_attr "many" 316 (t_snd_name 0)) t_snd_nil) p_str)))
noncomputable def t_NameSupply_next (W : Wd) : TrS := (t_snb_cons (t_sns_assign_attr "many" 316 (t_snd_name 0) (t_snd_bin .Add (t_snd_attr "many" 316 (t_snd_name 0)) (t_snd_int 1))) (t_NameSupply_next_1 W))
theorem d_NameSupply_next {W : Wd} {K : Frag} (hK : FK W K) (hB : Bu W) : SndB W (scOf (selM 52 1)) (["self", "base"] : List Str) (bodyOf (selM 52 1)) (t_NameSupply_next W) := (snb_cons (sns_assign_attr hK.inn (c_NameSupply hK) (k_many hK) (snd_bin (snd_attr hK.inn (c_NameSupply hK) (a_many hK) (snd_name (by kernel_rfl))) snd_int) (snd_name (by kernel_rfl))) (snb_one (sns_ret (snd_bin (snd_bin (snd_split0 (snd_name (by kernel_rfl))) snd_str) (snd_type nat_str (by kernel_rfl) (n_str hK) hB.str_ rfl (snd_cons (snd_attr hK.inn (c_NameSupply hK) (a_many hK) (snd_name (by kernel_rfl))) snd_nil))))))
noncomputable def t_Renamer_init (W : Wd) : TrS := (t_sns_assign_attr "supply" 434 (t_snd_name 0) (t_snd_name 1))
theorem d_Renamer_init {W : Wd} {K : Frag} (hK : FK W K) (hB : Bu W) : SndB W (scOf (selM 54 0)) (["self", "supply"] : List Str) (bodyOf (selM 54 0)) (t_Renamer_init W) := (snb_one (sns_assign_attr hK.inn (c_Renamer hK) (k_supply hK) (snd_name (by kernel_rfl)) (snd_name (by kernel_rfl))))
noncomputable def t_Renamer_fresh_1 (W : Wd) : TrS := (t_sns_assign_sub (t_snd_name 3) (t_snd_name 4) (t_snd_meth W "next" 316 313 (t_snd_attr "supply" 434 (t_snd_name 0)) (t_snd_cons (t_snd_name 4) t_snd_nil)))
noncomputable def t_Renamer_fresh_2 (W : Wd) : TrS := (t_sns_ret (t_snd_name 3))
noncomputable def t_Renamer_fresh_3 (W : Wd) : TrS := (t_snb_cons (t_sns_for 4 (t_sni_val (t_snd_name 2)) (t_Renamer_fresh_1 W)) (t_Renamer_fresh_2 W))
noncomputable def t_Renamer_fresh (W : Wd) : TrS := (t_snb_cons (t_sns_assign 3 (t_snd_type (t_snd_cons (t_snd_name 1) t_snd_nil) p_dict)) (t_Renamer_fresh_3 W))
theorem d_Renamer_fresh {W : Wd} {K : Frag} (hK : FK W K) (hB : Bu W) : SndB W (scOf (selM 54 1)) (["self", "env", "names", "found", "name"] : List Str) (bodyOf (selM 54 1)) (t_Renamer_fresh W) := (snb_cons (sns_assign (i := 3) (by kernel_rfl) (snd_type nat_dict (by kernel_rfl) (n_dict hK) hB.dict rfl (snd_cons (snd_name (by kernel_rfl)) snd_nil))) (snb_cons (sns_for (i := 4) (by kernel_rfl) (sni_val (snd_name (by kernel_rfl))) (snb_one (sns_assign_sub (snd_meth hK.inn (c_NameSupply hK) (m_NameSupply_next hK) (snd_attr hK.inn (c_Renamer hK) (a_supply hK) (snd_name (by kernel_rfl))) rfl (snd_cons (snd_name (by kernel_rfl)) snd_nil)) (snd_name (by kernel_rfl)) (snd_name (by kernel_rfl))))) (snb_one (sns_ret (snd_name (by kernel_rfl))))))
noncomputable def t_Renamer_opened_1 (W : Wd) : TrS := (t_sns_if (t_snd_tand (t_snd_tcmp .NotIn (t_snd_name 6) (t_snd_name 1)) (t_snd_tand (t_snd_tcmp .NotIn (t_snd_name 6) (t_snd_name 5)) (t_snd_tand (t_snd_tcmp .NotIn (t_snd_name 6) (t_snd_name 4)) t_snd_tand0))) (t_sns_expr (t_snd_append (t_snd_name 5) (t_snd_name 6))) t_snb_nil)
noncomputable def t_Renamer_opened_2 (W : Wd) : TrS := (t_sns_assign_sub (t_snd_name 7) (t_snd_name 6) (t_snd_name 6))
noncomputable def t_Renamer_opened_3 (W : Wd) : TrS := (t_sns_ret (t_snd_name 7))
noncomputable def t_Renamer_opened_4 (W : Wd) : TrS := (t_snb_cons (t_sns_for 6 (t_sni_val (t_snd_name 4)) (t_Renamer_opened_2 W)) (t_Renamer_opened_3 W))
noncomputable def t_Renamer_opened_5 (W : Wd) : TrS := (t_snb_cons (t_sns_assign 7 (t_snd_meth W "fresh" 434 348 (t_snd_name 0) (t_snd_cons (t_snd_name 1) (t_snd_cons (t_snd_name 5) t_snd_nil)))) (t_Renamer_opened_4 W))
noncomputable def t_Renamer_opened_6 (W : Wd) : TrS := (t_snb_cons (t_sns_for 6 (t_sni_val (t_snd_name 3)) (t_Renamer_opened_1 W)) (t_Renamer_opened_5 W))
noncomputable def t_Renamer_opened_7 (W : Wd) : TrS := (t_snb_cons (t_sns_assign 5 (t_snd_list t_snd_nil)) (t_Renamer_opened_6 W))
noncomputable def t_Renamer_opened (W : Wd) : TrS := (t_snb_cons (t_sns_assign_tv ["bound", "told_global"] [3, 4] (t_snd_callf W 224 (t_snd_cons (t_snd_name 2) t_snd_nil))) (t_Renamer_opened_7 W))
theorem d_Renamer_opened {W : Wd} {K : Frag} (hK : FK W K) (hB : Bu W) : SndB W (scOf (selM 54 2)) (["self", "env", "trees", "bound", "told_global", "fresh", "name", "found"] : List Str) (bodyOf (selM 54 2)) (t_Renamer_opened W) := (snb_cons (sns_assign_tv ["bound", "told_global"] [3, 4] (by exact ⟨⟨_, rfl⟩, ⟨⟨_, rfl⟩, rfl⟩⟩) (by kernel_rfl) (snd_callf (by kernel_rfl) (g_own_names hK).1 (g_own_names hK).2 rfl (snd_cons (snd_name (by kernel_rfl)) snd_nil))) (snb_cons (sns_assign (i := 5) (by kernel_rfl) (by exact snd_list snd_nil)) (snb_cons (sns_for (i := 6) (by kernel_rfl) (sni_val (snd_name (by kernel_rfl))) (snb_one (sns_if (snd_tand (snd_tcmp (snd_name (by kernel_rfl)) (snd_name (by kernel_rfl))) (snd_tand (snd_tcmp (snd_name (by kernel_rfl)) (snd_name (by kernel_rfl))) (snd_tand (snd_tcmp (snd_name (by kernel_rfl)) (snd_name (by kernel_rfl))) snd_tand0))) (snb_one (sns_expr (by kernel_rfl) (snd_append (snd_name (by kernel_rfl)) (snd_name (by kernel_rfl)) rfl rfl))) snb_nil))) (snb_cons (sns_assign (i := 7) (by kernel_rfl) (snd_meth hK.inn (c_Renamer hK) (m_Renamer_fresh hK) (snd_name (by kernel_rfl)) rfl (snd_cons (snd_name (by kernel_rfl)) (snd_cons (snd_name (by kernel_rfl)) snd_nil)))) (snb_cons (sns_for (i := 6) (by kernel_rfl) (sni_val (snd_name (by kernel_rfl))) (snb_one (sns_assign_sub (snd_name (by kernel_rfl)) (snd_name (by kernel_rfl)) (snd_name (by kernel_rfl))))) (snb_one (sns_ret (snd_name (by kernel_rfl)))))))))
noncomputable def t_Renamer_body (W : Wd) : TrS := (t_sns_ret (t_snd_meth W "of" 434 374 (t_snd_name 0) (t_snd_cons (t_snd_meth W "opened" 434 355 (t_snd_name 0) (t_snd_cons (t_snd_name 1) (t_snd_cons (t_snd_list (t_snd_cons (t_snd_name 2) t_snd_nil)) t_snd_nil))) (t_snd_cons (t_snd_name 2) (t_snd_cons (t_snd_name 3) t_snd_nil)))))
theorem d_Renamer_body {W : Wd} {K : Frag} (hK : FK W K) (hB : Bu W) : SndB W (scOf (selM 54 3)) (["self", "env", "tree", "deep"] : List Str) (bodyOf (selM 54 3)) (t_Renamer_body W) := (snb_one (sns_ret (snd_meth hK.inn (c_Renamer hK) (m_Renamer_of hK) (snd_name (by kernel_rfl)) rfl (snd_cons (snd_meth hK.inn (c_Renamer hK) (m_Renamer_opened hK) (snd_name (by kernel_rfl)) rfl (snd_cons (snd_name (by kernel_rfl)) (snd_cons (by exact snd_list (snd_cons (snd_name (by kernel_rfl)) snd_nil)) snd_nil))) (snd_cons (snd_name (by kernel_rfl)) (snd_cons (snd_name (by kernel_rfl)) snd_nil))))))
noncomputable def t_Renamer_all_of (W : Wd) : TrS := (t_sns_ret (t_snd_comp [("env", 1), ("deep", 3), ("self", 0)] (t_sni_val (t_snd_name 2)) t_sndf_nil (t_snd_meth W "of" 434 374 (t_snd_name 3) (t_snd_cons (t_snd_name 1) (t_snd_cons (t_snd_name 0) (t_snd_cons (t_snd_name 2) t_snd_nil))))))
theorem d_Renamer_all_of {W : Wd} {K : Frag} (hK : FK W K) (hB : Bu W) : SndB W (scOf (selM 54 4)) (["self", "env", "trees", "deep"] : List Str) (bodyOf (selM 54 4)) (t_Renamer_all_of W) := (snb_one (sns_ret (snd_comp [("env", 1), ("deep", 3), ("self", 0)] (by kernel_rfl) (sni_val (snd_name (by kernel_rfl))) sndf_nil (snd_meth hK.inn (c_Renamer hK) (m_Renamer_of hK) (snd_name (by kernel_rfl)) rfl (snd_cons (snd_name (by kernel_rfl)) (snd_cons (snd_name (by kernel_rfl)) (snd_cons (snd_name (by kernel_rfl)) snd_nil)))))))
noncomputable def t_Renamer_of_1 (W : Wd) : TrS := (t_sns_ret (t_snd_callf W 21 (t_snd_cons (t_snd_name 4) (t_snd_cons (t_snd_meth W "all_of" 434 367 (t_snd_name 0) (t_snd_cons (t_snd_name 1) (t_snd_cons (t_snd_name 5) (t_snd_cons (t_snd_bin .Add (t_snd_name 3) (t_snd_int 1)) t_snd_nil)))) t_snd_nil))))
noncomputable def t_Renamer_of_2 (W : Wd) : TrS := (t_snb_cons (t_sns_if (t_snd_tcmp .In (t_snd_name 4) (t_snd_tuple (t_snd_cons (t_snd_str ".") (t_snd_cons (t_snd_str "kw") (t_snd_cons (t_snd_str "macrocall") t_snd_nil))))) (t_sns_ret (t_snd_meth W "named" 434 379 (t_snd_name 0) (t_snd_cons (t_snd_name 1) (t_snd_cons (t_snd_name 2) (t_snd_cons (t_snd_name 3) t_snd_nil))))) t_snb_nil) (t_Renamer_of_1 W))
noncomputable def t_Renamer_of_3 (W : Wd) : TrS := (t_snb_cons (t_sns_if (t_snd_tcmp .In (t_snd_name 4) (t_snd_tuple (t_snd_cons (t_snd_str "let") (t_snd_cons (t_snd_str "for") (t_snd_cons (t_snd_str "while") (t_snd_cons (t_snd_str "try") (t_snd_cons (t_snd_str "comprehension") (t_snd_cons (t_snd_str "generator") t_snd_nil)))))))) (t_sns_ret t_snd_no) t_snb_nil) (t_Renamer_of_2 W))
noncomputable def t_Renamer_of_4 (W : Wd) : TrS := (t_snb_cons (t_sns_if (t_snd_tcmp .In (t_snd_name 4) (t_snd_tuple (t_snd_cons (t_snd_str "function") (t_snd_cons (t_snd_str "macro") (t_snd_cons (t_snd_str "->") t_snd_nil))))) (t_sns_ret (t_snd_meth W "function" 434 393 (t_snd_name 0) (t_snd_cons (t_snd_name 1) (t_snd_cons (t_snd_name 2) (t_snd_cons (t_snd_name 3) t_snd_nil))))) t_snb_nil) (t_Renamer_of_3 W))
noncomputable def t_Renamer_of_5 (W : Wd) : TrS := (t_snb_cons (t_sns_if (t_snd_tcmp .In (t_snd_name 4) (t_snd_tuple (t_snd_cons (t_snd_str "quote") (t_snd_cons (t_snd_str "struct") (t_snd_cons (t_snd_str "abstract") t_snd_nil))))) (t_sns_ret t_snd_no) t_snb_nil) (t_Renamer_of_4 W))
noncomputable def t_Renamer_of_6 (W : Wd) : TrS := (t_snb_cons (t_sns_if (t_snd_tcmp .Eq (t_snd_name 4) (t_snd_str "escape")) (t_sns_ret (t_snd_sub (t_snd_name 5) (t_snd_int 0))) t_snb_nil) (t_Renamer_of_5 W))
noncomputable def t_Renamer_of_7 (W : Wd) : TrS := (t_snb_cons (t_sns_assign_tt ["head", "parts"] [4, 5] (t_snd_cons (t_snd_sub (t_snd_name 2) (t_snd_int 1)) (t_snd_cons (t_snd_sub (t_snd_name 2) (t_snd_int 2)) t_snd_nil)) true) (t_Renamer_of_6 W))
noncomputable def t_Renamer_of_8 (W : Wd) : TrS := (t_snb_cons (t_sns_if (t_snd_tcmp .NotEq (t_snd_sub (t_snd_name 2) (t_snd_int 0)) (t_snd_str "expr")) (t_sns_ret (t_snd_name 2)) t_snb_nil) (t_Renamer_of_7 W))
noncomputable def t_Renamer_of_9 (W : Wd) : TrS := (t_snb_cons (t_sns_if (t_snd_tplain (t_snd_callf W 49 (t_snd_cons (t_snd_name 2) t_snd_nil))) (t_sns_rett (t_snd_cons (t_snd_str "sym") (t_snd_cons (t_snd_get (t_snd_name 1) (t_snd_sub (t_snd_name 2) (t_snd_int 1)) (t_snd_sub (t_snd_name 2) (t_snd_int 1))) t_snd_nil))) t_snb_nil) (t_Renamer_of_8 W))
noncomputable def t_Renamer_of (W : Wd) : TrS := (t_snb_cons (t_sns_if (t_snd_tcmp .Gt (t_snd_name 3) (t_snd_gint 120)) t_sns_no t_snb_nil) (t_Renamer_of_9 W))
theorem d_Renamer_of {W : Wd} {K : Frag} (hK : FK W K) (hB : Bu W) : SndB W (scOf (selM 54 5)) (["self", "env", "tree", "deep", "head", "parts"] : List Str) (bodyOf (selM 54 5)) (t_Renamer_of W) := (snb_cons (sns_if (snd_tcmp (snd_name (by kernel_rfl)) (snd_gint hK.inn (by kernel_rfl) (s_MOST_DEEP hK))) (snb_one sns_no) snb_nil) (snb_cons (sns_if (snd_tplain (snd_callf (by kernel_rfl) (g_is_sym hK).1 (g_is_sym hK).2 rfl (snd_cons (snd_name (by kernel_rfl)) snd_nil))) (snb_one (sns_rett (snd_cons snd_str (snd_cons (snd_get (snd_name (by kernel_rfl)) (snd_sub (snd_name (by kernel_rfl)) snd_int) (snd_sub (snd_name (by kernel_rfl)) snd_int) rfl rfl) snd_nil)))) snb_nil) (snb_cons (sns_if (snd_tcmp (snd_sub (snd_name (by kernel_rfl)) snd_int) snd_str) (snb_one (sns_ret (snd_name (by kernel_rfl)))) snb_nil) (snb_cons (sns_assign_tt ["head", "parts"] [4, 5] (by kernel_rfl) (by kernel_rfl) (by exact ⟨⟨_, rfl⟩, ⟨⟨_, rfl⟩, rfl⟩⟩) (by kernel_rfl) (sw := true) (by kernel_rfl) (by kernel_rfl) (snd_cons (snd_sub (snd_name (by kernel_rfl)) snd_int) (snd_cons (snd_sub (snd_name (by kernel_rfl)) snd_int) snd_nil)) rfl) (snb_cons (sns_if (snd_tcmp (snd_name (by kernel_rfl)) snd_str) (snb_one (sns_ret (snd_sub (snd_name (by kernel_rfl)) snd_int))) snb_nil) (snb_cons (sns_if (snd_tcmp (snd_name (by kernel_rfl)) (by exact snd_tuple (snd_cons snd_str (snd_cons snd_str (snd_cons snd_str snd_nil))))) (snb_one (sns_ret snd_no)) snb_nil) (snb_cons (sns_if (snd_tcmp (snd_name (by kernel_rfl)) (by exact snd_tuple (snd_cons snd_str (snd_cons snd_str (snd_cons snd_str snd_nil))))) (snb_one (sns_ret (snd_meth hK.inn (c_Renamer hK) (m_Renamer_function hK) (snd_name (by kernel_rfl)) rfl (snd_cons (snd_name (by kernel_rfl)) (snd_cons (snd_name (by kernel_rfl)) (snd_cons (snd_name (by kernel_rfl)) snd_nil)))))) snb_nil) (snb_cons (sns_if (snd_tcmp (snd_name (by kernel_rfl)) (by exact snd_tuple (snd_cons snd_str (snd_cons snd_str (snd_cons snd_str (snd_cons snd_str (snd_cons snd_str (snd_cons snd_str snd_nil)))))))) (snb_one (sns_ret snd_no)) snb_nil) (snb_cons (sns_if (snd_tcmp (snd_name (by kernel_rfl)) (by exact snd_tuple (snd_cons snd_str (snd_cons snd_str (snd_cons snd_str snd_nil))))) (snb_one (sns_ret (snd_meth hK.inn (c_Renamer hK) (m_Renamer_named hK) (snd_name (by kernel_rfl)) rfl (snd_cons (snd_name (by kernel_rfl)) (snd_cons (snd_name (by kernel_rfl)) (snd_cons (snd_name (by kernel_rfl)) snd_nil)))))) snb_nil) (snb_one (sns_ret (snd_callf (by kernel_rfl) (g_expr hK).1 (g_expr hK).2 rfl (snd_cons (snd_name (by kernel_rfl)) (snd_cons (snd_meth hK.inn (c_Renamer hK) (m_Renamer_all_of hK) (snd_name (by kernel_rfl)) rfl (snd_cons (snd_name (by kernel_rfl)) (snd_cons (snd_name (by kernel_rfl)) (snd_cons (snd_bin (snd_name (by kernel_rfl)) snd_int) snd_nil)))) snd_nil))))))))))))))
noncomputable def t_Renamer_named_1 (W : Wd) : TrS := (t_sns_ret (t_snd_callf W 21 (t_snd_cons (t_snd_name 4) (t_snd_cons (t_snd_bin .Add (t_snd_list (t_snd_cons (t_snd_meth W "kept" 434 386 (t_snd_name 0) (t_snd_cons (t_snd_name 1) (t_snd_cons (t_snd_sub (t_snd_name 5) (t_snd_int 0)) (t_snd_cons (t_snd_name 3) t_snd_nil)))) t_snd_nil)) (t_snd_meth W "all_of" 434 367 (t_snd_name 0) (t_snd_cons (t_snd_name 1) (t_snd_cons (t_snd_from1 (t_snd_name 5)) (t_snd_cons (t_snd_bin .Add (t_snd_name 3) (t_snd_int 1)) t_snd_nil))))) t_snd_nil))))
noncomputable def t_Renamer_named_2 (W : Wd) : TrS := (t_snb_cons (t_sns_if (t_snd_tcmp .Eq (t_snd_name 4) (t_snd_str ".")) (t_sns_ret (t_snd_callf W 21 (t_snd_cons (t_snd_name 4) (t_snd_cons (t_snd_bin .Add (t_snd_list (t_snd_cons (t_snd_meth W "of" 434 374 (t_snd_name 0) (t_snd_cons (t_snd_name 1) (t_snd_cons (t_snd_sub (t_snd_name 5) (t_snd_int 0)) (t_snd_cons (t_snd_bin .Add (t_snd_name 3) (t_snd_int 1)) t_snd_nil)))) t_snd_nil)) (t_snd_comp [("env", 1), ("deep", 3), ("self", 0)] (t_sni_val (t_snd_from1 (t_snd_name 5))) t_sndf_nil (t_snd_meth W "kept" 434 386 (t_snd_name 3) (t_snd_cons (t_snd_name 1) (t_snd_cons (t_snd_name 0) (t_snd_cons (t_snd_name 2) t_snd_nil)))))) t_snd_nil)))) t_snb_nil) (t_Renamer_named_1 W))
noncomputable def t_Renamer_named (W : Wd) : TrS := (t_snb_cons (t_sns_assign_tt ["head", "parts"] [4, 5] (t_snd_cons (t_snd_sub (t_snd_name 2) (t_snd_int 1)) (t_snd_cons (t_snd_sub (t_snd_name 2) (t_snd_int 2)) t_snd_nil)) true) (t_Renamer_named_2 W))
theorem d_Renamer_named {W : Wd} {K : Frag} (hK : FK W K) (hB : Bu W) : SndB W (scOf (selM 54 6)) (["self", "env", "tree", "deep", "head", "parts"] : List Str) (bodyOf (selM 54 6)) (t_Renamer_named W) := (snb_cons (sns_assign_tt ["head", "parts"] [4, 5] (by kernel_rfl) (by kernel_rfl) (by exact ⟨⟨_, rfl⟩, ⟨⟨_, rfl⟩, rfl⟩⟩) (by kernel_rfl) (sw := true) (by kernel_rfl) (by kernel_rfl) (snd_cons (snd_sub (snd_name (by kernel_rfl)) snd_int) (snd_cons (snd_sub (snd_name (by kernel_rfl)) snd_int) snd_nil)) rfl) (snb_cons (sns_if (snd_tcmp (snd_name (by kernel_rfl)) snd_str) (snb_one (sns_ret (snd_callf (by kernel_rfl) (g_expr hK).1 (g_expr hK).2 rfl (snd_cons (snd_name (by kernel_rfl)) (snd_cons (snd_bin (by exact snd_list (snd_cons (snd_meth hK.inn (c_Renamer hK) (m_Renamer_of hK) (snd_name (by kernel_rfl)) rfl (snd_cons (snd_name (by kernel_rfl)) (snd_cons (snd_sub (snd_name (by kernel_rfl)) snd_int) (snd_cons (snd_bin (snd_name (by kernel_rfl)) snd_int) snd_nil)))) snd_nil)) (snd_comp [("env", 1), ("deep", 3), ("self", 0)] (by kernel_rfl) (sni_val (snd_from1 (snd_name (by kernel_rfl)))) sndf_nil (snd_meth hK.inn (c_Renamer hK) (m_Renamer_kept hK) (snd_name (by kernel_rfl)) rfl (snd_cons (snd_name (by kernel_rfl)) (snd_cons (snd_name (by kernel_rfl)) (snd_cons (snd_name (by kernel_rfl)) snd_nil)))))) snd_nil))))) snb_nil) (snb_one (sns_ret (snd_callf (by kernel_rfl) (g_expr hK).1 (g_expr hK).2 rfl (snd_cons (snd_name (by kernel_rfl)) (snd_cons (snd_bin (by exact snd_list (snd_cons (snd_meth hK.inn (c_Renamer hK) (m_Renamer_kept hK) (snd_name (by kernel_rfl)) rfl (snd_cons (snd_name (by kernel_rfl)) (snd_cons (snd_sub (snd_name (by kernel_rfl)) snd_int) (snd_cons (snd_name (by kernel_rfl)) snd_nil)))) snd_nil)) (snd_meth hK.inn (c_Renamer hK) (m_Renamer_all_of hK) (snd_name (by kernel_rfl)) rfl (snd_cons (snd_name (by kernel_rfl)) (snd_cons (snd_from1 (snd_name (by kernel_rfl))) (snd_cons (snd_bin (snd_name (by kernel_rfl)) snd_int) snd_nil))))) snd_nil)))))))
noncomputable def t_Renamer_kept (W : Wd) : TrS := (t_sns_ret (t_snd_if (t_snd_tplain (t_snd_callf W 49 (t_snd_cons (t_snd_name 2) t_snd_nil))) (t_snd_name 2) (t_snd_meth W "of" 434 374 (t_snd_name 0) (t_snd_cons (t_snd_name 1) (t_snd_cons (t_snd_name 2) (t_snd_cons (t_snd_bin .Add (t_snd_name 3) (t_snd_int 1)) t_snd_nil))))))
theorem d_Renamer_kept {W : Wd} {K : Frag} (hK : FK W K) (hB : Bu W) : SndB W (scOf (selM 54 7)) (["self", "env", "tree", "deep"] : List Str) (bodyOf (selM 54 7)) (t_Renamer_kept W) := (snb_one (sns_ret (snd_if (snd_tplain (snd_callf (by kernel_rfl) (g_is_sym hK).1 (g_is_sym hK).2 rfl (snd_cons (snd_name (by kernel_rfl)) snd_nil))) (snd_name (by kernel_rfl)) (snd_meth hK.inn (c_Renamer hK) (m_Renamer_of hK) (snd_name (by kernel_rfl)) rfl (snd_cons (snd_name (by kernel_rfl)) (snd_cons (snd_name (by kernel_rfl)) (snd_cons (snd_bin (snd_name (by kernel_rfl)) snd_int) snd_nil)))))))
noncomputable def t_Renamer_function_1 (W : Wd) : TrS := (t_sns_assign_sub (t_snd_name 6) (t_snd_name 7) (t_snd_name 7))
noncomputable def t_Renamer_function_2 (W : Wd) : TrS := (t_sns_ret (t_snd_callf W 21 (t_snd_cons (t_snd_sub (t_snd_name 2) (t_snd_int 1)) (t_snd_cons (t_snd_tuple (t_snd_cons (t_snd_meth W "head" 434 398 (t_snd_name 0) (t_snd_cons (t_snd_name 1) (t_snd_cons (t_snd_name 6) (t_snd_cons (t_snd_name 4) (t_snd_cons (t_snd_bin .Add (t_snd_name 3) (t_snd_int 1)) t_snd_nil))))) (t_snd_cons (t_snd_meth W "body" 434 362 (t_snd_name 0) (t_snd_cons (t_snd_name 6) (t_snd_cons (t_snd_name 5) (t_snd_cons (t_snd_bin .Add (t_snd_name 3) (t_snd_int 1)) t_snd_nil)))) t_snd_nil))) t_snd_nil))))
noncomputable def t_Renamer_function_3 (W : Wd) : TrS := (t_snb_cons (t_sns_for 7 (t_sni_val (t_snd_callf W 252 (t_snd_cons (t_snd_name 4) t_snd_nil))) (t_Renamer_function_1 W)) (t_Renamer_function_2 W))
noncomputable def t_Renamer_function_4 (W : Wd) : TrS := (t_snb_cons (t_sns_assign 6 (t_snd_meth W "fresh" 434 348 (t_snd_name 0) (t_snd_cons (t_snd_name 1) (t_snd_cons (t_snd_bin .Add (t_snd_callf W 259 (t_snd_cons (t_snd_name 4) t_snd_nil)) (t_snd_callf W 245 (t_snd_cons (t_snd_name 4) t_snd_nil))) t_snd_nil)))) (t_Renamer_function_3 W))
noncomputable def t_Renamer_function (W : Wd) : TrS := (t_snb_cons (t_sns_assign_tv ["head", "body"] [4, 5] (t_snd_sub (t_snd_name 2) (t_snd_int 2))) (t_Renamer_function_4 W))
theorem d_Renamer_function {W : Wd} {K : Frag} (hK : FK W K) (hB : Bu W) : SndB W (scOf (selM 54 8)) (["self", "env", "tree", "deep", "head", "body", "own", "name"] : List Str) (bodyOf (selM 54 8)) (t_Renamer_function W) := (snb_cons (sns_assign_tv ["head", "body"] [4, 5] (by exact ⟨⟨_, rfl⟩, ⟨⟨_, rfl⟩, rfl⟩⟩) (by kernel_rfl) (snd_sub (snd_name (by kernel_rfl)) snd_int)) (snb_cons (sns_assign (i := 6) (by kernel_rfl) (snd_meth hK.inn (c_Renamer hK) (m_Renamer_fresh hK) (snd_name (by kernel_rfl)) rfl (snd_cons (snd_name (by kernel_rfl)) (snd_cons (snd_bin (snd_callf (by kernel_rfl) (g_where_names_binders hK).1 (g_where_names_binders hK).2 rfl (snd_cons (snd_name (by kernel_rfl)) snd_nil)) (snd_callf (by kernel_rfl) (g_head_names hK).1 (g_head_names hK).2 rfl (snd_cons (snd_name (by kernel_rfl)) snd_nil))) snd_nil)))) (snb_cons (sns_for (i := 7) (by kernel_rfl) (sni_val (snd_callf (by kernel_rfl) (g_keyword_names hK).1 (g_keyword_names hK).2 rfl (snd_cons (snd_name (by kernel_rfl)) snd_nil))) (snb_one (sns_assign_sub (snd_name (by kernel_rfl)) (snd_name (by kernel_rfl)) (snd_name (by kernel_rfl))))) (snb_one (sns_ret (snd_callf (by kernel_rfl) (g_expr hK).1 (g_expr hK).2 rfl (snd_cons (snd_sub (snd_name (by kernel_rfl)) snd_int) (snd_cons (by exact snd_tuple (snd_cons (snd_meth hK.inn (c_Renamer hK) (m_Renamer_head hK) (snd_name (by kernel_rfl)) rfl (snd_cons (snd_name (by kernel_rfl)) (snd_cons (snd_name (by kernel_rfl)) (snd_cons (snd_name (by kernel_rfl)) (snd_cons (snd_bin (snd_name (by kernel_rfl)) snd_int) snd_nil))))) (snd_cons (snd_meth hK.inn (c_Renamer hK) (m_Renamer_body hK) (snd_name (by kernel_rfl)) rfl (snd_cons (snd_name (by kernel_rfl)) (snd_cons (snd_name (by kernel_rfl)) (snd_cons (snd_bin (snd_name (by kernel_rfl)) snd_int) snd_nil)))) snd_nil))) snd_nil))))))))
noncomputable def t_Renamer_head_1 (W : Wd) : TrS := (t_sns_ret (t_snd_callf W 21 (t_snd_cons (t_snd_sub (t_snd_name 3) (t_snd_int 1)) (t_snd_cons (t_snd_bin .Add (t_snd_list (t_snd_cons (t_snd_name 5) t_snd_nil)) (t_snd_meth W "all_of" 434 367 (t_snd_name 0) (t_snd_cons (t_snd_name 2) (t_snd_cons (t_snd_from1 (t_snd_sub (t_snd_name 3) (t_snd_int 2))) (t_snd_cons (t_snd_bin .Add (t_snd_name 4) (t_snd_int 1)) t_snd_nil))))) t_snd_nil))))
noncomputable def t_Renamer_head_2 (W : Wd) : TrS := (t_sns_ret (t_snd_callf W 21 (t_snd_cons (t_snd_str "call") (t_snd_cons (t_snd_bin .Add (t_snd_list (t_snd_cons (t_snd_name 7) t_snd_nil)) (t_snd_comp [("own", 2), ("self", 0), ("deep", 4)] (t_sni_val (t_snd_from1 (t_snd_sub (t_snd_name 3) (t_snd_int 2)))) t_sndf_nil (t_snd_meth W "argument" 434 405 (t_snd_name 2) (t_snd_cons (t_snd_name 1) (t_snd_cons (t_snd_name 0) (t_snd_cons (t_snd_bin .Add (t_snd_name 3) (t_snd_int 1)) t_snd_nil)))))) t_snd_nil))))
noncomputable def t_Renamer_head_3 (W : Wd) : TrS := (t_snb_cons (t_sns_assign 7 (t_snd_if (t_snd_tplain (t_snd_callf W 28 (t_snd_cons (t_snd_name 6) (t_snd_cons (t_snd_str "::") t_snd_nil)))) (t_snd_meth W "of" 434 374 (t_snd_name 0) (t_snd_cons (t_snd_name 2) (t_snd_cons (t_snd_name 6) (t_snd_cons (t_snd_bin .Add (t_snd_name 4) (t_snd_int 1)) t_snd_nil)))) (t_snd_meth W "of" 434 374 (t_snd_name 0) (t_snd_cons (t_snd_name 1) (t_snd_cons (t_snd_name 6) (t_snd_cons (t_snd_bin .Add (t_snd_name 4) (t_snd_int 1)) t_snd_nil)))))) (t_Renamer_head_2 W))
noncomputable def t_Renamer_head_4 (W : Wd) : TrS := (t_sns_ret (t_snd_meth W "of" 434 374 (t_snd_name 0) (t_snd_cons (t_snd_name 2) (t_snd_cons (t_snd_name 3) (t_snd_cons (t_snd_bin .Add (t_snd_name 4) (t_snd_int 1)) t_snd_nil)))))
noncomputable def t_Renamer_head_5 (W : Wd) : TrS := (t_snb_cons (t_sns_if (t_snd_tplain (t_snd_callf W 28 (t_snd_cons (t_snd_name 3) (t_snd_cons (t_snd_str "tuple") t_snd_nil)))) (t_sns_ret (t_snd_callf W 21 (t_snd_cons (t_snd_str "tuple") (t_snd_cons (t_snd_comp [("own", 2), ("self", 0), ("deep", 4)] (t_sni_val (t_snd_sub (t_snd_name 3) (t_snd_int 2))) t_sndf_nil (t_snd_meth W "argument" 434 405 (t_snd_name 2) (t_snd_cons (t_snd_name 1) (t_snd_cons (t_snd_name 0) (t_snd_cons (t_snd_bin .Add (t_snd_name 3) (t_snd_int 1)) t_snd_nil))))) t_snd_nil)))) t_snb_nil) (t_Renamer_head_4 W))
noncomputable def t_Renamer_head_6 (W : Wd) : TrS := (t_snb_cons (t_sns_if (t_snd_tplain (t_snd_callf W 28 (t_snd_cons (t_snd_name 3) (t_snd_cons (t_snd_str "call") t_snd_nil)))) (t_snb_cons (t_sns_assign 6 (t_snd_sub (t_snd_sub (t_snd_name 3) (t_snd_int 2)) (t_snd_int 0))) (t_Renamer_head_3 W)) t_snb_nil) (t_Renamer_head_5 W))
noncomputable def t_Renamer_head_7 (W : Wd) : TrS := (t_snb_cons (t_sns_if (t_snd_tor (t_snd_tplain (t_snd_callf W 28 (t_snd_cons (t_snd_name 3) (t_snd_cons (t_snd_str "where") t_snd_nil)))) (t_snd_tor (t_snd_tand (t_snd_tplain (t_snd_callf W 28 (t_snd_cons (t_snd_name 3) (t_snd_cons (t_snd_str "::") t_snd_nil)))) (t_snd_tand (t_snd_tcmp .In (t_snd_callf W 35 (t_snd_cons (t_snd_sub (t_snd_sub (t_snd_name 3) (t_snd_int 2)) (t_snd_int 0)) t_snd_nil)) (t_snd_tuple (t_snd_cons (t_snd_str "call") (t_snd_cons (t_snd_str "where") (t_snd_cons (t_snd_str "tuple") t_snd_nil))))) t_snd_tand0)) t_snd_tor0)) (t_snb_cons (t_sns_assign 5 (t_snd_meth W "head" 434 398 (t_snd_name 0) (t_snd_cons (t_snd_name 1) (t_snd_cons (t_snd_name 2) (t_snd_cons (t_snd_sub (t_snd_sub (t_snd_name 3) (t_snd_int 2)) (t_snd_int 0)) (t_snd_cons (t_snd_bin .Add (t_snd_name 4) (t_snd_int 1)) t_snd_nil)))))) (t_Renamer_head_1 W)) t_snb_nil) (t_Renamer_head_6 W))
noncomputable def t_Renamer_head (W : Wd) : TrS := (t_snb_cons (t_sns_if (t_snd_tcmp .Gt (t_snd_name 4) (t_snd_gint 120)) t_sns_no t_snb_nil) (t_Renamer_head_7 W))
theorem d_Renamer_head {W : Wd} {K : Frag} (hK : FK W K) (hB : Bu W) : SndB W (scOf (selM 54 9)) (["self", "env", "own", "tree", "deep", "inner", "callee", "called"] : List Str) (bodyOf (selM 54 9)) (t_Renamer_head W) := (snb_cons (sns_if (snd_tcmp (snd_name (by kernel_rfl)) (snd_gint hK.inn (by kernel_rfl) (s_MOST_DEEP hK))) (snb_one sns_no) snb_nil) (snb_cons (sns_if (snd_tor (snd_tplain (snd_callf (by kernel_rfl) (g_is_expr hK).1 (g_is_expr hK).2 rfl (snd_cons (snd_name (by kernel_rfl)) (snd_cons snd_str snd_nil)))) (snd_tor (snd_tand (snd_tplain (snd_callf (by kernel_rfl) (g_is_expr hK).1 (g_is_expr hK).2 rfl (snd_cons (snd_name (by kernel_rfl)) (snd_cons snd_str snd_nil)))) (snd_tand (snd_tcmp (snd_callf (by kernel_rfl) (g_head_of hK).1 (g_head_of hK).2 rfl (snd_cons (snd_sub (snd_sub (snd_name (by kernel_rfl)) snd_int) snd_int) snd_nil)) (by exact snd_tuple (snd_cons snd_str (snd_cons snd_str (snd_cons snd_str snd_nil))))) snd_tand0)) snd_tor0)) (snb_cons (sns_assign (i := 5) (by kernel_rfl) (snd_meth hK.inn (c_Renamer hK) (m_Renamer_head hK) (snd_name (by kernel_rfl)) rfl (snd_cons (snd_name (by kernel_rfl)) (snd_cons (snd_name (by kernel_rfl)) (snd_cons (snd_sub (snd_sub (snd_name (by kernel_rfl)) snd_int) snd_int) (snd_cons (snd_bin (snd_name (by kernel_rfl)) snd_int) snd_nil)))))) (snb_one (sns_ret (snd_callf (by kernel_rfl) (g_expr hK).1 (g_expr hK).2 rfl (snd_cons (snd_sub (snd_name (by kernel_rfl)) snd_int) (snd_cons (snd_bin (by exact snd_list (snd_cons (snd_name (by kernel_rfl)) snd_nil)) (snd_meth hK.inn (c_Renamer hK) (m_Renamer_all_of hK) (snd_name (by kernel_rfl)) rfl (snd_cons (snd_name (by kernel_rfl)) (snd_cons (snd_from1 (snd_sub (snd_name (by kernel_rfl)) snd_int)) (snd_cons (snd_bin (snd_name (by kernel_rfl)) snd_int) snd_nil))))) snd_nil)))))) snb_nil) (snb_cons (sns_if (snd_tplain (snd_callf (by kernel_rfl) (g_is_expr hK).1 (g_is_expr hK).2 rfl (snd_cons (snd_name (by kernel_rfl)) (snd_cons snd_str snd_nil)))) (snb_cons (sns_assign (i := 6) (by kernel_rfl) (snd_sub (snd_sub (snd_name (by kernel_rfl)) snd_int) snd_int)) (snb_cons (sns_assign (i := 7) (by kernel_rfl) (snd_if (snd_tplain (snd_callf (by kernel_rfl) (g_is_expr hK).1 (g_is_expr hK).2 rfl (snd_cons (snd_name (by kernel_rfl)) (snd_cons snd_str snd_nil)))) (snd_meth hK.inn (c_Renamer hK) (m_Renamer_of hK) (snd_name (by kernel_rfl)) rfl (snd_cons (snd_name (by kernel_rfl)) (snd_cons (snd_name (by kernel_rfl)) (snd_cons (snd_bin (snd_name (by kernel_rfl)) snd_int) snd_nil)))) (snd_meth hK.inn (c_Renamer hK) (m_Renamer_of hK) (snd_name (by kernel_rfl)) rfl (snd_cons (snd_name (by kernel_rfl)) (snd_cons (snd_name (by kernel_rfl)) (snd_cons (snd_bin (snd_name (by kernel_rfl)) snd_int) snd_nil)))))) (snb_one (sns_ret (snd_callf (by kernel_rfl) (g_expr hK).1 (g_expr hK).2 rfl (snd_cons snd_str (snd_cons (snd_bin (by exact snd_list (snd_cons (snd_name (by kernel_rfl)) snd_nil)) (snd_comp [("own", 2), ("self", 0), ("deep", 4)] (by kernel_rfl) (sni_val (snd_from1 (snd_sub (snd_name (by kernel_rfl)) snd_int))) sndf_nil (snd_meth hK.inn (c_Renamer hK) (m_Renamer_argument hK) (snd_name (by kernel_rfl)) rfl (snd_cons (snd_name (by kernel_rfl)) (snd_cons (snd_name (by kernel_rfl)) (snd_cons (snd_bin (snd_name (by kernel_rfl)) snd_int) snd_nil)))))) snd_nil))))))) snb_nil) (snb_cons (sns_if (snd_tplain (snd_callf (by kernel_rfl) (g_is_expr hK).1 (g_is_expr hK).2 rfl (snd_cons (snd_name (by kernel_rfl)) (snd_cons snd_str snd_nil)))) (snb_one (sns_ret (snd_callf (by kernel_rfl) (g_expr hK).1 (g_expr hK).2 rfl (snd_cons snd_str (snd_cons (snd_comp [("own", 2), ("self", 0), ("deep", 4)] (by kernel_rfl) (sni_val (snd_sub (snd_name (by kernel_rfl)) snd_int)) sndf_nil (snd_meth hK.inn (c_Renamer hK) (m_Renamer_argument hK) (snd_name (by kernel_rfl)) rfl (snd_cons (snd_name (by kernel_rfl)) (snd_cons (snd_name (by kernel_rfl)) (snd_cons (snd_bin (snd_name (by kernel_rfl)) snd_int) snd_nil))))) snd_nil))))) snb_nil) (snb_one (sns_ret (snd_meth hK.inn (c_Renamer hK) (m_Renamer_of hK) (snd_name (by kernel_rfl)) rfl (snd_cons (snd_name (by kernel_rfl)) (snd_cons (snd_name (by kernel_rfl)) (snd_cons (snd_bin (snd_name (by kernel_rfl)) snd_int) snd_nil))))))))))
noncomputable def t_Renamer_argument_1 (W : Wd) : TrS := (t_sns_ret (t_snd_meth W "of" 434 374 (t_snd_name 0) (t_snd_cons (t_snd_name 1) (t_snd_cons (t_snd_name 2) (t_snd_cons (t_snd_name 3) t_snd_nil)))))
noncomputable def t_Renamer_argument (W : Wd) : TrS := (t_snb_cons (t_sns_if (t_snd_tplain (t_snd_callf W 28 (t_snd_cons (t_snd_name 2) (t_snd_cons (t_snd_str "kw") t_snd_nil)))) (t_sns_ret (t_snd_callf W 21 (t_snd_cons (t_snd_str "kw") (t_snd_cons (t_snd_meth W "all_of" 434 367 (t_snd_name 0) (t_snd_cons (t_snd_name 1) (t_snd_cons (t_snd_sub (t_snd_name 2) (t_snd_int 2)) (t_snd_cons (t_snd_bin .Add (t_snd_name 3) (t_snd_int 1)) t_snd_nil)))) t_snd_nil)))) t_snb_nil) (t_Renamer_argument_1 W))
theorem d_Renamer_argument {W : Wd} {K : Frag} (hK : FK W K) (hB : Bu W) : SndB W (scOf (selM 54 10)) (["self", "own", "tree", "deep"] : List Str) (bodyOf (selM 54 10)) (t_Renamer_argument W) := (snb_cons (sns_if (snd_tplain (snd_callf (by kernel_rfl) (g_is_expr hK).1 (g_is_expr hK).2 rfl (snd_cons (snd_name (by kernel_rfl)) (snd_cons snd_str snd_nil)))) (snb_one (sns_ret (snd_callf (by kernel_rfl) (g_expr hK).1 (g_expr hK).2 rfl (snd_cons snd_str (snd_cons (snd_meth hK.inn (c_Renamer hK) (m_Renamer_all_of hK) (snd_name (by kernel_rfl)) rfl (snd_cons (snd_name (by kernel_rfl)) (snd_cons (snd_sub (snd_name (by kernel_rfl)) snd_int) (snd_cons (snd_bin (snd_name (by kernel_rfl)) snd_int) snd_nil)))) snd_nil))))) snb_nil) (snb_one (sns_ret (snd_meth hK.inn (c_Renamer hK) (m_Renamer_of hK) (snd_name (by kernel_rfl)) rfl (snd_cons (snd_name (by kernel_rfl)) (snd_cons (snd_name (by kernel_rfl)) (snd_cons (snd_name (by kernel_rfl)) snd_nil)))))))

/-! ## E0 -/
/-! ### trees -/
inductive T where
  | sym (n : Str)
  | int (i : Int)
  | ex (h : Str) (ps : List T)
mutual
noncomputable def T.enc : T → PyData
  | .sym n => .tuple [.str "sym", .str n]
  | .int i => .tuple [.str "int", .int i]
  | .ex h ps => .tuple [.str "expr", .str h, .tuple (T.encs ps)]
noncomputable def T.encs : List T → List PyData
  | [] => []
  | t :: r => t.enc :: T.encs r
end
theorem encs_map (l : List T) : T.encs l = l.map T.enc := by
  induction l with
  | nil => rfl
  | cons t r ih => show t.enc :: T.encs r = _; rw [ih]; rfl
noncomputable def T.isEx : T → Str → Bool
  | .ex h _, x => h == x
  | _, _ => false
noncomputable def T.head : T → Str
  | .ex h _ => h
  | _ => ""
noncomputable def T.parts : T → List T
  | .ex _ ps => ps
  | _ => []
noncomputable def T.isSym : T → Bool
  | .sym _ => true
  | _ => false

theorem take_closed {H : List O} (hc : Closed H) : (H.take H.length).all (oIn H.length) = true := by rw [List.take_length]; exact hc
theorem ret_same {H : List O} {x : PyData} {Q : V → List O → Prop} (hc : Closed H) (hq : Q (.d x) H) : RetW H.length (.ret (.d x)) H Q :=
  ⟨take_closed hc, .inl ⟨x, rfl, by rw [List.take_length]; exact hq⟩⟩
theorem rett_same {H : List O} {vs : List V} {xs : List PyData} {Q : V → List O → Prop} (hc : Closed H) (hx : frzs H.length H vs = some xs) (hq : Q (.d (.tuple xs)) H) : RetW H.length (.rett vs) H Q :=
  ⟨take_closed hc, xs, hx, by rw [List.take_length]; exact hq⟩
/-- what is made in the call goes, the rest stands -/
theorem ret_app {H G : List O} {x : PyData} {v : V} {Q : V → List O → Prop} (hc : Closed H) (hx : frz H.length (H ++ G) v = some x) (hq : Q (.d x) H) : RetW H.length (.ret v) (H ++ G) Q := by
  refine ⟨by rw [List.take_left]; exact hc, .inl ⟨x, hx, by rw [List.take_left]; exact hq⟩⟩

/-! ### where a run looks at an object -/
theorem lstV_ref {H : List O} {i : Nat} {l : List PyData} {Q : Nat → List PyData → Prop} (h : H[i]? = some (.list l)) (q : Q i l) : lstV (.ref i) H Q := by
  refine .mk ?_; show (match H[i]? with | some o => o.onL (Q i) | none => False); rw [h]; exact q
theorem seqV_ref {H : List O} {i : Nat} {l : List PyData} {Q : List PyData → Prop} (h : H[i]? = some (.list l)) (q : Q l) : seqV (.ref i) H Q := by
  show seqS _ _ _
  refine .mk ?_; unfold seqV0; rw [viewD_l h]; exact q
theorem dctV_ref {H : List O} {i : Nat} {l : List (Str × PyData)} {Q : Nat → List (Str × PyData) → Prop} (h : H[i]? = some (.dict l)) (q : Q i l) : dctV (.ref i) H Q := by
  refine .mk ?_; show (match H[i]? with | some o => o.onD (Q i) | none => False); rw [h]; exact q
theorem instV_ref {H : List O} {i : Nat} {C : Addr} {fs : List (Str × V)} {Q : Nat → List (Str × V) → Prop} (h : H[i]? = some (.inst C fs)) (q : Q i fs) : instV (.ref i) C H Q := by
  refine .mk ?_; show (match H[i]? with | some o => o.onI C (Q i) | none => False); rw [h]; exact ⟨rfl, q⟩
theorem cmpS_d {op : CmpOp} {x y : PyData} {H : List O} {Q : Bool → Prop} (q : cmpW op x y Q) : cmpS op (.d x) (.d y) H Q := ⟨q⟩
theorem idxV_l {l : List PyData} {k : Int} {H : List O} {Q : V → List O → Prop} (q : itemAt l k fun y => Q (.d y) H) : idxV (.d (.list l)) (.d (.int k)) H Q := q
noncomputable def sl (l : List Str) : List PyData := l.map .str
theorem sl_len (l : List Str) : (sl l).length = l.length := by simp [sl]
theorem strsOf_sl (l : List Str) : strsOf (sl l) = some l := strsOf_map l
theorem cmp_notin {H : List O} {i : Nat} {l : List Str} {x : Str} {Q : Bool → Prop} (h : H[i]? = some (.list (sl l))) (q : Q (!l.any (· == x))) : cmpS .NotIn (.d (.str x)) (.ref i) H Q := by
  refine .mk ?_; unfold cmpV0; rw [dictOf_l h, viewD_l h]; show inS (sl l) x fun b => Q (!b); unfold inS; rw [strsOf_sl]; exact q
theorem cmp_ne_nil {H : List O} {i : Nat} {l : List PyData} {Q : Bool → Prop} (h : H[i]? = some (.list l)) (q : Q (!l.isEmpty)) : cmpS .NotEq (.ref i) (.d (.list [])) H Q := by
  refine .mk ?_; unfold cmpV0; rw [viewD_l h]; exact q
theorem set_at_self {H : List O} {i : Nat} {o o' : O} (h : H[i]? = some o) : (H.set i o')[i]? = some o' := by
  have := (List.getElem?_eq_some_iff.mp h).1
  simp [this]

theorem frz_new (H : List O) (l : List PyData) : frz H.length (H ++ [.list l]) (.ref H.length) = some (.list l) := by
  unfold frz; simp

/-! a goal is read as what it unfolds to (the unifier unfolds it; nothing of the way there is kept) -/
theorem isCall {W : Wd} {f : Addr} {d : Nat} {a : List V} {H : List O} {Q : V → List O → Prop} (h : CallW W f d a H Q) : CallW W f d a H Q := h
theorem isRet {n : Nat} {fl : Fl} {H : List O} {Q : V → List O → Prop} (h : RetW n fl H Q) : RetW n fl H Q := h
theorem isFor {d : Nat} {x : TrS} {i : Nat} {l : List PyData} {ρ : Rho} {H : List O} {Q : Fl → Rho → List O → Prop} (h : forL d x i l ρ H Q) : forL d x i l ρ H Q := h
theorem isWh {d : Nat} {t : TrB} {x : TrS} {n : Nat} {ρ : Rho} {H : List O} {Q : Fl → Rho → List O → Prop} (h : whL d t x n ρ H Q) : whL d t x n ρ H Q := h

theorem ite_f {b : Bool} {A B : Prop} (h : b = false) (q : B) : if b = true then A else B := by subst h; exact q
theorem ite_t {b : Bool} {A B : Prop} (h : b = true) (q : A) : if b = true then A else B := by subst h; exact q
theorem ln0 {α : Type} {m : Nat} (h : 0 ≤ m) : ([] : List α).length ≤ m := h
theorem ln1 {α : Type} (a0 : α) {m : Nat} (h : 1 ≤ m) : ([a0] : List α).length ≤ m := h
theorem ln2 {α : Type} (a0 a1 : α) {m : Nat} (h : 2 ≤ m) : ([a0, a1] : List α).length ≤ m := h
theorem ln3 {α : Type} (a0 a1 a2 : α) {m : Nat} (h : 3 ≤ m) : ([a0, a1, a2] : List α).length ≤ m := h
theorem ln4 {α : Type} (a0 a1 a2 a3 : α) {m : Nat} (h : 4 ≤ m) : ([a0, a1, a2, a3] : List α).length ≤ m := h
theorem ln5 {α : Type} (a0 a1 a2 a3 a4 : α) {m : Nat} (h : 5 ≤ m) : ([a0, a1, a2, a3, a4] : List α).length ≤ m := h
theorem ln6 {α : Type} (a0 a1 a2 a3 a4 a5 : α) {m : Nat} (h : 6 ≤ m) : ([a0, a1, a2, a3, a4, a5] : List α).length ≤ m := h
local macro_rules | `(tactic| walk_at "cw") => `(tactic| (conv => whnf))
local macro_rules | `(tactic| walk_at "ln") => `(tactic| (focus (first | decide | rfl | exact ln1 _ (by decide) | exact ln2 _ _ (by decide) | exact ln3 _ _ _ (by decide) | exact ln0 (by decide) | exact ln4 _ _ _ _ (by decide) | exact ln5 _ _ _ _ _ (by decide) | exact ln6 _ _ _ _ _ _ (by decide))))
local macro_rules | `(tactic| walk_at "nl") => `(tactic| (first | refine isFor ?_ | refine isWh ?_ | walk_at "cw"))
local macro_rules | `(tactic| walk_at "s0") => `(tactic| (first
  | (refine And.intro ?_ ?_; walk_at "ln")
  | apply cmpS_d
  | ((first | apply lstV_ref | apply seqV_ref | apply dctV_ref | apply instV_ref | apply cmp_notin | apply cmp_ne_nil); (focus assumption))))
local macro_rules | `(tactic| walk_at "go") => `(tactic| (first | refine isCall ?_ | (walk_at "s0"; walk_at "go") | refine isRet ?_ | skip))

section
variable {W : Wd} {K : Frag} (hK : FK W K) (hB : Bu W)
include hK hB
theorem k_is_expr {d : Nat} {t : T} {h : Str} {H : List O} {Q : V → List O → Prop} (hq : Q (.d (.bool (t.isEx h))) H) : CallW W 28 (d + 1) [.d t.enc, .d (.str h)] H Q := by
  refine call_fn hK (i := 1) rfl (d_is_expr hK hB) (n := 2) (by kernel_rfl) rfl (by kernel_rfl) ?_
  intro hc
  cases t with
  | sym n => walk_at "go"; exact ret_same hc hq
  | int i => walk_at "go"; exact ret_same hc hq
  | ex h ps => walk_at "go"; exact ret_same hc hq
theorem k_head_of {d : Nat} {t : T} {H : List O} {Q : V → List O → Prop} (hq : Q (.d (.str t.head)) H) : CallW W 35 (d + 1) [.d t.enc] H Q := by
  refine call_fn hK (i := 2) rfl (d_head_of hK hB) (n := 1) (by kernel_rfl) rfl (by kernel_rfl) ?_
  intro hc
  cases t with
  | sym n => walk_at "go"; exact ret_same hc hq
  | int i => walk_at "go"; exact ret_same hc hq
  | ex h ps => walk_at "go"; exact ret_same hc hq
theorem k_parts_of {d : Nat} {t : T} {H : List O} {Q : V → List O → Prop} (hq : Q (.d (.tuple (T.encs t.parts))) H) : CallW W 42 (d + 1) [.d t.enc] H Q := by
  refine call_fn hK (i := 3) rfl (d_parts_of hK hB) (n := 1) (by kernel_rfl) rfl (by kernel_rfl) ?_
  intro hc
  cases t with
  | sym n => walk_at "go"; exact ret_same hc hq
  | int i => walk_at "go"; exact ret_same hc hq
  | ex h ps => walk_at "go"; exact ret_same hc hq
theorem k_is_sym {d : Nat} {t : T} {H : List O} {Q : V → List O → Prop} (hq : Q (.d (.bool t.isSym)) H) : CallW W 49 (d + 1) [.d t.enc] H Q := by
  refine call_fn hK (i := 4) rfl (d_is_sym hK hB) (n := 1) (by kernel_rfl) rfl (by kernel_rfl) ?_
  intro hc
  cases t with
  | sym n => walk_at "go"; exact ret_same hc hq
  | int i => walk_at "go"; exact ret_same hc hq
  | ex h ps => walk_at "go"; exact ret_same hc hq
end

/-! ## E1 -/
theorem forL_ind {d : Nat} {x : TrS} {i : Nat} {Q : Fl → Rho → List O → Prop} (I : List PyData → Rho → List O → Prop) (h0 : ∀ ρ H, I [] ρ H → Q .next ρ H)
    (h1 : ∀ y r ρ H, I (y :: r) ρ H → (∀ ρ' H', I r ρ' H' → forL d x i r ρ' H' Q) → x d (ρ.set i (some (.d y))) H fun fl ρ H => match fl with
      | .next => forL d x i r ρ H Q
      | .cont => forL d x i r ρ H Q
      | .brk => Q .next ρ H
      | fl => Q fl ρ H) : ∀ {l : List PyData} {ρ : Rho} {H : List O}, I l ρ H → forL d x i l ρ H Q
  | [], ρ, H, h => h0 ρ H h
  | y :: r, ρ, H, h => h1 y r ρ H h fun ρ' H' h' => forL_ind I h0 h1 h'

theorem whL_ind {d : Nat} {t : TrB} {x : TrS} {Q : Fl → Rho → List O → Prop} (I : Nat → Rho → List O → Prop)
    (h : ∀ n k ρ H, n ≤ k → I n ρ H → (∀ m ρ' H', m < n → I m ρ' H' → whL d t x k ρ' H' Q) → t d ρ H fun c H => if c = true then x d ρ H fun fl ρ H => (match fl with
      | .next => whL d t x k ρ H Q
      | .cont => whL d t x k ρ H Q
      | .brk => Q .next ρ H
      | fl => Q fl ρ H) else Q .next ρ H) : ∀ k n ρ H, n ≤ k → I n ρ H → whL d t x (k + 1) ρ H Q
  | 0, n, ρ, H, hn, hi => h n 0 ρ H hn hi fun m _ _ hm _ => by lia
  | k + 1, n, ρ, H, hn, hi => h n (k + 1) ρ H hn hi fun m ρ' H' hm hi' => whL_ind I h k m ρ' H' (by lia) hi'

theorem compL_ind {d : Nat} {t : TrB} {x : Tr} {ρ : Rho} {caps : List (Str × Nat)} {Q : List PyData → List O → Prop} (I : List PyData → List PyData → List O → Prop) (h0 : ∀ acc H, I [] acc H → Q acc H)
    (h1 : ∀ y r acc H, I (y :: r) acc H → (∀ acc' H', I r acc' H' → compL d t x ρ caps r acc' H' Q) → t d (compRho ρ caps (.d y)) H fun b H => if b = true then x d (compRho ρ caps (.d y)) H fun v H => (match v with | .d z => compL d t x ρ caps r (acc ++ [z]) H Q | .ref _ => False) else compL d t x ρ caps r acc H Q) :
    ∀ {l acc : List PyData} {H : List O}, I l acc H → compL d t x ρ caps l acc H Q
  | [], acc, H, h => h0 acc H h
  | y :: r, acc, H, h => h1 y r acc H h fun acc' H' h' => compL_ind I h0 h1 h'

/-- names put once each -/
noncomputable def once : List Str → List Str → List Str
  | l, [] => l
  | l, x :: r => once (if l.any (· == x) then l else l ++ [x]) r
theorem once_len : ∀ (r l : List Str), (once l r).length ≤ l.length + r.length
  | [], l => by simp [once]
  | x :: r, l => by
    unfold once
    have := once_len r (if l.any (· == x) then l else l ++ [x])
    split at this <;> split <;> simp_all <;> lia

theorem sl_app (a b : List Str) : sl (a ++ b) = sl a ++ sl b := by simp [sl]
theorem set_same {H : List O} {i : Nat} {o : O} (h : H[i]? = some o) : H.set i o = H := by
  obtain ⟨h1, h2⟩ := List.getElem?_eq_some_iff.mp h
  rw [← h2]; exact List.set_getElem_self h1
theorem closed_set {H : List O} {i : Nat} {o : O} (hc : Closed H) (ho : oIn H.length o = true) : ((H.set i o).take H.length).all (oIn H.length) = true := by
  rw [List.take_of_length_le (by rw [List.length_set]; exact Nat.le_refl _)]
  refine List.all_eq_true.mpr fun x hx => ?_
  rcases List.mem_or_eq_of_mem_set hx with h | rfl
  · exact List.all_eq_true.mp hc x h
  · exact ho
theorem ret_none_set {H : List O} {i : Nat} {l : List PyData} {Q : V → List O → Prop} (hc : Closed H) (hq : Q (.d .none) (H.set i (.list l))) : RetW H.length .next (H.set i (.list l)) Q :=
  ⟨closed_set hc rfl, by rw [List.take_of_length_le (by rw [List.length_set]; exact Nat.le_refl _)]; exact hq⟩

section
variable {W : Wd} {K : Frag} (hK : FK W K) (hB : Bu W)
include hK hB
theorem k_expr_t {d : Nat} {h : Str} {ps : List PyData} {H : List O} {Q : V → List O → Prop} (hl : ps.length ≤ 60000) (hq : Q (.d (.tuple [.str "expr", .str h, .tuple ps])) H) : CallW W 21 (d + 1) [.d (.str h), .d (.tuple ps)] H Q := by
  refine call_fn hK (i := 0) rfl (d_expr hK hB) (n := 2) (by kernel_rfl) rfl (by kernel_rfl) ?_
  intro hc
  walk_at "go"
  refine ⟨by lia, ?_⟩
  walk_at "go"
  refine rett_same hc ?_ hq; rfl
theorem k_expr_l {d : Nat} {h : Str} {ps : List PyData} {H : List O} {Q : V → List O → Prop} (hl : ps.length ≤ 60000) (hq : Q (.d (.tuple [.str "expr", .str h, .tuple ps])) H) : CallW W 21 (d + 1) [.d (.str h), .d (.list ps)] H Q := by
  refine call_fn hK (i := 0) rfl (d_expr hK hB) (n := 2) (by kernel_rfl) rfl (by kernel_rfl) ?_
  intro hc
  walk_at "go"
  refine ⟨by lia, ?_⟩
  walk_at "go"
  refine rett_same hc ?_ hq; rfl

theorem k_put_once {d i : Nat} {l ns : List Str} {H : List O} {Q : V → List O → Prop} (hi : H[i]? = some (.list (sl l))) (hl : l.length + ns.length ≤ 60000) (hq : Q (.d .none) (H.set i (.list (sl (once l ns))))) : CallW W 59 (d + 1) [.ref i, .d (.list (sl ns))] H Q := by
  refine call_fn hK (i := 5) rfl (d_put_once hK hB) (n := 3) (by kernel_rfl) rfl (by kernel_rfl) ?_
  intro hc
  walk_at "go"
  refine forL_ind (I := fun r ρ H' => ∃ ns' l' x, r = sl ns' ∧ ρ = [some (.ref i), some (.d (.list (sl ns))), x] ∧ H' = H.set i (.list (sl l')) ∧ l'.length + ns'.length ≤ 60000 ∧ once l' ns' = once l ns) ?_ ?_ ⟨ns, l, none, rfl, rfl, ?_, hl, rfl⟩
  · rintro ρ H' ⟨ns', l', x, e, rfl, rfl, _, ho⟩
    cases ns' with
    | cons => cases e
    | nil =>
      have ho' : l' = once l ns := ho
      rw [ho']
      exact ret_none_set hc hq
  · rintro y r ρ H' ⟨ns', l', x, e, rfl, e', hle, ho⟩ ih
    cases ns' with
    | nil => cases e
    | cons n ns' =>
      cases e
      have hH : H'[i]? = some (.list (sl l')) := by rw [e']; exact set_at_self hi
      walk_at "go"
      cases hb : l'.any (· == n) with
      | true =>
        walk_at "go"
        refine ih _ _ ⟨ns', l', _, rfl, rfl, e', by simp only [List.length_cons] at hle; lia, ?_⟩
        rw [← ho]; conv => rhs; unfold once
        rw [hb]; rfl
      | false =>
        walk_at "go"
        refine ⟨by rw [sl_len]; lia, ?_⟩
        walk_at "go"
        refine ih _ _ ⟨ns', l' ++ [n], _, rfl, rfl, ?_, by simp only [List.length_cons, List.length_append, List.length_singleton, List.length_nil] at hle ⊢; lia, ?_⟩
        · rw [e', List.set_set, sl_app]; rfl
        · rw [← ho]; conv => rhs; unfold once
          rw [hb]; rfl
  · exact (set_same hi).symm
end

/-! ## E2 -/
section
variable {W : Wd} {K : Frag} (hK : FK W K) (hB : Bu W)
include hK hB
theorem k_put_new {d : Nat} {l ns : List Str} {H : List O} {Q : V → List O → Prop} (hl : l.length + ns.length ≤ 60000) (hq : Q (.d .none) (H ++ [.list (sl (once l ns))])) : CallW W 59 (d + 1) [.ref H.length, .d (.list (sl ns))] (H ++ [.list (sl l)]) Q :=
  k_put_once hK hB (l := l) (by simp) hl (by rw [List.set_append_right _ _ (Nat.le_refl _), Nat.sub_self]; exact hq)
theorem k_ps_sym {d : Nat} {n : Str} {H : List O} {Q : V → List O → Prop} (hq : Q (.d (.list (sl [n]))) H) : CallW W 66 (d + 2) [.d (T.sym n).enc] H Q := by
  refine call_fn hK (i := 6) rfl (d_place_names_scopes hK hB) (n := 5) (by kernel_rfl) rfl (by kernel_rfl) ?_
  intro hc
  walk_at "go"
  refine k_is_sym hK hB ?_
  walk_at "go"
  exact ret_same hc hq
theorem k_ps_ty {d : Nat} {n t : Str} {H : List O} {Q : V → List O → Prop} (hq : Q (.d (.list (sl [n]))) H) : CallW W 66 (d + 3) [.d (T.ex "::" [.sym n, .sym t]).enc] H Q := by
  refine call_fn hK (i := 6) rfl (d_place_names_scopes hK hB) (n := 5) (by kernel_rfl) rfl (by kernel_rfl) ?_
  intro hc
  walk_at "go"
  refine k_is_sym hK hB ?_
  walk_at "go"
  refine k_head_of hK hB ?_
  walk_at "go"
  refine k_parts_of hK hB ?_
  walk_at "go"
  refine k_ps_sym hK hB ?_
  walk_at "go"
  exact ret_same hc hq
theorem k_ps_rest {d : Nat} {n : Str} {H : List O} {Q : V → List O → Prop} (hq : Q (.d (.list (sl [n]))) H) : CallW W 66 (d + 3) [.d (T.ex "..." [.sym n]).enc] H Q := by
  refine call_fn hK (i := 6) rfl (d_place_names_scopes hK hB) (n := 5) (by kernel_rfl) rfl (by kernel_rfl) ?_
  intro hc
  walk_at "go"
  refine k_is_sym hK hB ?_
  walk_at "go"
  refine k_head_of hK hB ?_
  walk_at "go"
  refine k_parts_of hK hB ?_
  walk_at "go"
  refine k_ps_sym hK hB ?_
  walk_at "go"
  exact ret_same hc hq
theorem k_ps_tup {d : Nat} {n m : Str} {H : List O} {Q : V → List O → Prop} (hq : Q (.d (.list (sl (once [n] [m])))) H) : CallW W 66 (d + 3) [.d (T.ex "tuple" [.sym n, .sym m]).enc] H Q := by
  refine call_fn hK (i := 6) rfl (d_place_names_scopes hK hB) (n := 5) (by kernel_rfl) rfl (by kernel_rfl) ?_
  intro hc
  walk_at "go"
  refine k_is_sym hK hB ?_
  walk_at "go"
  refine k_head_of hK hB ?_
  walk_at "go"
  refine k_parts_of hK hB ?_
  walk_at "go"
  refine k_ps_sym hK hB ?_
  walk_at "go"
  refine k_put_new hK hB (l := []) (by simp) ?_
  walk_at "go"
  refine k_ps_sym hK hB ?_
  walk_at "go"
  refine k_put_new hK hB (by simp [once]) ?_
  walk_at "go"
  exact ret_app hc (frz_new _ _) hq
end

/-! ## E3 -/
/-- a head with a kind of what is given, and behind where -/
noncomputable def co : Bool → T → T
  | true, c => .ex "::" [c, .sym "R"]
  | false, c => c
noncomputable def wh : List T → T → T
  | [], c => c
  | b :: r, c => .ex "where" [wh r c, b]

section
variable {W : Wd} {K : Frag} (hK : FK W K) (hB : Bu W)
include hK hB
theorem k_fh_fun {d : Nat} {ws : List T} {b : Bool} {as : List T} {body : T} {H : List O} {Q : V → List O → Prop} (hq : Q (.d (T.ex "call" as).enc) H) : CallW W 73 (d + 3) [.d (T.ex "function" [wh ws (co b (.ex "call" as)), body]).enc] H Q := by
  refine call_fn hK (i := 7) rfl (d_function_head hK hB) (n := 2) (by kernel_rfl) rfl (by kernel_rfl) ?_
  intro hc
  walk_at "go"
  refine k_is_expr hK hB (t := T.ex "function" [wh ws (co b (.ex "call" as)), body]) ?_
  walk_at "go"
  refine ⟨ws.length + 1 + 1, ?_⟩
  refine whL_ind (I := fun n ρ H' => H' = H ∧ ∃ ws' b', n = List.length ws' + (if b' = true then 1 else 0) ∧ ρ = [some (.d (T.ex "function" [wh ws (co b (.ex "call" as)), body]).enc), some (.d (wh ws' (co b' (.ex "call" as))).enc)]) ?_ (ws.length + 1) (ws.length + (if b = true then 1 else 0)) _ _ (by split <;> omega) ⟨rfl, ws, b, rfl, rfl⟩
  rintro n k ρ H' hn ⟨rfl, ws', b', hnn, rfl⟩ ih
  cases ws' with
  | nil =>
    cases b' with
    | false =>
      walk_at "go"
      refine k_head_of hK hB (t := T.ex "call" as) ?_
      walk_at "go"
      refine k_head_of hK hB (t := T.ex "call" as) ?_
      walk_at "go"
      exact ret_same hc hq
    | true =>
      walk_at "go"
      refine k_head_of hK hB (t := T.ex "::" [.ex "call" as, .sym "R"]) ?_
      walk_at "go"
      refine k_head_of hK hB (t := T.ex "::" [.ex "call" as, .sym "R"]) ?_
      walk_at "go"
      refine k_is_expr hK hB (t := T.ex "function" [wh ws (co b (.ex "call" as)), body]) ?_
      walk_at "go"
      exact ih 0 _ _ (by rw [hnn]; decide) ⟨rfl, [], false, rfl, rfl⟩
  | cons w r =>
    walk_at "go"
    refine k_head_of hK hB (t := T.ex "where" [wh r (co b' (.ex "call" as)), w]) ?_
    walk_at "go"
    refine ih (r.length + (if b' = true then 1 else 0)) _ _ (by rw [hnn, List.length_cons]; omega) ⟨rfl, r, b', rfl, rfl⟩
theorem k_fh_arrow {d : Nat} {as : List T} {body : T} {H : List O} {Q : V → List O → Prop} (hq : Q (.d (T.ex "tuple" as).enc) H) : CallW W 73 (d + 3) [.d (T.ex "->" [.ex "tuple" as, body]).enc] H Q := by
  refine call_fn hK (i := 7) rfl (d_function_head hK hB) (n := 2) (by kernel_rfl) rfl (by kernel_rfl) ?_
  intro hc
  walk_at "go"
  refine k_is_expr hK hB (t := T.ex "->" [.ex "tuple" as, body]) ?_
  walk_at "go"
  refine ⟨1, ?_⟩
  walk_at "go"
  refine k_head_of hK hB (t := T.ex "tuple" as) ?_
  walk_at "go"
  refine k_head_of hK hB (t := T.ex "tuple" as) ?_
  walk_at "go"
  exact ret_same hc hq
end

/-! ## E4 -/
/-- an argument as the law builds it -/
inductive Ar where
  | nm (n : Str)
  | ty (n : Str)
  | df (n o : Str)
  | rs (n : Str)
  | tp (n m : Str)
noncomputable def Ar.t : Ar → T
  | .nm n => .sym n
  | .ty n => .ex "::" [.sym n, .sym "T"]
  | .df n o => .ex "kw" [.sym n, .sym o]
  | .rs n => .ex "..." [.sym n]
  | .tp n m => .ex "tuple" [.sym n, .sym m]
noncomputable def Ar.ns : Ar → List Str
  | .nm n => [n] | .ty n => [n] | .df n _ => [n] | .rs n => [n]
  | .tp n m => [n, m]
noncomputable def kwT (c : Int) (k : Str) : T := .ex "kw" [.sym k, .int c]
/-- what stands in the queue of argument_names -/
inductive It where
  | a (x : Ar)
  | k (k : Str) (c : Int)
  | s (n : Str)
  | p (ks : List Str) (c : Int)
noncomputable def It.t : It → T
  | .a x => x.t
  | .k y c => kwT c y
  | .s n => .sym n
  | .p ks c => .ex "parameters" (ks.map (kwT c))
noncomputable def It.now : It → List Str
  | .a x => x.ns | .k y _ => [y] | .s n => [n] | .p _ _ => []
noncomputable def It.late : It → List Str
  | .p zs _ => zs
  | _ => []
noncomputable def It.w : It → Nat
  | .a (.df _ _) => 2
  | .k _ _ => 2
  | .p ks _ => 1 + 2 * ks.length
  | _ => 1
noncomputable def itOut (l : List It) : List Str := l.flatMap It.now ++ l.flatMap It.late
noncomputable def itW : List It → Nat
  | [] => 0
  | x :: r => x.w + itW r
theorem itW_app : ∀ (a b : List It), itW (a ++ b) = itW a + itW b
  | [], b => by simp [itW]
  | x :: a, b => by simp [itW, itW_app a b]; lia
theorem itW_ks (c : Int) : ∀ ks : List Str, itW (ks.map fun k => It.k k c) = 2 * ks.length
  | [] => rfl
  | k :: ks => by simp only [List.map_cons, itW, It.w, itW_ks c ks, List.length_cons]; lia
theorem once_app : ∀ (a l b : List Str), once l (a ++ b) = once (once l a) b
  | [], l, b => rfl
  | x :: a, l, b => by
    show once (if l.any (· == x) then l else l ++ [x]) (a ++ b) = _
    rw [once_app a]; rfl
theorem encs_app (a b : List T) : T.encs (a ++ b) = T.encs a ++ T.encs b := by simp [encs_map]
noncomputable def its (l : List It) : List PyData := T.encs (l.map It.t)
theorem its_len (l : List It) : (its l).length = l.length := by simp [its, encs_map]
theorem itW_len : ∀ l : List It, l.length ≤ itW l
  | [] => Nat.le_refl _
  | x :: r => by
    have := itW_len r
    have h : 1 ≤ x.w := by cases x with
      | a y => cases y <;> simp [It.w]
      | k => simp [It.w]
      | s => simp [It.w]
      | p => simp [It.w]
    simp only [List.length_cons, itW]; lia

theorem now_ks (c : Int) (ks : List Str) : (ks.map fun k => It.k k c).flatMap It.now = ks := by
  induction ks with
  | nil => rfl
  | cons k r ih => simp only [List.map_cons, List.flatMap_cons, ih]; rfl
theorem late_ks (c : Int) (ks : List Str) : (ks.map fun k => It.k k c).flatMap It.late = [] := by
  induction ks with
  | nil => rfl
  | cons k r ih => simp only [List.map_cons, List.flatMap_cons, ih]; rfl

theorem once_tp (fs : List Str) (n m : Str) : once fs (once [n] [m]) = once fs [n, m] := by
  by_cases h : n = m
  · subst h
    have h1 : once [n] [n] = [n] := by simp [once]
    rw [h1]
    by_cases h2 : fs.any (· == n) = true
    · simp [once, h2]
    · simp [once, h2]
  · have h1 : once [n] [m] = [n, m] := by simp [once, h]
    rw [h1]
theorem ks_its (c : Int) (zs : List Str) : T.encs (zs.map (kwT c)) = its (zs.map fun k => It.k k c) := by
  unfold its; rw [List.map_map]; rfl
theorem its_app (a b : List It) : its (a ++ b) = its a ++ its b := by unfold its; rw [List.map_append, encs_app]
theorem out_p (zs : List Str) (c : Int) (r : List It) : itOut (r ++ zs.map fun k => It.k k c) = itOut (.p zs c :: r) := by
  unfold itOut
  rw [List.flatMap_append, List.flatMap_append, now_ks, late_ks, List.flatMap_cons, List.flatMap_cons, List.append_nil]
  show _ = ([] ++ _) ++ (zs ++ _)
  simp

/-- what is called -/
inductive Cl where
  | fn (c : Str)
  | ty (n : Str)
  | tup
noncomputable def Cl.call : Cl → List T → T
  | .fn c, as => .ex "call" (.sym c :: as)
  | .ty n, as => .ex "call" (.ex "::" [.sym n, .sym "P"] :: as)
  | .tup, as => .ex "tuple" as
noncomputable def Cl.ns : Cl → List Str
  | .ty n => [n]
  | _ => []

/-- in the loop of argument_names -/
noncomputable def AnI (H : List O) (l : List It) (fs0 : List Str) (n : Nat) (ρ : Rho) (H' : List O) : Prop :=
  ∃ l' fs v0 x, n = itW l' ∧ ρ = [some v0, some (.ref H.length), some (.ref (H ++ [O.list []]).length), x] ∧ H' = H ++ [.list (sl fs)] ++ [.list (its l')] ∧ itW l' ≤ 1000 ∧ fs.length + (itOut l').length ≤ 2000 ∧ once fs (itOut l') = once fs0 (itOut l)

section
variable {W : Wd} {K : Frag} (hK : FK W K) (hB : Bu W)
include hK hB
/-- the queue's loop -/
theorem an_loop {d : Nat} {l : List It} {fs0 : List Str} {H : List O} {G : List O} {v0 : V} {x0 : Option V} {Q : Fl → Rho → List O → Prop} (hG : G = H ++ [O.list (sl fs0)] ++ [O.list (its l)]) (hw : itW l ≤ 1000) (hlo : fs0.length + (itOut l).length ≤ 2000)
    (hq : ∀ v x, Q .next [some v, some (.ref H.length), some (.ref (H ++ [O.list []]).length), x] (H ++ [O.list (sl (once fs0 (itOut l)))] ++ [O.list []])) :
    whL (d + 3) (t_argument_names_scopes_2 W) (t_argument_names_scopes_3 W) (itW l + 1) [some v0, some (.ref H.length), some (.ref (H ++ [O.list []]).length), x0] G Q := by
  subst hG
  have h1 : H.length + 1 = (H ++ [O.list []]).length := by simp
  refine whL_ind (I := AnI H l fs0) ?_ (itW l) (itW l) _ _ (Nat.le_refl _) ⟨l, fs0, _, _, rfl, rfl, rfl, hw, hlo, rfl⟩
  rintro n k ρ H' hn ⟨l', fs, v0, x, hnn, rfl, e', hw', hlo, ho⟩ ih
  have hR : H'[(H ++ [O.list []]).length]? = some (.list (its l')) := by rw [e', ← h1]; simp
  have hF : H'[H.length]? = some (.list (sl fs)) := by rw [e']; simp
  cases l' with
  | nil =>
    walk_at "go"
    have ho' : fs = once fs0 (itOut l) := ho
    rw [e', ho']; exact hq v0 x
  | cons y r =>
    have hS : ∀ g r', (H ++ [O.list (sl g)] ++ [O.list (its r')])[(H ++ [O.list []]).length]? = some (.list (its r')) := fun g r' => by rw [← h1]; simp
    have hF' : ∀ g r', (H ++ [O.list (sl g)] ++ [O.list (its r')])[H.length]? = some (.list (sl g)) := fun g r' => by simp
    have hset : ∀ g r' r'', (H ++ [O.list (sl g)] ++ [O.list (its r')]).set (H ++ [O.list []]).length (.list (its r'')) = H ++ [O.list (sl g)] ++ [O.list (its r'')] := fun g r' r'' => by rw [← h1]; simp
    have hset1 : ∀ g g' r', (H ++ [O.list (sl g)] ++ [O.list (its r')]).set H.length (.list (sl g')) = H ++ [O.list (sl g')] ++ [O.list (its r')] := fun g g' r' => by simp
    have hyr : (its (y :: r)).length ≤ 65536 := by rw [its_len]; have := itW_len (y :: r); lia
    walk_at "go"
    refine ⟨hyr, y.t.enc, its r, rfl, ?_⟩
    walk_at "go"
    rw [e', hset]
    generalize hG : H ++ [O.list (sl fs)] ++ [O.list (its r)] = G
    have hRG := hS fs r
    have hFG := hF' fs r
    rw [hG] at hRG hFG
    have hput : ∀ ns, fs.length + ns.length ≤ 3000 → ∀ {R : V → List O → Prop}, R (.d .none) (H ++ [O.list (sl (once fs ns))] ++ [O.list (its r)]) → CallW W 59 (d + 3) [.ref H.length, .d (.list (sl ns))] G R := fun ns hn R hR => by
      refine k_put_once hK hB hFG (by lia) ?_
      rw [← hG, hset1]; exact hR
    have out1 : ∀ ns, It.now y = ns → It.late y = [] → once (once fs ns) (itOut r) = once fs0 (itOut l) := fun ns h1 h2 => by
      rw [← once_app, ← ho]; unfold itOut; rw [List.flatMap_cons, List.flatMap_cons, h1, h2, List.nil_append, List.append_assoc]
    have fin : ∀ ns, It.now y = ns → It.late y = [] → 0 < y.w → ∀ {v : V} {x : Option V}, whL (d + 3) (t_argument_names_scopes_2 W) (t_argument_names_scopes_3 W) k [some v, some (.ref H.length), some (.ref (H ++ [O.list []]).length), x] (H ++ [O.list (sl (once fs ns))] ++ [O.list (its r)]) Q := fun ns h1 h2 h3 v x => by
      have e : itW (y :: r) = y.w + itW r := rfl
      have h4 := once_len ns fs
      have h5 : (itOut (y :: r)).length = ns.length + (itOut r).length := by
        unfold itOut; rw [List.flatMap_cons, List.flatMap_cons, h1, h2]; simp only [List.length_append, List.length_nil]; lia
      exact ih (itW r) _ _ (by lia) ⟨r, once fs ns, v, x, rfl, rfl, rfl, by lia, by lia, out1 ns h1 h2⟩
    have fin2 : ∀ n, It.now y = [n] → It.late y = [] → y.w = 2 → ∀ {v : V} {x : Option V}, whL (d + 3) (t_argument_names_scopes_2 W) (t_argument_names_scopes_3 W) k [some v, some (.ref H.length), some (.ref (H ++ [O.list []]).length), x] (H ++ [O.list (sl fs)] ++ [O.list (its (.s n :: r))]) Q := fun n h1 h2 h3 v x => by
      have e : itW (y :: r) = y.w + itW r := rfl
      have e2 : itW (.s n :: r) = 1 + itW r := rfl
      have e3 : itOut (y :: r) = itOut (.s n :: r) := by unfold itOut; rw [List.flatMap_cons, List.flatMap_cons, h1, h2]; rfl
      rw [e3] at hlo ho
      exact ih (1 + itW r) _ _ (by lia) ⟨.s n :: r, fs, v, x, e2.symm, rfl, rfl, by lia, hlo, ho⟩
    have hil : 1 + (its r).length ≤ 65536 := by rw [its_len] at hyr ⊢; simp only [List.length_cons] at hyr; lia
    have hf : fs.length ≤ 2000 := Nat.le_trans (Nat.le_add_right _ _) hlo
    cases y with
    | s n =>
      walk_at "go"
      refine k_is_expr hK hB (t := T.sym n) ?_
      walk_at "go"
      refine k_head_of hK hB (t := T.sym n) ?_
      walk_at "go"
      refine k_ps_sym hK hB ?_
      walk_at "go"
      refine hput [n] (Nat.le_trans (Nat.add_le_add_right hf 1) (by decide)) ?_
      walk_at "go"
      exact fin [n] rfl rfl Nat.one_pos
    | a x =>
      cases x with
      | nm n =>
        walk_at "go"
        refine k_is_expr hK hB (t := T.sym n) ?_
        walk_at "go"
        refine k_head_of hK hB (t := T.sym n) ?_
        walk_at "go"
        refine k_ps_sym hK hB ?_
        walk_at "go"
        refine hput [n] (Nat.le_trans (Nat.add_le_add_right hf 1) (by decide)) ?_
        walk_at "go"
        exact fin [n] rfl rfl Nat.one_pos
      | ty n =>
        walk_at "go"
        refine k_is_expr hK hB (t := T.ex "::" [.sym n, .sym "T"]) ?_
        walk_at "go"
        refine k_head_of hK hB (t := T.ex "::" [.sym n, .sym "T"]) ?_
        walk_at "go"
        refine k_ps_ty hK hB ?_
        walk_at "go"
        refine hput [n] (Nat.le_trans (Nat.add_le_add_right hf 1) (by decide)) ?_
        walk_at "go"
        exact fin [n] rfl rfl Nat.one_pos
      | rs n =>
        walk_at "go"
        refine k_is_expr hK hB (t := T.ex "..." [.sym n]) ?_
        walk_at "go"
        refine k_head_of hK hB (t := T.ex "..." [.sym n]) ?_
        walk_at "go"
        refine k_ps_rest hK hB ?_
        walk_at "go"
        refine hput [n] (Nat.le_trans (Nat.add_le_add_right hf 1) (by decide)) ?_
        walk_at "go"
        exact fin [n] rfl rfl Nat.one_pos
      | tp n m =>
        walk_at "go"
        refine k_is_expr hK hB (t := T.ex "tuple" [.sym n, .sym m]) ?_
        walk_at "go"
        refine k_head_of hK hB (t := T.ex "tuple" [.sym n, .sym m]) ?_
        walk_at "go"
        refine k_ps_tup hK hB ?_
        walk_at "go"
        refine hput (once [n] [m]) (Nat.le_trans (Nat.add_le_add hf (once_len [m] [n])) (show 2000 + (1 + 1) ≤ 3000 by decide)) ?_
        rw [once_tp]
        walk_at "go"
        exact fin [n, m] rfl rfl Nat.one_pos
      | df n o =>
        walk_at "go"
        refine k_is_expr hK hB (t := T.ex "kw" [.sym n, .sym o]) ?_
        walk_at "go"
        refine k_head_of hK hB (t := T.ex "kw" [.sym n, .sym o]) ?_
        walk_at "go"
        refine ⟨Nat.le_trans (Nat.le_add_left _ 1) hil, ?_⟩
        rw [← hG, show (O.list ((T.sym n).enc :: its r)) = O.list (its (It.s n :: r)) from rfl, hset]
        walk_at "cw"
        exact fin2 n rfl rfl rfl
    | k z c =>
      walk_at "go"
      refine k_is_expr hK hB (t := T.ex "kw" [.sym z, .int c]) ?_
      walk_at "go"
      refine k_head_of hK hB (t := T.ex "kw" [.sym z, .int c]) ?_
      walk_at "go"
      refine ⟨Nat.le_trans (Nat.le_add_left _ 1) hil, ?_⟩
      rw [← hG, show (O.list ((T.sym z).enc :: its r)) = O.list (its (It.s z :: r)) from rfl, hset]
      walk_at "cw"
      exact fin2 z rfl rfl rfl
    | p zs c =>
      walk_at "go"
      refine k_is_expr hK hB (t := T.ex "parameters" (zs.map (kwT c))) ?_
      walk_at "go"
      have hz : zs.length ≤ 1000 := by simp only [itW, It.w] at hw'; lia
      have hr' := itW_len r
      refine ⟨by rw [its_len, encs_map]; simp only [List.length_map]; simp only [itW, It.w] at hw'; lia, ?_⟩
      walk_at "go"
      refine ih (itW r + 2 * zs.length) _ _ (by simp only [itW, It.w] at hnn; lia) ⟨r ++ zs.map (fun k => It.k k c), fs, _, _, by rw [itW_app, itW_ks], rfl, ?_, by rw [itW_app, itW_ks]; simp only [itW, It.w] at hw'; lia, by rw [out_p]; exact hlo, by rw [out_p]; exact ho⟩
      rw [← hG, its_app, ← ks_its]; simp
theorem k_an {d : Nat} {cl : Cl} {l : List It} {H : List O} {Q : V → List O → Prop} (hw : itW l ≤ 1000) (hl : (itOut l).length ≤ 1000) (hq : Q (.d (.list (sl (once [] (cl.ns ++ itOut l))))) H) :
    CallW W 129 (d + 4) [.d (cl.call (l.map It.t)).enc] H Q := by
  refine call_fn hK (i := 11) rfl (d_argument_names_scopes hK hB) (n := 4) (by kernel_rfl) rfl (by kernel_rfl) ?_
  intro hc
  have hlen := itW_len l
  have hle : ∀ t : T, (T.encs (t :: l.map It.t)).length ≤ 65536 := fun t => by rw [encs_map]; simp; lia
  have hle2 : (T.encs (l.map It.t)).length ≤ 65536 := by rw [encs_map]; simp; lia
  have h1 : H.length + 1 = (H ++ [O.list []]).length := by simp
  cases cl with
  | fn callee =>
    walk_at "go"
    refine k_is_sym hK hB (t := T.ex "call" (.sym callee :: l.map It.t)) ?_
    walk_at "go"
    refine k_is_expr hK hB (t := T.ex "call" (.sym callee :: l.map It.t)) ?_
    walk_at "go"
    refine ⟨hle _, ?_⟩
    walk_at "go"
    refine ⟨hle2, ?_⟩
    walk_at "go"
    refine k_is_expr hK hB (t := T.ex "call" (.sym callee :: l.map It.t)) ?_
    walk_at "go"
    refine k_is_expr hK hB (t := T.sym callee) ?_
    walk_at "go"
    refine ⟨itW l + 1, an_loop hK hB (fs0 := []) rfl hw (by rw [List.length_nil]; lia) fun v x => ?_⟩
    walk_at "go"
    rw [List.append_assoc]
    refine ret_app hc (x := .list (sl (once [] (itOut l)))) ?_ hq
    unfold frz; simp
  | tup =>
    walk_at "go"
    refine k_is_sym hK hB (t := T.ex "tuple" (l.map It.t)) ?_
    walk_at "go"
    refine k_is_expr hK hB (t := T.ex "tuple" (l.map It.t)) ?_
    walk_at "go"
    refine k_is_expr hK hB (t := T.ex "tuple" (l.map It.t)) ?_
    walk_at "go"
    refine ⟨hle2, ?_⟩
    walk_at "go"
    refine k_is_expr hK hB (t := T.ex "tuple" (l.map It.t)) ?_
    walk_at "go"
    refine ⟨itW l + 1, an_loop hK hB (fs0 := []) rfl hw (by rw [List.length_nil]; lia) fun v x => ?_⟩
    walk_at "go"
    rw [List.append_assoc]
    refine ret_app hc (x := .list (sl (once [] (itOut l)))) ?_ hq
    unfold frz; simp
  | ty z =>
    walk_at "go"
    refine k_is_sym hK hB (t := T.ex "call" (.ex "::" [.sym z, .sym "P"] :: l.map It.t)) ?_
    walk_at "go"
    refine k_is_expr hK hB (t := T.ex "call" (.ex "::" [.sym z, .sym "P"] :: l.map It.t)) ?_
    walk_at "go"
    refine ⟨hle _, ?_⟩
    walk_at "go"
    refine ⟨hle2, ?_⟩
    walk_at "go"
    refine k_is_expr hK hB (t := T.ex "call" (.ex "::" [.sym z, .sym "P"] :: l.map It.t)) ?_
    walk_at "go"
    refine k_is_expr hK hB (t := T.ex "::" [.sym z, .sym "P"]) ?_
    walk_at "go"
    refine k_ps_ty hK hB ?_
    walk_at "go"
    refine k_put_once hK hB (l := []) (by simp [sl]) (by simp) ?_
    have hset : (H ++ [O.list []] ++ [O.list (its l)]).set H.length (.list (sl (once [] [z]))) = H ++ [O.list (sl [z])] ++ [O.list (its l)] := by simp [sl, once]
    walk_at "go"
    refine ⟨itW l + 1, ?_⟩
    refine an_loop hK hB (fs0 := [z]) hset hw (by simp; lia) fun v x => ?_
    walk_at "go"
    rw [List.append_assoc]
    refine ret_app hc (x := .list (sl (once [z] (itOut l)))) ?_ hq
    unfold frz; simp
end

/-! ## E5 -/
theorem cmp_notin_d {H : List O} {l : List Str} {x : Str} {Q : Bool → Prop} (q : Q (!l.any (· == x))) : cmpS .NotIn (.d (.str x)) (.d (.list (sl l))) H Q := by
  refine .mk ?_; show inS (sl l) x fun b => Q (!b); unfold inS; rw [strsOf_sl]; exact q
theorem cmp_in_d {H : List O} {l : List Str} {x : Str} {Q : Bool → Prop} (q : Q (l.any (· == x))) : cmpS .In (.d (.str x)) (.d (.list (sl l))) H Q := by
  refine .mk ?_; show inS (sl l) x Q; unfold inS; rw [strsOf_sl]; exact q

theorem eqv_head {a : T} {h : Str} {ps : List T} (e : PyData.eqv a.enc (T.ex h ps).enc = true) : a.head = h := by
  cases a with
  | sym n => simp [T.enc, PyData.eqv, PyData.eqvAll] at e
  | int n => simp [T.enc, PyData.eqv, PyData.eqvAll] at e
  | ex h' qs => simp [T.enc, PyData.eqv, PyData.eqvAll] at e; exact e.1
theorem cmp_tr {a : T} {H : List O} {Q : Bool → Prop} {h : Str} {ps : List T} (ha : a.enc.canLay0 = true) (hl : (T.ex h ps).enc.canLay0 = true) (hd : (T.ex h ps).enc.depth ≤ 64) (q : ∀ b, (b = true → a.head = h) → Q b) : cmpS .Eq (.d a.enc) (.d (T.ex h ps).enc) H Q := by
  refine .mk ?_
  have hm : smallDepth a.enc (T.ex h ps).enc := by unfold smallDepth; lia
  have hq := q (PyData.eqv a.enc (T.ex h ps).enc) eqv_head
  cases a <;> exact ⟨ha, hl, hm, hq⟩
theorem cmp_trs {H : List O} {Q : Bool → Prop} {h : Str} {ps : List T} (hl : (T.ex h ps).enc.canLay0 = true) (hd : (T.ex h ps).enc.depth ≤ 64) (q : Q true) : cmpS .Eq (.d (T.ex h ps).enc) (.d (T.ex h ps).enc) H Q := by
  refine .mk ?_
  have hm : smallDepth (T.ex h ps).enc (T.ex h ps).enc := by unfold smallDepth; lia
  have hq : Q (PyData.eqv (T.ex h ps).enc (T.ex h ps).enc) := by rw [PySem.SeqAt.eqv_refl _ hl]; exact q
  exact ⟨hl, hl, hm, hq⟩

theorem two_a (H : List O) (a b : O) : (H ++ [a] ++ [b])[H.length]? = some a := by simp
theorem two_b (H : List O) (a a' b : O) : (H ++ [a] ++ [b])[(H ++ [a']).length]? = some b := by
  have : (H ++ [a']).length = (H ++ [a]).length := by simp
  rw [this]; simp
theorem two_sa (H : List O) (a a' b : O) : (H ++ [a] ++ [b]).set H.length a' = H ++ [a'] ++ [b] := by simp
theorem two_sb (H : List O) (a a' b b' : O) : (H ++ [a] ++ [b]).set (H ++ [a']).length b' = H ++ [a] ++ [b'] := by
  have : (H ++ [a']).length = (H ++ [a]).length := by simp
  rw [this]; simp
theorem one_a (H : List O) (a : O) : (H ++ [a])[H.length]? = some a := by simp
theorem one_s (H : List O) (a a' : O) : (H ++ [a]).set H.length a' = H ++ [a'] := by simp

section
variable {W : Wd} {K : Frag} (hK : FK W K) (hB : Bu W)
include hK hB
theorem x_ie_e {d : Nat} {h' h : Str} {ps : PyData} {H : List O} {Q : V → List O → Prop} (hq : Q (.d (.bool (h' == h))) H) : CallW W 28 (d + 1) [.d (.tuple [.str "expr", .str h', ps]), .d (.str h)] H Q := by
  refine call_fn hK (i := 1) rfl (d_is_expr hK hB) (n := 2) (by kernel_rfl) rfl (by kernel_rfl) ?_
  intro hc
  walk_at "go"; exact ret_same hc hq
theorem x_ie_s {d : Nat} {h : Str} {x : PyData} {H : List O} {Q : V → List O → Prop} (hq : Q (.d (.bool false)) H) : CallW W 28 (d + 1) [.d (.tuple [.str "sym", x]), .d (.str h)] H Q := by
  refine call_fn hK (i := 1) rfl (d_is_expr hK hB) (n := 2) (by kernel_rfl) rfl (by kernel_rfl) ?_
  intro hc
  walk_at "go"; exact ret_same hc hq
theorem x_ie_i {d : Nat} {h : Str} {x : PyData} {H : List O} {Q : V → List O → Prop} (hq : Q (.d (.bool false)) H) : CallW W 28 (d + 1) [.d (.tuple [.str "int", x]), .d (.str h)] H Q := by
  refine call_fn hK (i := 1) rfl (d_is_expr hK hB) (n := 2) (by kernel_rfl) rfl (by kernel_rfl) ?_
  intro hc
  walk_at "go"; exact ret_same hc hq
theorem x_ho_e {d : Nat} {h' : Str} {ps : PyData} {H : List O} {Q : V → List O → Prop} (hq : Q (.d (.str h')) H) : CallW W 35 (d + 1) [.d (.tuple [.str "expr", .str h', ps])] H Q := by
  refine call_fn hK (i := 2) rfl (d_head_of hK hB) (n := 1) (by kernel_rfl) rfl (by kernel_rfl) ?_
  intro hc
  walk_at "go"; exact ret_same hc hq
theorem x_ho_s {d : Nat} {x : PyData} {H : List O} {Q : V → List O → Prop} (hq : Q (.d (.str "")) H) : CallW W 35 (d + 1) [.d (.tuple [.str "sym", x])] H Q := by
  refine call_fn hK (i := 2) rfl (d_head_of hK hB) (n := 1) (by kernel_rfl) rfl (by kernel_rfl) ?_
  intro hc
  walk_at "go"; exact ret_same hc hq
theorem x_ho_i {d : Nat} {x : PyData} {H : List O} {Q : V → List O → Prop} (hq : Q (.d (.str "")) H) : CallW W 35 (d + 1) [.d (.tuple [.str "int", x])] H Q := by
  refine call_fn hK (i := 2) rfl (d_head_of hK hB) (n := 1) (by kernel_rfl) rfl (by kernel_rfl) ?_
  intro hc
  walk_at "go"; exact ret_same hc hq
theorem x_po_e {d : Nat} {h' : Str} {ps : List PyData} {H : List O} {Q : V → List O → Prop} (hq : Q (.d (.tuple ps)) H) : CallW W 42 (d + 1) [.d (.tuple [.str "expr", .str h', .tuple ps])] H Q := by
  refine call_fn hK (i := 3) rfl (d_parts_of hK hB) (n := 1) (by kernel_rfl) rfl (by kernel_rfl) ?_
  intro hc
  walk_at "go"; exact ret_same hc hq
theorem x_po_s {d : Nat} {x : PyData} {H : List O} {Q : V → List O → Prop} (hq : Q (.d (.tuple [])) H) : CallW W 42 (d + 1) [.d (.tuple [.str "sym", x])] H Q := by
  refine call_fn hK (i := 3) rfl (d_parts_of hK hB) (n := 1) (by kernel_rfl) rfl (by kernel_rfl) ?_
  intro hc
  walk_at "go"; exact ret_same hc hq
theorem x_po_i {d : Nat} {x : PyData} {H : List O} {Q : V → List O → Prop} (hq : Q (.d (.tuple [])) H) : CallW W 42 (d + 1) [.d (.tuple [.str "int", x])] H Q := by
  refine call_fn hK (i := 3) rfl (d_parts_of hK hB) (n := 1) (by kernel_rfl) rfl (by kernel_rfl) ?_
  intro hc
  walk_at "go"; exact ret_same hc hq
theorem x_is_e {d : Nat} {h' : Str} {ps : PyData} {H : List O} {Q : V → List O → Prop} (hq : Q (.d (.bool false)) H) : CallW W 49 (d + 1) [.d (.tuple [.str "expr", .str h', ps])] H Q := by
  refine call_fn hK (i := 4) rfl (d_is_sym hK hB) (n := 1) (by kernel_rfl) rfl (by kernel_rfl) ?_
  intro hc
  walk_at "go"; exact ret_same hc hq
theorem x_is_s {d : Nat} {x : PyData} {H : List O} {Q : V → List O → Prop} (hq : Q (.d (.bool true)) H) : CallW W 49 (d + 1) [.d (.tuple [.str "sym", x])] H Q := by
  refine call_fn hK (i := 4) rfl (d_is_sym hK hB) (n := 1) (by kernel_rfl) rfl (by kernel_rfl) ?_
  intro hc
  walk_at "go"; exact ret_same hc hq
theorem x_is_i {d : Nat} {x : PyData} {H : List O} {Q : V → List O → Prop} (hq : Q (.d (.bool false)) H) : CallW W 49 (d + 1) [.d (.tuple [.str "int", x])] H Q := by
  refine call_fn hK (i := 4) rfl (d_is_sym hK hB) (n := 1) (by kernel_rfl) rfl (by kernel_rfl) ?_
  intro hc
  walk_at "go"; exact ret_same hc hq
end

/-! ## E6 -/
/-- a bound behind where -/
inductive Bd where
  | nm (n : Str)
  | lo (n : Str)
  | hi (n : Str)
  | cp (n : Str)
noncomputable def Bd.t : Bd → T
  | .nm n => .sym n
  | .lo n => .ex "<:" [.sym n, .sym "U"]
  | .hi n => .ex ">:" [.sym n, .sym "U"]
  | .cp n => .ex "comparison" [.sym "L", .sym "<:", .sym n, .sym "<:", .sym "U"]
noncomputable def Bd.n : Bd → Str
  | .nm n | .lo n | .hi n | .cp n => n
noncomputable def joinL (ls : List (List Str)) : List Str := ls.foldl once []
theorem fold_len : ∀ (ls : List (List Str)) (a : List Str), (ls.foldl once a).length ≤ a.length + (ls.map List.length).sum
  | [], a => by simp
  | x :: r, a => by
    have h1 := fold_len r (once a x)
    have h2 := once_len x a
    simp only [List.foldl_cons, List.map_cons, List.sum_cons] at h1 ⊢
    lia
theorem joinL_len (ls : List (List Str)) : (joinL ls).length ≤ (ls.map List.length).sum := by
  have := fold_len ls []
  simpa [joinL] using this
noncomputable def sll (ls : List (List Str)) : List PyData := ls.map fun l => .list (sl l)
noncomputable def wo (l o : List Str) : List Str := l.filter fun x => !o.any (· == x)
theorem wo_len (l o : List Str) : (wo l o).length ≤ l.length := List.length_filter_le _ _

local macro_rules | `(tactic| walk_at "fh") => `(tactic| (focus (first | assumption | exact one_a _ _ | exact two_a _ _ _ | exact two_b _ _ _ _)))
local macro_rules | `(tactic| walk_at "xs") => `(tactic| ((first | apply x_ie_e | apply x_ho_e | apply x_is_e | apply x_po_e | apply x_ie_s | apply x_ho_s | apply x_is_s | apply x_po_s | apply x_ie_i | apply x_ho_i | apply x_is_i | apply x_po_i); (focus assumption); (focus assumption)))
local macro_rules | `(tactic| walk_at "s1") => `(tactic| (first
  | (refine And.intro ?_ ?_; walk_at "ln")
  | apply cmp_notin_d
  | apply cmp_in_d
  | (apply cmp_trs; (focus assumption); (focus assumption))
  | (apply cmp_tr; (focus assumption); (focus assumption); (focus assumption))
  | ((first | apply lstV_ref | apply seqV_ref | apply dctV_ref | apply instV_ref | apply cmp_notin | apply cmp_ne_nil); walk_at "fh")))
local macro_rules | `(tactic| walk_at "sd") => `(tactic| (apply cmpS_d))
local macro_rules | `(tactic| walk_at "gg") => `(tactic| (first | (refine isCall ?_; (first | (walk_at "xs"; walk_at "gg") | skip)) | ((first | walk_at "s1" | walk_at "sd"); walk_at "gg") | refine isRet ?_ | skip))

section
variable {W : Wd} {K : Frag} (hK : FK W K) (hB : Bu W)
include hK hB
theorem k_wn {d : Nat} {ws : List Bd} {b : Bool} {as : List T} {H : List O} {Q : V → List O → Prop} (hl : ws.length ≤ 1000) (hq : Q (.d (.list (sl (once [] (ws.map Bd.n))))) H) :
    CallW W 136 (d + 4) [.d (wh (ws.map Bd.t) (co b (.ex "call" as))).enc] H Q := by
  refine call_fn hK (i := 12) rfl (d_where_names_scopes hK hB) (n := 6) (by kernel_rfl) rfl (by kernel_rfl) ?_
  intro hc
  walk_at "gg"
  refine ⟨ws.length + 1 + 1, ?_⟩
  refine whL_ind (I := fun n ρ H' => ∃ ws' b' fs y x z w, n = List.length ws' + (if b' = true then 1 else 0) ∧ ρ = [y, some (.ref H.length), some (.d (wh (ws'.map Bd.t) (co b' (.ex "call" as))).enc), x, z, w] ∧ H' = H ++ [.list (sl fs)] ∧ fs.length + ws'.length ≤ 2000 ∧ once fs (ws'.map Bd.n) = once [] (ws.map Bd.n)) ?_ (ws.length + 1) (ws.length + (if b = true then 1 else 0)) _ _ (by split <;> lia) ⟨ws, b, [], _, _, _, _, rfl, rfl, rfl, by simp; lia, rfl⟩
  rintro n k ρ H' hn ⟨ws', b', fs, y, x, z, w, hnn, rfl, rfl, hlo, ho⟩ ih
  cases ws' with
  | nil =>
    cases b' with
    | false =>
      walk_at "gg"
      have ho' : fs = once [] (ws.map Bd.n) := ho
      exact ret_app hc (frz_new _ _) (by rw [ho']; exact hq)
    | true =>
      walk_at "gg"
      exact ih 0 _ _ (by rw [hnn]; decide) ⟨[], false, fs, _, _, _, _, rfl, rfl, rfl, hlo, ho⟩
  | cons v r =>
    have fin : ∀ {ρ' : Rho}, (∃ y x z w, ρ' = [y, some (.ref H.length), some (.d (wh (r.map Bd.t) (co b' (.ex "call" as))).enc), x, z, w]) → ∃ ws' b'' fs' y x z w, r.length + (if b' = true then 1 else 0) = List.length ws' + (if b'' = true then 1 else 0) ∧ ρ' = [y, some (.ref H.length), some (.d (wh (ws'.map Bd.t) (co b'' (.ex "call" as))).enc), x, z, w] ∧ H ++ [O.list (sl (once fs [v.n]))] = H ++ [.list (sl fs')] ∧ fs'.length + ws'.length ≤ 2000 ∧ once fs' (ws'.map Bd.n) = once [] (ws.map Bd.n) := by
      rintro ρ' ⟨y, x, z, w, rfl⟩
      refine ⟨r, b', once fs [v.n], _, _, _, _, rfl, rfl, rfl, ?_, ?_⟩
      · have := once_len [v.n] fs
        simp only [List.length_cons, List.length_nil] at this hlo; lia
      · rw [← ho, ← once_app]; rfl
    have hm : r.length + (if b' = true then 1 else 0) < n := by rw [hnn, List.length_cons]; lia
    have hfs : fs.length + [v.n].length ≤ 60000 := by simp only [List.length_cons, List.length_nil] at hlo ⊢; lia
    cases v with
    | nm m =>
      walk_at "gg"
      refine k_ps_sym hK hB ?_
      walk_at "gg"
      refine k_put_new hK hB hfs ?_
      walk_at "gg"
      exact ih _ _ _ hm (fin ⟨_, _, _, _, rfl⟩)
    | lo m =>
      walk_at "gg"
      refine k_ps_sym hK hB ?_
      walk_at "gg"
      refine k_put_new hK hB hfs ?_
      walk_at "gg"
      exact ih _ _ _ hm (fin ⟨_, _, _, _, rfl⟩)
    | hi m =>
      walk_at "gg"
      refine k_ps_sym hK hB ?_
      walk_at "gg"
      refine k_put_new hK hB hfs ?_
      walk_at "gg"
      exact ih _ _ _ hm (fin ⟨_, _, _, _, rfl⟩)
    | cp m =>
      walk_at "gg"
      refine k_ps_sym hK hB ?_
      walk_at "gg"
      refine k_put_new hK hB hfs ?_
      walk_at "gg"
      exact ih _ _ _ hm (fin ⟨_, _, _, _, rfl⟩)
theorem k_without {d : Nat} {l o : List Str} {H : List O} {Q : V → List O → Prop} (hl : l.length ≤ 60000) (hq : Q (.d (.list (sl (wo l o)))) H) : CallW W 141 (d + 1) [.d (.list (sl l)), .d (.list (sl o))] H Q := by
  refine call_fn hK (i := 13) rfl (d_without hK hB) (n := 2) (by kernel_rfl) rfl (by kernel_rfl) ?_
  intro hc
  walk_at "gg"
  refine ⟨by rw [sl_len]; lia, ?_⟩
  refine compL_ind (I := fun r acc H' => ∃ l' a, r = sl l' ∧ acc = sl a ∧ H' = H ∧ a ++ wo l' o = wo l o) ?_ ?_ ⟨l, [], rfl, rfl, rfl, rfl⟩
  · rintro acc H' ⟨l', a, e, rfl, rfl, ho⟩
    cases l' with
    | cons => cases e
    | nil =>
      have ho' : a = wo l o := by rw [← ho]; simp [wo]
      walk_at "gg"
      exact ret_same hc (by rw [ho']; exact hq)
  · rintro y r acc H' ⟨l', a, e, rfl, rfl, ho⟩ ih
    cases l' with
    | nil => cases e
    | cons n l' =>
      cases e
      walk_at "gg"
      cases hb : o.any (· == n) with
      | true =>
        walk_at "gg"
        refine ih _ _ ⟨l', a, rfl, rfl, rfl, ?_⟩
        rw [← ho]; simp [wo, hb]
      | false =>
        walk_at "gg"
        refine ih _ _ ⟨l', a ++ [n], rfl, by rw [sl_app]; rfl, rfl, ?_⟩
        rw [← ho]; simp only [wo, List.filter_cons, hb]; simp
theorem k_joined {d : Nat} {ls : List (List Str)} {H : List O} {Q : V → List O → Prop} (hl : (ls.map List.length).sum ≤ 50000) (hq : Q (.d (.list (sl (joinL ls)))) H) : CallW W 148 (d + 2) [.d (.list (sll ls))] H Q := by
  refine call_fn hK (i := 14) rfl (d_joined hK hB) (n := 3) (by kernel_rfl) rfl (by kernel_rfl) ?_
  intro hc
  walk_at "gg"
  refine forL_ind (I := fun r ρ H' => ∃ ls' fs x, r = sll ls' ∧ ρ = [some (.d (.list (sll ls))), some (.ref H.length), x] ∧ H' = H ++ [.list (sl fs)] ∧ fs.length + (ls'.map List.length).sum ≤ 60000 ∧ ls'.foldl once fs = joinL ls) ?_ ?_ ⟨ls, [], _, rfl, rfl, rfl, by simp; lia, rfl⟩
  · rintro ρ H' ⟨ls', fs, x, e, rfl, rfl, _, ho⟩
    cases ls' with
    | cons => cases e
    | nil =>
      have ho' : fs = joinL ls := ho
      walk_at "gg"
      exact ret_app hc (frz_new _ _) (by rw [ho']; exact hq)
  · rintro y r ρ H' ⟨ls', fs, x, e, rfl, rfl, hle, ho⟩ ih
    cases ls' with
    | nil => cases e
    | cons l ls' =>
      cases e
      simp only [List.map_cons, List.sum_cons] at hle
      walk_at "gg"
      refine k_put_new hK hB (by lia) ?_
      walk_at "gg"
      refine ih _ _ ⟨ls', once fs l, _, rfl, rfl, rfl, ?_, ho⟩
      have := once_len l fs
      lia
end

/-! ## E7 -/
theorem rett_app {H G : List O} {vs : List V} {xs : List PyData} {Q : V → List O → Prop} (hc : Closed H) (hx : frzs H.length (H ++ G) vs = some xs) (hq : Q (.d (.tuple xs)) H) : RetW H.length (.rett vs) (H ++ G) Q :=
  ⟨by rw [List.take_left]; exact hc, xs, hx, by rw [List.take_left]; exact hq⟩
noncomputable def T.isLf : T → Bool
  | .ex _ _ => false
  | _ => true
noncomputable def T.use : T → List Str
  | .sym n => [n]
  | _ => []
theorem use_len (t : T) : t.use.length ≤ 1 := by cases t <;> simp [T.use]
noncomputable def flatH : List Str := ["tuple", "<:", ">:", "comparison"]
/-- a leaf, or a flat one -/
inductive Fl1 : T → Prop where
  | lf {t : T} (h : t.isLf = true) : Fl1 t
  | ex {h : Str} {ps : List T} (hh : h ∈ flatH) (hp : ∀ t ∈ ps, t.isLf = true) (hl : ps.length ≤ 1000) : Fl1 (.ex h ps)
noncomputable def T.uses : T → List Str
  | .ex _ ps => joinL (ps.map T.use)
  | t => t.use
theorem sum_use (ps : List T) : ((ps.map T.use).map List.length).sum ≤ ps.length := by
  induction ps with
  | nil => simp
  | cons t r ih => simp only [List.map_cons, List.sum_cons, List.length_cons]; have := use_len t; lia
theorem joinUse_len (ps : List T) : (joinL (ps.map T.use)).length ≤ ps.length := Nat.le_trans (joinL_len _) (sum_use ps)

theorem wo_nil (l : List Str) : wo l [] = l := by simp [wo]
theorem ret_none {H : List O} {Q : V → List O → Prop} (hc : Closed H) (hq : Q (.d .none) H) : RetW H.length .next H Q :=
  ⟨take_closed hc, by rw [List.take_length]; exact hq⟩
noncomputable def bfs : List (Str × V) := [("told_global", .d (.list [])), ("told_local", .d (.list [])), ("assigned", .d (.list []))]

section
variable {W : Wd} {K : Frag} (hK : FK W K) (hB : Bu W)
include hK hB
theorem k_un_lf {d : Nat} {t : T} (h : t.isLf = true) {H : List O} {Q : V → List O → Prop} (hq : Q (.d (.list (sl t.use))) H) : CallW W 203 (d + 2) [.d t.enc] H Q := by
  refine call_fn hK (i := 19) rfl (d_used_names hK hB) (n := 3) (by kernel_rfl) rfl (by kernel_rfl) ?_
  intro hc
  cases t with
  | sym n => walk_at "gg"; exact ret_same hc hq
  | int i => walk_at "gg"; exact ret_same hc hq
  | ex => cases h
theorem comp_uses {d : Nat} {ρ : Rho} {ps : List T} (hp : ∀ t ∈ ps, t.isLf = true) {H : List O} {Q : List PyData → List O → Prop} (hq : Q (sll (ps.map T.use)) H) :
    compL (d + 2) t_sndf_nil (t_snd_callf W 203 (t_snd_cons (t_snd_name 0) t_snd_nil)) ρ [] (T.encs ps) [] H Q := by
  refine compL_ind (I := fun r acc H' => ∃ ps' a, r = T.encs ps' ∧ (∀ t ∈ ps', t.isLf = true) ∧ acc = sll a ∧ H' = H ∧ a ++ ps'.map T.use = ps.map T.use) ?_ ?_ ⟨ps, [], rfl, hp, rfl, rfl, rfl⟩
  · rintro acc H' ⟨ps', a, e, hp', rfl, rfl, ho⟩
    cases ps' with
    | cons => cases e
    | nil =>
      have ho' : a = ps.map T.use := (List.append_nil a).symm.trans ho
      rw [ho']; exact hq
  · rintro y r acc H' ⟨ps', a, e, hp', rfl, rfl, ho⟩ ih
    cases ps' with
    | nil => cases e
    | cons t ps' =>
      cases e
      walk_at "gg"
      refine k_un_lf hK hB (hp' _ (by simp)) ?_
      walk_at "gg"
      refine ih _ _ ⟨ps', a ++ [t.use], rfl, fun t ht => hp' t (by simp [ht]), by simp [sll], rfl, ?_⟩
      rw [← ho]; simp
theorem k_pu {d : Nat} {h : Str} {ps : List T} (hh : h ∈ flatH) (hp : ∀ t ∈ ps, t.isLf = true) (hl : ps.length ≤ 1000) {H : List O} {Q : V → List O → Prop} (hq : Q (.d (.list (sl (joinL (ps.map T.use))))) H) : CallW W 196 (d + 5) [.d (T.ex h ps).enc] H Q := by
  refine call_fn hK (i := 18) rfl (d_plain_uses hK hB) (n := 3) (by kernel_rfl) rfl (by kernel_rfl) ?_
  intro hc
  have hl2 : (T.encs ps).length ≤ 65536 := by rw [encs_map, List.length_map]; lia
  simp only [flatH, List.mem_cons, List.not_mem_nil, or_false] at hh
  rcases hh with rfl | rfl | rfl | rfl
  all_goals
    walk_at "gg"
    refine ⟨hl2, comp_uses hK hB (d := d + 2) hp ?_⟩
    refine k_joined hK hB (Nat.le_trans (sum_use ps) (Nat.le_trans hl (by decide))) ?_
    walk_at "gg"
    exact ret_same hc hq
theorem k_un_ex {d : Nat} {h : Str} {ps : List T} (hh : h ∈ flatH) (hp : ∀ t ∈ ps, t.isLf = true) (hl : ps.length ≤ 1000) {H : List O} {Q : V → List O → Prop} (hq : Q (.d (.list (sl (joinL (ps.map T.use))))) H) : CallW W 203 (d + 6) [.d (T.ex h ps).enc] H Q := by
  refine call_fn hK (i := 19) rfl (d_used_names hK hB) (n := 3) (by kernel_rfl) rfl (by kernel_rfl) ?_
  intro hc
  have hh' := hh
  simp only [flatH, List.mem_cons, List.not_mem_nil, or_false] at hh
  rcases hh with rfl | rfl | rfl | rfl
  all_goals
    walk_at "gg"
    refine k_pu hK hB hh' hp hl ?_
    walk_at "gg"
    exact ret_same hc hq
theorem k_un {d : Nat} {t : T} (h : Fl1 t) {H : List O} {Q : V → List O → Prop} (hq : Q (.d (.list (sl t.uses))) H) : CallW W 203 (d + 6) [.d t.enc] H Q := by
  cases h with
  | lf h =>
    refine k_un_lf hK hB h ?_
    cases t with
    | ex => cases h
    | sym => exact hq
    | int => exact hq
  | ex hh hp hl => exact k_un_ex hK hB hh hp hl hq
theorem k_pis {d : Nat} {ps : List T} {H : List O} {Q : V → List O → Prop} (hq : Q (.d (.tuple (T.encs ps))) H) : CallW W 87 (d + 1) [.d (T.ex "tuple" ps).enc] H Q := by
  refine call_fn hK (i := 9) rfl (d_parts_in_scope hK hB) (n := 3) (by kernel_rfl) rfl (by kernel_rfl) ?_
  intro hc
  walk_at "gg"
  exact ret_same hc hq
theorem k_Bound_init {d : Nat} {H : List O} {Q : V → List O → Prop} (hq : Q (.d .none) (H ++ [.inst 111 bfs])) : CallW W 101 (d + 1) [.ref H.length] (H ++ [.inst 111 []]) Q := by
  refine call_fn hK (i := 38) rfl (d_Bound_init hK hB) (n := 1) (by kernel_rfl) rfl (by kernel_rfl) ?_
  intro hc
  walk_at "gg"
  rw [one_s]
  walk_at "gg"
  rw [one_s]
  walk_at "gg"
  rw [one_s]
  have e : (H ++ [O.inst 111 []]).length = (H ++ [O.inst 111 bfs]).length := by simp
  rw [e]
  refine ret_none ?_ hq
  have := closed_set (i := H.length) (o := .inst 111 bfs) hc rfl
  rw [one_s] at this
  rw [List.take_of_length_le (by simp)] at this
  unfold Closed
  simpa using this
theorem k_note {d i : Nat} {ps : List T} {H : List O} {Q : V → List O → Prop} (hq : Q (.d .none) H) : CallW W 108 (d + 1) [.ref i, .d (T.ex "tuple" ps).enc] H Q := by
  refine call_fn hK (i := 39) rfl (d_Bound_note hK hB) (n := 5) (by kernel_rfl) rfl (by kernel_rfl) ?_
  intro hc
  walk_at "gg"
  exact ret_none hc hq
theorem k_bn {d : Nat} {ps : List T} (hp : ∀ t ∈ ps, t.isLf = true) (hl : ps.length ≤ 1000) {H : List O} {Q : V → List O → Prop} (hq : Q (.d (.tuple [.list [], .list [], .list []])) H) : CallW W 122 (d + 4) [.d (T.ex "tuple" ps).enc] H Q := by
  refine call_fn hK (i := 10) rfl (d_bound_names hK hB) (n := 4) (by kernel_rfl) rfl (by kernel_rfl) ?_
  intro hc
  walk_at "gg"
  refine ⟨_, rfl, k_Bound_init hK hB ⟨rfl, ?_⟩⟩
  walk_at "gg"
  obtain ⟨N, hN⟩ : ∃ N, N = ps.length + 1 := ⟨_, rfl⟩
  refine ⟨N + 1, ?_⟩
  walk_at "gg"
  refine ⟨[], _, rfl, ?_⟩
  rw [two_sb]
  walk_at "gg"
  refine ⟨instV_ref (two_a _ _ _) (by decide), ?_⟩
  walk_at "gg"
  refine k_note hK hB ?_
  walk_at "gg"
  refine k_pis hK hB ?_
  walk_at "gg"
  have hl2 : (T.encs ps).length ≤ 65536 := by rw [encs_map, List.length_map]; lia
  refine ⟨hl2, ?_⟩
  walk_at "gg"
  refine ⟨by simp [encs_map]; lia, ?_⟩
  have hr : ([] : List PyData) ++ (T.encs ps).reverse = T.encs ps.reverse := by simp [encs_map]
  rw [two_sb, hr]
  walk_at "gg"
  walk_at "nl"
  subst hN
  refine whL_ind (I := fun n ρ H' => ∃ ls x, n = ls.length ∧ (∀ t ∈ ls, t.isLf = true) ∧ ls.length ≤ 1000 ∧ ρ = [some (.d (T.ex "tuple" ps).enc), some (.ref H.length), some (.ref (H ++ [O.inst 111 bfs]).length), x] ∧ H' = H ++ [O.inst 111 bfs] ++ [O.list (T.encs ls)]) ?_ ps.length ps.length _ _ (Nat.le_refl _) ⟨ps.reverse, _, by simp, by simpa using hp, by simpa using hl, rfl, rfl⟩
  rintro n k ρ H' hn ⟨ls, x, rfl, hlf, hls, rfl, rfl⟩ ih
  rcases List.eq_nil_or_concat ls with rfl | ⟨l', t, rfl⟩
  · walk_at "gg"
    rw [List.append_assoc]
    refine rett_app hc ?_ hq; rfl
  · walk_at "gg"
    rw [List.concat_eq_append, encs_app]
    have he : (T.encs l' ++ T.encs [t]).isEmpty = false := by cases l' <;> rfl
    rw [he]
    walk_at "gg"
    refine ⟨by simp [encs_map] at hls ⊢; lia, _, _, rfl, ?_⟩
    rw [two_sb]
    have hm : l'.length < (l'.concat t).length := by simp
    have hI : ∀ ρ' : Rho, (∃ x, ρ' = [some (.d (T.ex "tuple" ps).enc), some (.ref H.length), some (.ref (H ++ [O.inst 111 bfs]).length), x]) → ∃ ls x, l'.length = List.length ls ∧ (∀ t ∈ ls, t.isLf = true) ∧ ls.length ≤ 1000 ∧ ρ' = [some (.d (T.ex "tuple" ps).enc), some (.ref H.length), some (.ref (H ++ [O.inst 111 bfs]).length), x] ∧ H ++ [O.inst 111 bfs] ++ [O.list (T.encs l')] = H ++ [O.inst 111 bfs] ++ [O.list (T.encs ls)] := by
      rintro ρ' ⟨x, rfl⟩
      exact ⟨l', x, rfl, fun t ht => hlf t (by simp [ht]), by simp at hls; lia, rfl, rfl⟩
    have ht : t.isLf = true := hlf t (by simp)
    cases t with
    | sym n =>
      walk_at "gg"
      exact ih _ _ _ hm (hI _ ⟨_, rfl⟩)
    | int i =>
      walk_at "gg"
      exact ih _ _ _ hm (hI _ ⟨_, rfl⟩)
    | ex => cases ht
theorem k_su {d : Nat} {ps : List T} (hp : ∀ t ∈ ps, t.isLf = true) (hl : ps.length ≤ 1000) {H : List O} {Q : V → List O → Prop} (hq : Q (.d (.list (sl (joinL (ps.map T.use))))) H) : CallW W 155 (d + 7) [.d (T.ex "tuple" ps).enc, .d (.list [])] H Q := by
  refine call_fn hK (i := 15) rfl (d_scope_uses hK hB) (n := 2) (by kernel_rfl) rfl (by kernel_rfl) ?_
  intro hc
  walk_at "gg"
  refine k_un_ex hK hB (by decide) hp hl ?_
  walk_at "gg"
  refine k_bn hK hB hp hl ?_
  walk_at "gg"
  refine k_without hK hB (o := []) (by have := joinUse_len ps; lia) ?_
  walk_at "gg"
  rw [wo_nil]
  exact ret_same hc hq
end

/-! ## E8 -/
mutual
noncomputable def T.sz : T → Nat
  | .ex _ ps => 1 + T.szs ps
  | _ => 1
noncomputable def T.szs : List T → Nat
  | [] => 0
  | t :: r => t.sz + T.szs r
end
theorem szs_app (a b : List T) : T.szs (a ++ b) = T.szs a + T.szs b := by
  induction a with
  | nil => simp [T.szs]
  | cons t r ih => simp only [List.cons_append, T.szs, ih]; lia
theorem sz_pos (t : T) : 1 ≤ t.sz := by cases t <;> simp [T.sz]
theorem szs_len (l : List T) : l.length ≤ T.szs l := by
  induction l with
  | nil => simp
  | cons t r ih => have := sz_pos t; simp only [List.length_cons, T.szs]; lia
theorem uses_len (t : T) : t.uses.length ≤ t.sz := by
  cases t with
  | sym => simp [T.uses, T.use, T.sz]
  | int => simp [T.uses, T.use, T.sz]
  | ex h ps => have := joinUse_len ps; have := szs_len ps; simp only [T.uses, T.sz]; lia
noncomputable def grpH : List Str := ["tuple", "parameters", "..."]
/-- what the queue of head_uses may hold -/
inductive HU (ch : Str) (cs : List T) : T → Prop where
  | lf {t : T} (h : t.isLf = true) : HU ch cs t
  | call {a : T} {as : List T} (h : ch = "call") (h2 : cs = a :: as) (ha : HU ch cs a) (has : ∀ t ∈ as, HU ch cs t) : HU ch cs (.ex "call" (a :: as))
  | kw {a b : T} (ha : HU ch cs a) (hb : Fl1 b) : HU ch cs (.ex "kw" [a, b])
  | grp {h : Str} {ps : List T} (hh : h ∈ grpH) (hp : ∀ t ∈ ps, HU ch cs t) : HU ch cs (.ex h ps)
  | ty {a b : T} (ha : HU ch cs a) (hb : Fl1 b) : HU ch cs (.ex "::" [a, b])
  | wh {a b : T} (ha : HU ch cs a) (hb : Fl1 b) : HU ch cs (.ex "where" [a, b])
theorem lay_ex {h : Str} {ps : List T} (e : (T.ex h ps).enc.canLay0 = true) : ∀ t ∈ ps, t.enc.canLay0 = true := by
  have : PyData.canLayAll0 (T.encs ps) = true := by simp only [T.enc, PyData.canLay0, PyData.canLayAll0, Bool.and_eq_true] at e; exact e.2.2.1
  revert this
  clear e
  induction ps with
  | nil => simp
  | cons t r ih =>
    intro e u hu
    simp only [T.encs, PyData.canLayAll0, Bool.and_eq_true] at e
    rcases List.mem_cons.mp hu with rfl | hu
    · exact e.1
    · exact ih e.2 u hu

/-- in the loop of head_uses -/
noncomputable def HuI (H : List O) (ch : Str) (cs : List T) (n : Nat) (ρ : Rho) (H' : List O) : Prop :=
  ∃ q fs v0 x y z, n = T.szs q ∧ ρ = [some v0, some (.d (T.ex ch cs).enc), some (.ref H.length), some (.ref (H ++ [O.list []]).length), x, y, z] ∧ H' = H ++ [.list (sl fs)] ++ [.list (T.encs q)] ∧ (∀ t ∈ q, HU ch cs t ∧ t.enc.canLay0 = true) ∧ fs.length + T.szs q ≤ 2000

section
variable {W : Wd} {K : Frag} (hK : FK W K) (hB : Bu W)
include hK hB
theorem k_hu {d : Nat} {ch : Str} {cs : List T} (hch : ch = "call" ∨ ch = "tuple") (hlay : (T.ex ch cs).enc.canLay0 = true) (hdep : (T.ex ch cs).enc.depth ≤ 64) {f : Str} {h0 body : T} (h : HU ch cs h0) (hl0 : h0.enc.canLay0 = true) (hsz : h0.sz ≤ 1000)
    {H : List O} {Q : V → List O → Prop} (hq : ∀ r, r.length ≤ 2000 → Q (.d (.list (sl r))) H) : CallW W 167 (d + 8) [.d (T.ex f [h0, body]).enc, .d (T.ex ch cs).enc] H Q := by
  refine call_fn hK (i := 17) rfl (d_head_uses hK hB) (n := 7) (by kernel_rfl) rfl (by kernel_rfl) ?_
  intro hc
  walk_at "gg"
  refine ⟨h0.sz + 1, ?_⟩
  refine whL_ind (I := HuI H ch cs) ?_ h0.sz h0.sz _ _ (Nat.le_refl _) ⟨[h0], [], _, _, _, _, by simp [T.szs], rfl, rfl, by simp [h, hl0], by simp [T.szs]; lia⟩
  rintro n k ρ H' hn ⟨q, fs, v0, x, y, z, hnn, rfl, rfl, hQ, hlo⟩ ih
  cases q with
  | nil =>
    walk_at "gg"
    rw [List.append_assoc]
    refine ret_app hc (x := .list (sl fs)) ?_ (hq fs (by lia))
    unfold frz; simp
  | cons t r =>
    have hlq : (T.encs (t :: r)).length ≤ 65536 := by rw [encs_map, List.length_map]; have := szs_len (t :: r); lia
    obtain ⟨ht, hlt⟩ := hQ t (by simp)
    have hr : ∀ u ∈ r, HU ch cs u ∧ u.enc.canLay0 = true := fun u hu => hQ u (by simp [hu])
    have hszr := szs_len r
    simp only [T.szs] at hnn hlo
    walk_at "gg"
    refine ⟨hlq, t.enc, T.encs r, rfl, ?_⟩
    rw [two_sb]
    have next : ∀ (ps : List T) (ns : List Str) (ρ' : Rho), (∃ v0 x y z, ρ' = [some v0, some (.d (T.ex ch cs).enc), some (.ref H.length), some (.ref (H ++ [O.list []]).length), x, y, z]) → (∀ u ∈ ps, HU ch cs u ∧ u.enc.canLay0 = true) → ns.length + T.szs ps < t.sz → ∃ m, m < n ∧ HuI H ch cs m ρ' (H ++ [O.list (sl (once fs ns))] ++ [O.list (T.encs r ++ T.encs ps)]) := by
      rintro ps ns ρ' ⟨v0, x, y, z, rfl⟩ hps hs
      refine ⟨T.szs (r ++ ps), by rw [szs_app]; lia, r ++ ps, once fs ns, _, _, _, _, rfl, rfl, by rw [encs_app], ?_, ?_⟩
      · intro u hu
        rcases List.mem_append.mp hu with hu | hu
        · exact hr u hu
        · exact hps u hu
      · have := once_len ns fs
        rw [szs_app]; lia
    have hput : ∀ (ns : List Str) (qs : List PyData), fs.length + ns.length ≤ 3000 → ∀ {R : V → List O → Prop}, R (.d .none) (H ++ [O.list (sl (once fs ns))] ++ [O.list qs]) → CallW W 59 (d + 7) [.ref H.length, .d (.list (sl ns))] (H ++ [O.list (sl fs)] ++ [O.list qs]) R := fun ns qs hn R hR => by
      refine k_put_once hK hB (two_a _ _ _) (by lia) ?_
      rw [two_sa]; exact hR
    have hbd : ∀ ps : List T, T.szs ps < t.sz → (T.encs r).length + (T.encs ps).length ≤ 65536 := fun ps h => by
      have := szs_len ps
      rw [encs_map, encs_map, List.length_map, List.length_map]; lia
    have once0 : ∀ l, once l [] = l := fun l => rfl
    have hnc : ∀ b : Bool, (b = true → t.head = ch) → ∀ x : Str, t.head = x → x ≠ "call" → x ≠ "tuple" → b = false := fun b hb x hx h1 h2 => by
      cases b with
      | false => rfl
      | true => rcases hch with rfl | rfl
                · exact absurd (hx.symm.trans (hb rfl)) h1
                · exact absurd (hx.symm.trans (hb rfl)) h2
    cases ht with
    | lf hlf =>
      cases t with
      | ex => cases hlf
      | sym s =>
        walk_at "gg"
        intro b hb
        obtain rfl := hnc b hb "" rfl (by decide) (by decide)
        walk_at "gg"
        obtain ⟨m, hm, hI⟩ := next [] [] _ ⟨_, _, _, _, rfl⟩ (by simp) (by simp [T.szs, T.sz])
        rw [T.encs, List.append_nil, once0] at hI
        exact ih m _ _ hm hI
      | int i =>
        walk_at "gg"
        intro b hb
        obtain rfl := hnc b hb "" rfl (by decide) (by decide)
        walk_at "gg"
        obtain ⟨m, hm, hI⟩ := next [] [] _ ⟨_, _, _, _, rfl⟩ (by simp) (by simp [T.szs, T.sz])
        rw [T.encs, List.append_nil, once0] at hI
        exact ih m _ _ hm hI
    | call h1 h2 ha has =>
      subst h1; subst h2
      have hla := lay_ex hlay
      walk_at "gg"
      have h1 := hbd as (by have := sz_pos a; simp only [T.sz, T.szs]; lia)
      have h2 := hbd [a] (by simp only [T.sz, T.szs]; lia)
      have h3 := szs_len as
      simp only [T.sz, T.szs] at hlo
      refine ⟨by rw [encs_map, List.length_map, List.length_cons]; lia, ?_⟩
      walk_at "gg"
      refine ⟨h1, ?_⟩
      rw [two_sb]
      walk_at "gg"
      refine k_is_sym hK hB (t := a) ?_
      cases hs : a.isSym with
      | true =>
        walk_at "gg"
        obtain ⟨m, hm, hI⟩ := next as [] _ ⟨_, _, _, _, rfl⟩ (fun u hu => ⟨has u hu, hla u (by simp [hu])⟩) (by have := sz_pos a; simp only [T.sz, T.szs, List.length_nil]; lia)
        rw [once0] at hI
        exact ih m _ _ hm hI
      | false =>
        walk_at "gg"
        refine ⟨by rw [← List.length_append] at h1; exact h1, ?_⟩
        rw [two_sb]
        walk_at "gg"
        obtain ⟨m, hm, hI⟩ := next (as ++ [a]) [] _ ⟨_, _, _, _, rfl⟩ (fun u hu => by
          rcases List.mem_append.mp hu with hu | hu
          · exact ⟨has u hu, hla u (by simp [hu])⟩
          · obtain rfl : u = a := by simpa using hu
            exact ⟨ha, hla _ (by simp)⟩) (by rw [szs_app]; simp only [T.sz, T.szs, List.length_nil]; lia)
        rw [once0, encs_app, ← List.append_assoc] at hI
        exact ih m _ _ hm hI
    | kw ha hb =>
      have hla := lay_ex hlt
      have hul := uses_len b
      have h1 := hbd [a] (by have := sz_pos b; simp only [T.sz, T.szs]; lia)
      simp only [T.sz, T.szs] at hlo
      walk_at "gg"
      intro c hc
      obtain rfl := hnc c hc "kw" rfl (by decide) (by decide)
      walk_at "gg"
      refine ⟨by rw [encs_map, List.length_map]; lia, ?_⟩
      rw [two_sb]
      walk_at "gg"
      refine k_un hK hB hb ?_
      walk_at "gg"
      refine hput _ _ (by lia) ?_
      walk_at "gg"
      obtain ⟨m, hm, hI⟩ := next [a] b.uses _ ⟨_, _, _, _, rfl⟩ (fun u hu => by
        obtain rfl : u = a := by simpa using hu
        exact ⟨ha, hla _ (by simp)⟩) (by simp only [T.sz, T.szs]; lia)
      exact ih m _ _ hm hI
    | grp hh hp =>
      have hla := lay_ex hlt
      have h1 := hbd ps (by simp only [T.sz]; lia)
      simp only [T.sz] at hlo
      have hnx := fun ρ' hρ => next ps [] ρ' hρ (fun u hu => ⟨hp u hu, hla u hu⟩) (by simp only [T.sz, List.length_nil]; lia)
      rw [once0] at hnx
      clear next hnc
      simp only [grpH, List.mem_cons, List.not_mem_nil, or_false] at hh
      rcases hh with rfl | rfl | rfl
      all_goals
        walk_at "gg"
        intro c hc
        cases c
        case true =>
          rcases hch with rfl | rfl
          · exact absurd (hc rfl) (by rw [show ∀ x (l : List T), (T.ex x l).head = x from fun _ _ => rfl]; decide)
          · walk_at "gg"
            refine ⟨h1, ?_⟩
            rw [two_sb]
            walk_at "gg"
            obtain ⟨m, hm, hI⟩ := hnx _ ⟨_, _, _, _, rfl⟩
            exact ih m _ _ hm hI
        case false =>
          walk_at "gg"
          refine ⟨h1, ?_⟩
          rw [two_sb]
          walk_at "gg"
          obtain ⟨m, hm, hI⟩ := hnx _ ⟨_, _, _, _, rfl⟩
          exact ih m _ _ hm hI
    | ty ha hb =>
      have hla := lay_ex hlt
      have hul := uses_len b
      have h1 := hbd [a] (by have := sz_pos b; simp only [T.sz, T.szs]; lia)
      simp only [T.sz, T.szs] at hlo
      walk_at "gg"
      intro c hc
      obtain rfl := hnc c hc "::" rfl (by decide) (by decide)
      walk_at "gg"
      refine ⟨h1, ?_⟩
      rw [two_sb]
      walk_at "gg"
      refine k_un hK hB hb ?_
      walk_at "gg"
      refine hput _ _ (by lia) ?_
      walk_at "gg"
      obtain ⟨m, hm, hI⟩ := next [a] b.uses _ ⟨_, _, _, _, rfl⟩ (fun u hu => by
        obtain rfl : u = a := by simpa using hu
        exact ⟨ha, hla _ (by simp)⟩) (by simp only [T.sz, T.szs]; lia)
      exact ih m _ _ hm hI
    | wh ha hb =>
      have hla := lay_ex hlt
      have hul := uses_len b
      have hjl : (joinL [b.uses]).length ≤ b.uses.length := by have := joinL_len [b.uses]; simpa using this
      have h1 := hbd [a] (by have := sz_pos b; simp only [T.sz, T.szs]; lia)
      simp only [T.sz, T.szs] at hlo
      walk_at "gg"
      intro c hc
      obtain rfl := hnc c hc "where" rfl (by decide) (by decide)
      walk_at "gg"
      refine ⟨by rw [encs_map, List.length_map]; lia, ?_⟩
      rw [two_sb]
      walk_at "gg"
      refine k_un hK hB hb ?_
      walk_at "gg"
      refine k_joined hK hB (ls := [b.uses]) (by simp; lia) ?_
      walk_at "gg"
      refine hput _ _ (by lia) ?_
      walk_at "gg"
      obtain ⟨m, hm, hI⟩ := next [a] (joinL [b.uses]) _ ⟨_, _, _, _, rfl⟩ (fun u hu => by
        obtain rfl : u = a := by simpa using hu
        exact ⟨ha, hla _ (by simp)⟩) (by simp only [T.sz, T.szs]; lia)
      exact ih m _ _ hm hI
end

/-! ## E9 -/
theorem mem_once (x : Str) : ∀ (r l : List Str), x ∈ once l r ↔ x ∈ l ∨ x ∈ r
  | [], l => by simp [once]
  | y :: r, l => by
    unfold once
    rw [mem_once x r]
    by_cases h : l.any (· == y) = true
    · rw [if_pos h]
      have hy : y ∈ l := by simpa using h
      constructor
      · rintro (h1 | h1)
        · exact .inl h1
        · exact .inr (by simp [h1])
      · rintro (h1 | h1)
        · exact .inl h1
        · rcases List.mem_cons.mp h1 with rfl | h1
          · exact .inl hy
          · exact .inr h1
    · rw [if_neg h]; simp [or_assoc]
theorem once_nodup : ∀ (r l : List Str), (l ++ r).Nodup → once l r = l ++ r
  | [], l, _ => by simp [once]
  | y :: r, l, h => by
    unfold once
    have hy : y ∉ l := fun hy => by
      have := (List.nodup_append.mp h).2.2 y hy y (by simp)
      exact this rfl
    rw [if_neg (by simpa using hy), once_nodup r (l ++ [y]) (by simpa using h)]
    simp
theorem mem_wo {x : Str} {l o : List Str} (h : x ∈ wo l o) : x ∉ o := by
  simp only [wo, List.mem_filter] at h
  intro hx
  have : o.any (· == x) = true := by simpa using hx
  rw [this] at h; simp at h
theorem hu_it (ch : Str) (cs : List T) (x : It) : HU ch cs x.t := by
  cases x with
  | s n => exact .lf rfl
  | k y c => exact .kw (.lf rfl) (.lf rfl)
  | p ks c =>
    refine .grp (by decide) fun t ht => ?_
    obtain ⟨y, _, rfl⟩ := List.mem_map.mp ht
    exact .kw (.lf rfl) (.lf rfl)
  | a x =>
    cases x with
    | nm n => exact .lf rfl
    | ty n => exact .ty (.lf rfl) (.lf rfl)
    | df n o => exact .kw (.lf rfl) (.lf rfl)
    | rs n => exact .grp (by decide) fun t ht => by obtain rfl : t = .sym n := by simpa using ht
                                                    exact .lf rfl
    | tp n m => exact .grp (by decide) fun t ht => by
                  have : t = .sym n ∨ t = .sym m := by simpa using ht
                  rcases this with rfl | rfl <;> exact .lf rfl
theorem fl_bd (w : Bd) : Fl1 w.t := by
  cases w with
  | nm n => exact .lf rfl
  | lo n => exact .ex (by decide) (fun t ht => by have : t = .sym n ∨ t = .sym "U" := by simpa using ht
                                                  rcases this with rfl | rfl <;> rfl) (by simp)
  | hi n => exact .ex (by decide) (fun t ht => by have : t = .sym n ∨ t = .sym "U" := by simpa using ht
                                                  rcases this with rfl | rfl <;> rfl) (by simp)
  | cp n =>
    refine .ex (by decide) (fun t ht => ?_) (by simp)
    simp only [List.mem_cons, List.not_mem_nil, or_false] at ht
    rcases ht with rfl | rfl | rfl | rfl | rfl <;> rfl
theorem hu_wh {ch : Str} {cs : List T} {c : T} (hc : HU ch cs c) : ∀ ws : List Bd, HU ch cs (wh (ws.map Bd.t) c)
  | [] => hc
  | w :: r => .wh (hu_wh hc r) (fl_bd w)
theorem hu_co {ch : Str} {cs : List T} {c : T} (hc : HU ch cs c) : ∀ b, HU ch cs (co b c)
  | true => .ty hc (.lf rfl)
  | false => hc
noncomputable def Cl.h : Cl → Str
  | .tup => "tuple"
  | _ => "call"
noncomputable def Cl.cs : Cl → List T → List T
  | .fn c, as => .sym c :: as
  | .ty n, as => .ex "::" [.sym n, .sym "P"] :: as
  | .tup, as => as
theorem cl_call (cl : Cl) (as : List T) : cl.call as = .ex cl.h (cl.cs as) := by cases cl <;> rfl
theorem hu_call (cl : Cl) (l : List It) : HU cl.h (cl.cs (l.map It.t)) (cl.call (l.map It.t)) := by
  have hl : ∀ ch cs, ∀ t ∈ l.map It.t, HU ch cs t := fun ch cs t ht => by
    obtain ⟨y, _, rfl⟩ := List.mem_map.mp ht
    exact hu_it _ _ y
  cases cl with
  | fn c => exact .call rfl rfl (.lf rfl) (hl _ _)
  | ty n => exact .call rfl rfl (.ty (.lf rfl) (.lf rfl)) (hl _ _)
  | tup => exact .grp (by decide) (hl _ _)
theorem lay_wh {c : T} : ∀ ws : List T, (wh ws c).enc.canLay0 = true → c.enc.canLay0 = true
  | [], h => h
  | w :: r, h => lay_wh r (lay_ex h _ (by simp))
theorem lay_co {c : T} : ∀ b, (co b c).enc.canLay0 = true → c.enc.canLay0 = true
  | false, h => h
  | true, h => lay_ex h _ (by simp)
theorem depthAll_le {m : Nat} : ∀ {l : List T}, (∀ t ∈ l, t.enc.depth ≤ m) → PyData.depthAll (T.encs l) ≤ m
  | [], _ => Nat.zero_le _
  | t :: r, h => by
    have h1 := h t (by simp)
    have h2 := depthAll_le (l := r) fun u hu => h u (by simp [hu])
    simp only [T.encs, PyData.depthAll]; lia
theorem depth_ex {m : Nat} {h : Str} {ps : List T} (hp : ∀ t ∈ ps, t.enc.depth ≤ m) : (T.ex h ps).enc.depth ≤ m + 2 := by
  have := depthAll_le hp
  simp only [T.enc, PyData.depth, PyData.depthAll]; lia
theorem depth_lf {t : T} (h : t.isLf = true) : t.enc.depth ≤ 1 := by
  cases t with
  | sym n => simp [T.enc, PyData.depth, PyData.depthAll]
  | int n => simp [T.enc, PyData.depth, PyData.depthAll]
  | ex => cases h
theorem depth_flat {h : Str} {ps : List T} (hp : ∀ t ∈ ps, t.isLf = true) : (T.ex h ps).enc.depth ≤ 3 := depth_ex fun t ht => depth_lf (hp t ht)
theorem depth_it (x : It) : x.t.enc.depth ≤ 5 := by
  cases x with
  | s n => exact Nat.le_trans (depth_lf rfl) (by decide)
  | k y c => exact Nat.le_trans (depth_flat (by simp [T.isLf])) (by decide)
  | p ks c =>
    refine depth_ex fun t ht => ?_
    obtain ⟨y, _, rfl⟩ := List.mem_map.mp ht
    exact depth_flat (by simp [T.isLf])
  | a x =>
    cases x with
    | nm n => exact Nat.le_trans (depth_lf rfl) (by decide)
    | ty n => exact Nat.le_trans (depth_flat (by simp [T.isLf])) (by decide)
    | df n o => exact Nat.le_trans (depth_flat (by simp [T.isLf])) (by decide)
    | rs n => exact Nat.le_trans (depth_flat (by simp [T.isLf])) (by decide)
    | tp n m => exact Nat.le_trans (depth_flat (by simp [T.isLf])) (by decide)
theorem depth_its (l : List It) : ∀ t ∈ l.map It.t, t.enc.depth ≤ 5 := fun t ht => by
  obtain ⟨y, _, rfl⟩ := List.mem_map.mp ht
  exact depth_it y
theorem depth_call (cl : Cl) (l : List It) : (T.ex cl.h (cl.cs (l.map It.t))).enc.depth ≤ 64 := by
  refine Nat.le_trans (m := 7) (depth_ex fun t ht => ?_) (by decide)
  cases cl with
  | fn c =>
    rcases List.mem_cons.mp ht with rfl | ht
    · exact Nat.le_trans (depth_lf rfl) (by decide)
    · exact depth_its l t ht
  | ty n =>
    rcases List.mem_cons.mp ht with rfl | ht
    · exact Nat.le_trans (depth_flat (by simp [T.isLf])) (by decide)
    · exact depth_its l t ht
  | tup => exact depth_its l t ht
theorem syms_lf (bs : List Str) : ∀ t ∈ bs.map T.sym, t.isLf = true := fun t ht => by
  obtain ⟨y, _, rfl⟩ := List.mem_map.mp ht
  rfl

section
variable {W : Wd} {K : Frag} (hK : FK W K) (hB : Bu W)
include hK hB
theorem k_fu_fun {d : Nat} {cl : Cl} (hcl : cl.h = "call") {b : Bool} {ws : List Bd} {l : List It} {bs : List Str} (hlay : (wh (ws.map Bd.t) (co b (cl.call (l.map It.t)))).enc.canLay0 = true) (hsz : (wh (ws.map Bd.t) (co b (cl.call (l.map It.t)))).sz ≤ 1000) (hw : itW l ≤ 1000) (hol : (itOut l).length ≤ 1000) (hws : ws.length ≤ 1000) (hbs : bs.length ≤ 1000)
    {H : List O} {Q : V → List O → Prop} (hq : ∀ r, r.length ≤ 5000 → (∀ x ∈ r, x ∉ cl.ns ++ itOut l ∧ x ∉ ws.map Bd.n) → Q (.d (.list (sl r))) H) :
    CallW W 162 (d + 9) [.d (T.ex "function" [wh (ws.map Bd.t) (co b (cl.call (l.map It.t))), .ex "tuple" (bs.map T.sym)]).enc] H Q := by
  refine call_fn hK (i := 16) rfl (d_function_uses hK hB) (n := 6) (by kernel_rfl) rfl (by kernel_rfl) ?_
  intro hc
  have hcc : cl.call (l.map It.t) = .ex "call" (cl.cs (l.map It.t)) := by rw [cl_call, hcl]
  walk_at "gg"
  rw [hcc]
  refine k_fh_fun hK hB ?_
  walk_at "gg"
  rw [← hcc]
  refine k_an hK hB hw hol ?_
  rw [hcc]
  walk_at "gg"
  refine k_wn hK hB hws ?_
  have hl1 := once_len (cl.ns ++ itOut l) []
  have hl2 := once_len (ws.map Bd.n) []
  have hnl : cl.ns.length ≤ 1 := by cases cl <;> simp [Cl.ns]
  simp only [List.length_append, List.length_map, List.length_nil] at hl1 hl2
  walk_at "gg"
  refine ⟨by rw [sl_len, sl_len]; lia, ?_⟩
  rw [← sl_app]
  walk_at "gg"
  have hu := hu_wh (hu_co (hu_call cl l) b) ws
  have hdc := depth_call cl l
  have hlc := lay_co _ (lay_wh _ hlay)
  rw [cl_call] at hlc
  rw [hcl] at hu hdc hlc
  rw [hcc] at hu hlay hsz
  refine k_hu hK hB (.inl rfl) hlc hdc hu hlay hsz fun r1 hr1 => ?_
  walk_at "gg"
  refine k_su hK hB (syms_lf bs) (by simpa using hbs) ?_
  walk_at "gg"
  have hj := joinUse_len (bs.map T.sym)
  rw [List.length_map] at hj
  have hjl := joinL_len [r1, joinL ((bs.map T.sym).map T.use)]
  simp only [List.map_cons, List.map_nil, List.sum_cons, List.sum_nil] at hjl
  refine ⟨(by decide : 2 ≤ 65536), ?_⟩
  walk_at "gg"
  refine k_joined hK hB (ls := [r1, joinL ((bs.map T.sym).map T.use)]) (by simp only [List.map_cons, List.map_nil, List.sum_cons, List.sum_nil]; lia) ?_
  walk_at "gg"
  refine k_without hK hB (by lia) ?_
  walk_at "gg"
  refine ret_same hc (hq _ (Nat.le_trans (wo_len _ _) (by lia)) fun x hx => ?_)
  have := mem_wo hx
  rw [List.mem_append, mem_once, mem_once] at this
  simp only [List.not_mem_nil, false_or] at this
  exact ⟨fun h => this (.inl h), fun h => this (.inr h)⟩
theorem k_fu_arrow {d : Nat} {l : List It} {bs : List Str} (hlay : (T.ex "tuple" (l.map It.t)).enc.canLay0 = true) (hsz : (T.ex "tuple" (l.map It.t)).sz ≤ 1000) (hw : itW l ≤ 1000) (hol : (itOut l).length ≤ 1000) (hbs : bs.length ≤ 1000)
    {H : List O} {Q : V → List O → Prop} (hq : ∀ r, r.length ≤ 5000 → (∀ x ∈ r, x ∉ itOut l) → Q (.d (.list (sl r))) H) :
    CallW W 162 (d + 9) [.d (T.ex "->" [.ex "tuple" (l.map It.t), .ex "tuple" (bs.map T.sym)]).enc] H Q := by
  refine call_fn hK (i := 16) rfl (d_function_uses hK hB) (n := 6) (by kernel_rfl) rfl (by kernel_rfl) ?_
  intro hc
  walk_at "gg"
  refine k_fh_arrow hK hB ?_
  walk_at "gg"
  refine k_an hK hB (cl := .tup) hw hol ?_
  have hl1 := once_len (Cl.tup.ns ++ itOut l) []
  simp only [List.length_append, List.length_map, List.length_nil, Cl.ns] at hl1
  walk_at "gg"
  refine ⟨by rw [sl_len]; simp only [List.length_nil, Cl.ns]; lia, ?_⟩
  rw [List.append_nil]
  walk_at "gg"
  have hu := hu_call .tup l
  have hdc := depth_call .tup l
  refine k_hu hK hB (.inr rfl) hlay hdc hu hlay hsz fun r1 hr1 => ?_
  walk_at "gg"
  refine k_su hK hB (syms_lf bs) (by simpa using hbs) ?_
  walk_at "gg"
  have hj := joinUse_len (bs.map T.sym)
  rw [List.length_map] at hj
  have hjl := joinL_len [r1, joinL ((bs.map T.sym).map T.use)]
  simp only [List.map_cons, List.map_nil, List.sum_cons, List.sum_nil] at hjl
  refine ⟨(by decide : 2 ≤ 65536), ?_⟩
  walk_at "gg"
  refine k_joined hK hB (ls := [r1, joinL ((bs.map T.sym).map T.use)]) (by simp only [List.map_cons, List.map_nil, List.sum_cons, List.sum_nil]; lia) ?_
  walk_at "gg"
  refine k_without hK hB (by lia) ?_
  walk_at "gg"
  refine ret_same hc (hq _ (Nat.le_trans (wo_len _ _) (by lia)) fun x hx => ?_)
  have := mem_wo hx
  rw [mem_once] at this
  simp only [List.not_mem_nil, false_or, Cl.ns, List.nil_append] at this
  exact this
end

/-! ## E10 -/
theorem ret_keep {H : List O} {l : List PyData} {b : O} {Q : V → List O → Prop} (hc : Closed H) (hq : Q (.ref H.length) (H ++ [.list l])) : RetW H.length (.ret (.ref H.length)) (H ++ [.list l] ++ [b]) Q := by
  refine ⟨by rw [List.append_assoc, List.take_left]; exact hc, .inr ?_⟩
  unfold keepW
  dsimp only
  rw [if_neg (Nat.lt_irrefl _), two_a, List.append_assoc, List.take_left]
  exact ⟨rfl, hq⟩
theorem ret_two {H : List O} {l : List PyData} {b : O} {Q : V → List O → Prop} (hc : Closed H) (hq : Q (.d (.list l)) H) : RetW H.length (.ret (.ref H.length)) (H ++ [.list l] ++ [b]) Q := by
  rw [List.append_assoc]
  refine ret_app hc (x := .list l) ?_ hq
  unfold frz; simp

theorem notin1 {a b : Str} {v : V} (h : a ≠ b) : ¬ a ∈ List.map (fun x => x.1) [(b, v)] := by
  intro e
  simp at e
  exact h e

local macro_rules | `(tactic| walk_at "s2") => `(tactic| (walk_at "cw"; (first | rw [two_sb] | rw [two_sa] | rw [one_s])))
local macro_rules | `(tactic| walk_at "si") => `(tactic| (refine And.intro ?_ ?_; (focus (apply instV_ref; (focus assumption); exact notin1 (by decide)))))
local macro_rules | `(tactic| walk_at "gj") => `(tactic| (first | (refine isCall ?_; (first | (walk_at "xs"; walk_at "gj") | skip)) | ((first | walk_at "s1" | walk_at "sd" | walk_at "si" | walk_at "s2"); walk_at "gj") | refine isRet ?_ | skip))

section
variable {W : Wd} {K : Frag} (hK : FK W K) (hB : Bu W)
include hK hB
theorem k_pb_sym {d : Nat} {n : Str} {H : List O} {Q : V → List O → Prop} (hq : Q (.d (.list (sl [n]))) H) : CallW W 212 (d + 2) [.d (T.sym n).enc] H Q := by
  refine call_fn hK (i := 20) rfl (d_place_names_binders hK hB) (n := 4) (by kernel_rfl) rfl (by kernel_rfl) ?_
  intro hc
  walk_at "gj"
  refine ⟨6, ?_⟩
  walk_at "gj"
  refine ⟨[], _, rfl, ?_⟩
  walk_at "gj"
  exact ret_two hc hq
theorem k_pb_ty {d : Nat} {n t : Str} {H : List O} {Q : V → List O → Prop} (hq : Q (.d (.list (sl [n]))) H) : CallW W 212 (d + 2) [.d (T.ex "::" [.sym n, .sym t]).enc] H Q := by
  refine call_fn hK (i := 20) rfl (d_place_names_binders hK hB) (n := 4) (by kernel_rfl) rfl (by kernel_rfl) ?_
  intro hc
  walk_at "gj"
  refine ⟨6, ?_⟩
  walk_at "gj"
  refine ⟨[], _, rfl, ?_⟩
  walk_at "gj"
  refine ⟨[], _, rfl, ?_⟩
  walk_at "gj"
  exact ret_two hc hq
theorem k_pb_tyk {d : Nat} {n t : Str} {H : List O} {Q : V → List O → Prop} (hq : Q (.ref H.length) (H ++ [.list (sl [n])])) : CallW W 212 (d + 2) [.d (T.ex "::" [.sym n, .sym t]).enc] H Q := by
  refine call_fn hK (i := 20) rfl (d_place_names_binders hK hB) (n := 4) (by kernel_rfl) rfl (by kernel_rfl) ?_
  intro hc
  walk_at "gj"
  refine ⟨6, ?_⟩
  walk_at "gj"
  refine ⟨[], _, rfl, ?_⟩
  walk_at "gj"
  refine ⟨[], _, rfl, ?_⟩
  walk_at "gj"
  exact ret_keep hc hq
theorem k_pb_rest {d : Nat} {n : Str} {H : List O} {Q : V → List O → Prop} (hq : Q (.d (.list (sl [n]))) H) : CallW W 212 (d + 2) [.d (T.ex "..." [.sym n]).enc] H Q := by
  refine call_fn hK (i := 20) rfl (d_place_names_binders hK hB) (n := 4) (by kernel_rfl) rfl (by kernel_rfl) ?_
  intro hc
  walk_at "gj"
  refine ⟨6, ?_⟩
  walk_at "gj"
  refine ⟨[], _, rfl, ?_⟩
  walk_at "gj"
  refine ⟨(by decide : 1 ≤ 65536), ?_⟩
  walk_at "gj"
  refine ⟨[], _, rfl, ?_⟩
  walk_at "gj"
  exact ret_two hc hq
theorem k_pb_tup {d : Nat} {n m : Str} {H : List O} {Q : V → List O → Prop} (hq : Q (.d (.list (sl [n, m]))) H) : CallW W 212 (d + 2) [.d (T.ex "tuple" [.sym n, .sym m]).enc] H Q := by
  refine call_fn hK (i := 20) rfl (d_place_names_binders hK hB) (n := 4) (by kernel_rfl) rfl (by kernel_rfl) ?_
  intro hc
  walk_at "gj"
  refine ⟨6, ?_⟩
  walk_at "gj"
  refine ⟨[], _, rfl, ?_⟩
  walk_at "gj"
  refine ⟨(by decide : 2 ≤ 65536), ?_⟩
  walk_at "gj"
  refine ⟨[(T.sym m).enc], _, rfl, ?_⟩
  walk_at "gj"
  refine ⟨[], _, rfl, ?_⟩
  walk_at "gj"
  exact ret_two hc hq
theorem k_ab {d : Nat} {x : It} {H : List O} {Q : V → List O → Prop} (hq : Q (.d (.list (sl x.now))) H) : CallW W 231 (d + 3) [.d x.t.enc] H Q := by
  refine call_fn hK (i := 22) rfl (d_argument_names_binders hK hB) (n := 1) (by kernel_rfl) rfl (by kernel_rfl) ?_
  intro hc
  cases x with
  | s n =>
    walk_at "gj"
    refine k_pb_sym hK hB ?_
    walk_at "gj"
    exact ret_same hc hq
  | k y c =>
    walk_at "gj"
    refine k_pb_sym hK hB ?_
    walk_at "gj"
    exact ret_same hc hq
  | p ks c =>
    walk_at "gj"
    exact ret_same hc hq
  | a x =>
    cases x with
    | nm n =>
      walk_at "gj"
      refine k_pb_sym hK hB ?_
      walk_at "gj"
      exact ret_same hc hq
    | ty n =>
      walk_at "gj"
      refine k_pb_ty hK hB ?_
      walk_at "gj"
      exact ret_same hc hq
    | df n o =>
      walk_at "gj"
      refine k_pb_sym hK hB ?_
      walk_at "gj"
      exact ret_same hc hq
    | rs n =>
      walk_at "gj"
      refine k_pb_rest hK hB ?_
      walk_at "gj"
      exact ret_same hc hq
    | tp n m =>
      walk_at "gj"
      refine k_pb_tup hK hB ?_
      walk_at "gj"
      exact ret_same hc hq
/-- the call inside a head -/
theorem k_hc {d : Nat} {ws : List T} {b : Bool} {cl : Cl} {as : List T} {H : List O} {Q : V → List O → Prop} (hq : Q (.d (cl.call as).enc) H) : CallW W 238 (d + 2) [.d (wh ws (co b (cl.call as))).enc] H Q := by
  refine call_fn hK (i := 23) rfl (d_head_call hK hB) (n := 1) (by kernel_rfl) rfl (by kernel_rfl) ?_
  intro hc
  walk_at "gj"
  refine ⟨ws.length + 1 + 1, ?_⟩
  refine whL_ind (I := fun n ρ H' => H' = H ∧ ∃ ws' b', n = List.length ws' + (if b' = true then 1 else 0) ∧ ρ = [some (.d (wh ws' (co b' (cl.call as))).enc)]) ?_ (ws.length + 1) (ws.length + (if b = true then 1 else 0)) _ _ (by split <;> omega) ⟨rfl, ws, b, rfl, rfl⟩
  rintro n k ρ H' hn ⟨rfl, ws', b', hnn, rfl⟩ ih
  cases ws' with
  | nil =>
    cases b' with
    | false =>
      cases cl
      all_goals
        walk_at "gj"
        exact ret_same hc hq
    | true =>
      cases cl
      all_goals
        walk_at "gj"
        exact ih 0 _ _ (by rw [hnn]; decide) ⟨rfl, [], false, rfl, rfl⟩
  | cons w r =>
    walk_at "gj"
    refine ih (r.length + (if b' = true then 1 else 0)) _ _ (by rw [hnn, List.length_cons]; omega) ⟨rfl, r, b', rfl, rfl⟩
end

/-! ## E11 -/
theorem ret_two2 {H : List O} {a a' : O} {l : List PyData} {Q : V → List O → Prop} (hc : Closed H) (hq : Q (.d (.list l)) H) : RetW H.length (.ret (.ref (H ++ [a']).length)) (H ++ [a] ++ [.list l]) Q := by
  have hx : frz H.length (H ++ [a] ++ [.list l]) (.ref (H ++ [a']).length) = some (.list l) := by
    unfold frz; dsimp only; rw [if_pos (by simp), two_b]
  rw [List.append_assoc] at hx ⊢
  exact ret_app hc hx hq

theorem it_par {i : It} (h : i.t.isEx "parameters" = true) : ∃ ks c, i = .p ks c := by
  cases i with
  | p ks c => exact ⟨ks, c, rfl⟩
  | s n => cases h
  | k y c => exact absurd (show (("kw" : Str) == "parameters") = true from h) (by decide)
  | a v =>
    cases v with
    | nm n => cases h
    | ty n => exact absurd (show (("::" : Str) == "parameters") = true from h) (by decide)
    | df n o => exact absurd (show (("kw" : Str) == "parameters") = true from h) (by decide)
    | rs n => exact absurd (show (("..." : Str) == "parameters") = true from h) (by decide)
    | tp n m => exact absurd (show (("tuple" : Str) == "parameters") = true from h) (by decide)
theorem it_late {i : It} (h : i.t.isEx "parameters" = false) : i.late = [] := by
  cases i with
  | p ks c => exact absurd (show (("parameters" : Str) == "parameters") = false from h) (by decide)
  | _ => rfl

section
variable {W : Wd} {K : Frag} (hK : FK W K) (hB : Bu W)
include hK hB
/-- the loop over the arguments -/
theorem hn_loop {d : Nat} {l : List It} {fs0 : List Str} {G : List O} {y0 y1 y2 x0 : Option V} {Q : Fl → Rho → List O → Prop} (ho : fs0.length + (l.flatMap It.now).length ≤ 2000) (hq : ∀ x, Q .next [y0, y1, y2, some (.ref G.length), x] (G ++ [O.list (sl (fs0 ++ l.flatMap It.now))])) :
    forL (d + 3) (t_head_names_2 W) 4 (its l) [y0, y1, y2, some (.ref G.length), x0] (G ++ [O.list (sl fs0)]) Q := by
  refine forL_ind (I := fun r ρ H' => ∃ l' fs x, r = its l' ∧ ρ = [y0, y1, y2, some (.ref G.length), x] ∧ H' = G ++ [O.list (sl fs)] ∧ fs.length + (l'.flatMap It.now).length ≤ 2000 ∧ fs ++ l'.flatMap It.now = fs0 ++ l.flatMap It.now) ?_ ?_ ⟨l, fs0, _, rfl, rfl, rfl, ho, rfl⟩
  · rintro ρ H' ⟨l', fs, x, e, rfl, rfl, hle, ho⟩
    cases l' with
    | cons => cases e
    | nil =>
      have ho' := (List.append_nil fs).symm.trans ho
      rw [ho']; exact hq x
  · rintro y r ρ H' ⟨l', fs, x, e, rfl, rfl, hle, ho⟩ ih
    cases l' with
    | nil => cases e
    | cons i r =>
      cases e
      simp only [List.flatMap_cons, List.length_append] at hle
      walk_at "gj"
      refine k_ab hK hB ?_
      walk_at "gj"
      refine ⟨by rw [sl_len, sl_len]; lia, ?_⟩
      walk_at "gj"
      refine ih _ _ ⟨r, fs ++ i.now, _, rfl, rfl, by rw [sl_app], by rw [List.length_append]; lia, ?_⟩
      rw [← ho, List.flatMap_cons, List.append_assoc]
theorem k_hn {d : Nat} {ws : List T} {b : Bool} {cl : Cl} {l : List It} (hl : l.length ≤ 1000) (ho : (l.flatMap It.now).length ≤ 1000) {H : List O} {Q : V → List O → Prop} (hq : Q (.d (.list (sl (cl.ns ++ l.flatMap It.now)))) H) : CallW W 245 (d + 4) [.d (wh ws (co b (cl.call (l.map It.t)))).enc] H Q := by
  refine call_fn hK (i := 24) rfl (d_head_names hK hB) (n := 5) (by kernel_rfl) rfl (by kernel_rfl) ?_
  intro hc
  have hlen : ∀ t : T, (T.encs (t :: l.map It.t)).length ≤ 65536 := fun t => by rw [encs_map]; simp; lia
  walk_at "gj"
  refine k_hc hK hB ?_
  cases cl with
  | fn c =>
    walk_at "gj"
    refine ⟨hlen _, ?_⟩
    walk_at "gj"
    refine hn_loop hK hB (fs0 := []) (G := H ++ [O.list []]) (Nat.le_trans (Nat.le_of_eq (Nat.zero_add _)) (Nat.le_trans ho (by decide))) fun x => ?_
    walk_at "gj"
    exact ret_two2 hc hq
  | ty c =>
    walk_at "gj"
    refine k_pb_tyk hK hB ?_
    walk_at "gj"
    refine ⟨hlen _, ?_⟩
    walk_at "gj"
    refine hn_loop hK hB (fs0 := [c]) (G := H ++ [O.list []]) (Nat.le_trans (Nat.add_le_add_left ho 1) (by decide)) fun x => ?_
    walk_at "gj"
    exact ret_two2 hc hq
  | tup =>
    walk_at "gj"
    refine hn_loop hK hB (fs0 := []) (Nat.le_trans (Nat.le_of_eq (Nat.zero_add _)) (Nat.le_trans ho (by decide))) fun x => ?_
    walk_at "gj"
    exact ret_app hc (frz_new _ _) hq
/-- the loop over the keywords of one row -/
theorem kn_row {d : Nat} {ks fs0 : List Str} {c : Int} {H : List O} {y0 z x0 : Option V} {Q : Fl → Rho → List O → Prop} (ho : fs0.length + ks.length ≤ 3000) (hq : ∀ x, Q .next [y0, some (.ref H.length), z, x] (H ++ [O.list (sl (fs0 ++ ks))])) :
    forL (d + 3) (t_keyword_names_1 W) 3 (T.encs (ks.map (kwT c))) [y0, some (.ref H.length), z, x0] (H ++ [O.list (sl fs0)]) Q := by
  refine forL_ind (I := fun q ρ H' => ∃ ks' gs x, q = T.encs (ks'.map (kwT c)) ∧ ρ = [y0, some (.ref H.length), z, x] ∧ H' = H ++ [O.list (sl gs)] ∧ gs.length + ks'.length ≤ 3000 ∧ gs ++ ks' = fs0 ++ ks) ?_ ?_ ⟨ks, fs0, _, rfl, rfl, rfl, ho, rfl⟩
  · rintro ρ H' ⟨ks', gs, x, e, rfl, rfl, hle2, ho2⟩
    cases ks' with
    | cons => cases e
    | nil =>
      have ho2' := (List.append_nil gs).symm.trans ho2
      rw [ho2']; exact hq x
  · rintro y q ρ H' ⟨ks', gs, x, e, rfl, rfl, hle2, ho2⟩ ih2
    cases ks' with
    | nil => cases e
    | cons y ks' =>
      cases e
      simp only [List.length_cons] at hle2
      walk_at "gj"
      refine k_pb_sym hK hB ?_
      walk_at "gj"
      refine ⟨by rw [sl_len, sl_len]; simp only [List.length_cons, List.length_nil]; lia, ?_⟩
      walk_at "gj"
      refine ih2 _ _ ⟨ks', gs ++ [y], _, rfl, rfl, by rw [sl_app], by simp only [List.length_append, List.length_cons, List.length_nil]; lia, ?_⟩
      rw [← ho2, List.append_assoc]; rfl
/-- the loop over the arguments -/
theorem kn_loop {d : Nat} {l : List It} {H : List O} {y0 x0 z0 : Option V} {Q : Fl → Rho → List O → Prop} (ho : (l.flatMap It.late).length ≤ 2000) (hq : ∀ x z, Q .next [y0, some (.ref H.length), x, z] (H ++ [O.list (sl (l.flatMap It.late))])) :
    forL (d + 3) (t_keyword_names_2 W) 2 (its l) [y0, some (.ref H.length), x0, z0] (H ++ [O.list []]) Q := by
  refine forL_ind (I := fun r ρ H' => ∃ l' fs x z, r = its l' ∧ ρ = [y0, some (.ref H.length), x, z] ∧ H' = H ++ [O.list (sl fs)] ∧ fs.length + (l'.flatMap It.late).length ≤ 2000 ∧ fs ++ l'.flatMap It.late = l.flatMap It.late) ?_ ?_ ⟨l, [], _, _, rfl, rfl, rfl, Nat.le_trans (Nat.le_of_eq (Nat.zero_add _)) ho, rfl⟩
  · rintro ρ H' ⟨l', fs, x, z, e, rfl, rfl, hle, ho⟩
    cases l' with
    | cons => cases e
    | nil =>
      have ho' := (List.append_nil fs).symm.trans ho
      rw [ho']; exact hq x z
  · rintro y r ρ H' ⟨l', fs, x, z, e, rfl, rfl, hle, ho⟩ ih
    cases l' with
    | nil => cases e
    | cons i r =>
      cases e
      simp only [List.flatMap_cons, List.length_append] at hle
      walk_at "gj"
      refine k_is_expr hK hB (t := i.t) ?_
      cases hp : i.t.isEx "parameters" with
      | false =>
        walk_at "gj"
        refine ih _ _ ⟨r, fs, _, _, rfl, rfl, rfl, by lia, ?_⟩
        rw [← ho, List.flatMap_cons, it_late hp, List.nil_append]
      | true =>
        obtain ⟨ks, c, rfl⟩ := it_par hp
        have hks : (It.p ks c).late = ks := rfl
        rw [hks] at hle
        walk_at "gj"
        refine kn_row hK hB (by lia) fun x => ?_
        refine ih _ _ ⟨r, fs ++ ks, _, _, rfl, rfl, rfl, by rw [List.length_append]; lia, ?_⟩
        rw [← ho, List.flatMap_cons, hks, List.append_assoc]
theorem k_kn {d : Nat} {ws : List T} {b : Bool} {cl : Cl} {l : List It} (hl : l.length ≤ 1000) (ho : (l.flatMap It.late).length ≤ 1000) {H : List O} {Q : V → List O → Prop} (hq : Q (.d (.list (sl (l.flatMap It.late)))) H) : CallW W 252 (d + 4) [.d (wh ws (co b (cl.call (l.map It.t)))).enc] H Q := by
  refine call_fn hK (i := 25) rfl (d_keyword_names hK hB) (n := 4) (by kernel_rfl) rfl (by kernel_rfl) ?_
  intro hc
  walk_at "gj"
  refine k_hc hK hB ?_
  cases cl
  all_goals
    walk_at "gj"
    refine kn_loop hK hB (Nat.le_trans ho (by decide)) fun x z => ?_
    walk_at "gj"
    exact ret_app hc (frz_new _ _) hq
theorem k_wb {d : Nat} {ws : List Bd} {b : Bool} {cl : Cl} {as : List T} {H : List O} {Q : V → List O → Prop} (hl : ws.length ≤ 1000) (hq : Q (.d (.list (sl (ws.map Bd.n)))) H) :
    CallW W 259 (d + 2) [.d (wh (ws.map Bd.t) (co b (cl.call as))).enc] H Q := by
  refine call_fn hK (i := 26) rfl (d_where_names_binders hK hB) (n := 3) (by kernel_rfl) rfl (by kernel_rfl) ?_
  intro hc
  walk_at "gj"
  refine ⟨ws.length + 1 + 1, ?_⟩
  refine whL_ind (I := fun n ρ H' => ∃ ws' b' fs x, n = List.length ws' + (if b' = true then 1 else 0) ∧ ρ = [some (.d (wh (ws'.map Bd.t) (co b' (cl.call as))).enc), some (.ref H.length), x] ∧ H' = H ++ [.list (sl fs)] ∧ fs.length + ws'.length ≤ 2000 ∧ fs ++ ws'.map Bd.n = ws.map Bd.n) ?_ (ws.length + 1) (ws.length + (if b = true then 1 else 0)) _ _ (by split <;> lia) ⟨ws, b, [], _, rfl, rfl, rfl, by simp only [List.length_nil, List.length_cons]; lia, rfl⟩
  rintro n k ρ H' hn ⟨ws', b', fs, x, hnn, rfl, rfl, hlo, ho⟩ ih
  cases ws' with
  | nil =>
    have ho' := (List.append_nil fs).symm.trans ho
    cases b' with
    | false =>
      cases cl
      all_goals
        walk_at "gj"
        exact ret_app hc (frz_new _ _) (by rw [ho']; exact hq)
    | true =>
      walk_at "gj"
      exact ih 0 _ _ (by rw [hnn]; decide) ⟨[], false, fs, _, rfl, rfl, rfl, hlo, ho⟩
  | cons v r =>
    have fin : ∀ {ρ' : Rho}, (∃ x, ρ' = [some (.d (wh (r.map Bd.t) (co b' (cl.call as))).enc), some (.ref H.length), x]) → ∃ ws' b'' fs' x, r.length + (if b' = true then 1 else 0) = List.length ws' + (if b'' = true then 1 else 0) ∧ ρ' = [some (.d (wh (ws'.map Bd.t) (co b'' (cl.call as))).enc), some (.ref H.length), x] ∧ H ++ [O.list (sl fs ++ sl [v.n])] = H ++ [.list (sl fs')] ∧ fs'.length + ws'.length ≤ 2000 ∧ fs' ++ ws'.map Bd.n = ws.map Bd.n := by
      rintro ρ' ⟨x, rfl⟩
      refine ⟨r, b', fs ++ [v.n], _, rfl, rfl, by rw [sl_app], ?_, ?_⟩
      · simp only [List.length_append, List.length_cons, List.length_nil] at hlo ⊢; lia
      · rw [← ho, List.append_assoc]; rfl
    have hm : r.length + (if b' = true then 1 else 0) < n := by rw [hnn, List.length_cons]; lia
    have hfs : (sl fs).length + 1 ≤ 65536 := by rw [sl_len]; simp only [List.length_cons] at hlo; lia
    cases v with
    | nm m =>
      walk_at "gj"
      refine ⟨4, ?_⟩
      walk_at "gj"
      refine ⟨hfs, ?_⟩
      walk_at "gj"
      exact ih _ _ _ hm (fin ⟨_, rfl⟩)
    | lo m =>
      walk_at "gj"
      refine ⟨4, ?_⟩
      walk_at "gj"
      refine ⟨hfs, ?_⟩
      walk_at "gj"
      exact ih _ _ _ hm (fin ⟨_, rfl⟩)
    | hi m =>
      walk_at "gj"
      refine ⟨4, ?_⟩
      walk_at "gj"
      refine ⟨hfs, ?_⟩
      walk_at "gj"
      exact ih _ _ _ hm (fin ⟨_, rfl⟩)
    | cp m =>
      walk_at "gj"
      refine ⟨4, ?_⟩
      walk_at "gj"
      refine ⟨hfs, ?_⟩
      walk_at "gj"
      exact ih _ _ _ hm (fin ⟨_, rfl⟩)
end

/-! ## S0 -/
noncomputable def nohash (x : Str) : Prop := 35 ∉ x.cps.toList
theorem hash_is : ("#" : Str) = ⟨#[35]⟩ := by decide
theorem cat_list (a b : Str) : (a ++ b).cps.toList = a.cps.toList ++ b.cps.toList := by
  show (a.cps ++ b.cps).toList = _
  simp
theorem cut_eq {c : Nat} : ∀ {a a' b b' : List Nat}, c ∉ a → c ∉ a' → a ++ c :: b = a' ++ c :: b' → a = a'
  | [], [], _, _, _, _, _ => rfl
  | [], y :: r, _, _, _, h, e => by
    have : c = y := by simpa using (List.cons.inj e).1
    exact absurd (by simp [this]) h
  | x :: r, [], _, _, h, _, e => by
    have : x = c := by simpa using (List.cons.inj e).1
    exact absurd (by simp [this]) h
  | x :: r, y :: r', _, _, h, h', e => by
    obtain ⟨h1, h2⟩ := List.cons.inj e
    rw [h1, cut_eq (a := r) (a' := r') (fun hx => h (by simp [hx])) (fun hx => h' (by simp [hx])) h2]
theorem split_hash {x s : Str} (h : nohash x) : (Txt.split (x ++ "#" ++ s) "#")[0]? = some x := by
  have hj := PySem.StrLaws.join_split (x ++ "#" ++ s) "#"
  have hf := PySem.StrLaws.split_free (x ++ "#" ++ s) 35
  rw [← hash_is] at hf
  generalize Txt.split (x ++ "#" ++ s) "#" = l at hj hf
  have hl : (x ++ "#" ++ s).cps.toList = x.cps.toList ++ 35 :: s.cps.toList := by
    rw [cat_list, cat_list, hash_is]; simp
  cases l with
  | nil =>
    have : (Str.join "#" []).cps.toList = (x ++ "#" ++ s).cps.toList := by rw [hj]
    rw [hl] at this
    have h2 : (Str.join "#" []).cps.toList = [] := by decide
    rw [h2] at this
    simp at this
  | cons p r =>
    have hp := hf p (by simp)
    cases r with
    | nil =>
      have hjp : p = x ++ "#" ++ s := hj
      rw [hjp, hl] at hp
      simp at hp
    | cons q r =>
      have hjp : p ++ "#" ++ Str.join "#" (q :: r) = x ++ "#" ++ s := hj
      have e : p.cps.toList ++ 35 :: (Str.join "#" (q :: r)).cps.toList = x.cps.toList ++ 35 :: s.cps.toList := by
        rw [← hl, ← hjp, cat_list, cat_list, hash_is]; simp
      have := cut_eq hp h e
      have hpx : p = x := by
        apply PySem.Str.ext'
        exact Array.toList_inj.mp this
      rw [hpx]; rfl
theorem split_free0 {x : Str} (h : nohash x) : (Txt.split x "#")[0]? = some x := by
  have hj := PySem.StrLaws.join_split x "#"
  have hp := PyProof.Rows.split_pos x "#"
  generalize Txt.split x "#" = l at hj hp
  cases l with
  | nil => simp at hp
  | cons p r =>
    cases r with
    | nil =>
      have hjp : p = x := hj
      rw [hjp]; rfl
    | cons q r =>
      have hjp : p ++ "#" ++ Str.join "#" (q :: r) = x := hj
      refine absurd ?_ h
      rw [← hjp, cat_list, cat_list, hash_is]; simp
theorem in_hash (x : Str) : (!(Builtin.Str.occurrences x "#" 0 x.length 1).isEmpty) = decide (35 ∈ x.cps.toList) := by
  rw [hash_is]; exact PySem.StrLaws.found_one x 35
theorem parts_len (z : Str) : (Builtin.Str.partsBetween z (Builtin.Str.occurrences z "#" 0 z.length (z.length + 1)) ("#" : Str).length).length ≤ z.length + 2 := by
  have := PySem.StrLaws.occ_length_le z "#" 0 z.length (z.length + 1)
  unfold Builtin.Str.partsBetween
  simp only [List.length_map, List.length_zip, List.length_cons, List.length_append, List.length_nil]
  lia

/-! ## E12 -/
theorem ret_set {H : List O} {i : Nat} {o : O} {x : PyData} {Q : V → List O → Prop} (hc : Closed H) (ho : oIn H.length o = true) (hq : Q (.d x) (H.set i o)) : RetW H.length (.ret (.d x)) (H.set i o) Q :=
  ⟨closed_set hc ho, .inl ⟨x, rfl, by rw [List.take_of_length_le (by rw [List.length_set]; exact Nat.le_refl _)]; exact hq⟩⟩
theorem num_len : ∀ k < 100, (Str.ofString (toString ((k : Nat) + 1 : Int))).length ≤ 10 := by decide +kernel

section
variable {W : Wd} {K : Frag} (hK : FK W K) (hB : Bu W)
include hK hB
theorem k_on_flat {d : Nat} {ps : List T} (hp : ∀ t ∈ ps, t.isLf = true) (hl : ps.length ≤ 1000) {H : List O} {Q : V → List O → Prop} (hq : Q (.d (.tuple [.list [], .list []])) H) : CallW W 224 (d + 3) [.d (.list [(T.ex "tuple" ps).enc])] H Q := by
  refine call_fn hK (i := 21) rfl (d_own_names hK hB) (n := 7) (by kernel_rfl) rfl (by kernel_rfl) ?_
  intro hc
  walk_at "gj"
  obtain ⟨N, hN⟩ : ∃ N, N = ps.length + 1 := ⟨_, rfl⟩
  refine ⟨N + 1, ?_⟩
  walk_at "gj"
  refine ⟨[], _, rfl, ?_⟩
  walk_at "gj"
  have hl2 : (T.encs ps).length ≤ 65536 := by rw [encs_map, List.length_map]; lia
  refine ⟨hl2, ?_⟩
  walk_at "gj"
  refine ⟨by simp [encs_map]; lia, ?_⟩
  walk_at "gj"
  walk_at "nl"
  subst hN
  have hr : ([] : List PyData) ++ (T.encs ps).reverse = T.encs ps.reverse := by simp [encs_map]
  rw [hr]
  refine whL_ind (I := fun n ρ H' => ∃ ls y x z w, n = ls.length ∧ (∀ t ∈ ls, t.isLf = true) ∧ ls.length ≤ 1000 ∧ ρ = [y, some (.ref H.length), some (.d (.list [])), some (.ref (H ++ [O.list []] ++ [O.list [(T.ex "tuple" ps).enc]]).length), x, z, w] ∧ H' = H ++ [O.list []] ++ [O.list [(T.ex "tuple" ps).enc]] ++ [O.list (T.encs ls)]) ?_ ps.length ps.length _ _ (Nat.le_refl _) ⟨ps.reverse, _, _, _, _, by simp, by simpa using hp, by simpa using hl, rfl, rfl⟩
  rintro n k ρ H' hn ⟨ls, y, x, z, w, rfl, hlf, hls, rfl, rfl⟩ ih
  rcases List.eq_nil_or_concat ls with rfl | ⟨l', t, rfl⟩
  · walk_at "gj"
    rw [List.append_assoc, List.append_assoc]
    refine rett_app hc ?_ hq
    unfold frzs frz; simp [frzs, frz]
  · walk_at "gj"
    rw [List.concat_eq_append, encs_app]
    have he : (T.encs l' ++ T.encs [t]).isEmpty = false := by cases l' <;> rfl
    rw [he]
    walk_at "gj"
    refine ⟨by simp [encs_map] at hls ⊢; lia, _, _, rfl, ?_⟩
    have hm : l'.length < (l'.concat t).length := by simp
    have ht : t.isLf = true := hlf t (by simp)
    have hI : ∀ ρ' : Rho, (∃ y x z w, ρ' = [y, some (.ref H.length), some (.d (.list [])), some (.ref (H ++ [O.list []] ++ [O.list [(T.ex "tuple" ps).enc]]).length), x, z, w]) → ∀ e, e = T.encs l' → ∃ ls y x z w, l'.length = List.length ls ∧ (∀ t ∈ ls, t.isLf = true) ∧ ls.length ≤ 1000 ∧ ρ' = [y, some (.ref H.length), some (.d (.list [])), some (.ref (H ++ [O.list []] ++ [O.list [(T.ex "tuple" ps).enc]]).length), x, z, w] ∧ H ++ [O.list []] ++ [O.list [(T.ex "tuple" ps).enc]] ++ [O.list e] = H ++ [O.list []] ++ [O.list [(T.ex "tuple" ps).enc]] ++ [O.list (T.encs ls)] := by
      rintro ρ' ⟨y, x, z, w, rfl⟩ e rfl
      exact ⟨l', _, _, _, _, rfl, fun t ht => hlf t (by simp [ht]), by simp at hls; lia, rfl, rfl⟩
    have hl3 : (T.encs l').length + 0 ≤ 65536 := by simp [encs_map] at hls ⊢; lia
    cases t with
    | sym n =>
      walk_at "gj"
      refine ⟨hl3, ?_⟩
      walk_at "gj"
      exact ih _ _ _ hm (hI _ ⟨_, _, _, _, rfl⟩ _ (by simp))
    | int i =>
      walk_at "gj"
      refine ⟨hl3, ?_⟩
      walk_at "gj"
      exact ih _ _ _ hm (hI _ ⟨_, _, _, _, rfl⟩ _ (by simp))
    | ex => cases ht
theorem k_on_open {d : Nat} {h : Str} (hh : h = "function" ∨ h = "->") {ps : List T} {H : List O} {Q : V → List O → Prop} (hq : Q (.d (.tuple [.list [], .list []])) H) : CallW W 224 (d + 3) [.d (.list [(T.ex h ps).enc])] H Q := by
  refine call_fn hK (i := 21) rfl (d_own_names hK hB) (n := 7) (by kernel_rfl) rfl (by kernel_rfl) ?_
  intro hc
  rcases hh with rfl | rfl
  all_goals
    walk_at "gj"
    refine ⟨3, ?_⟩
    walk_at "gj"
    refine ⟨[], _, rfl, ?_⟩
    walk_at "gj"
    rw [List.append_assoc, List.append_assoc]
    refine rett_app hc ?_ hq
    simp [frzs, frz]
theorem k_next {d i : Nat} {k : Nat} (hk : k < 100) {x : Str} (hx : nohash x) (hxl : x.length ≤ 1000) {H : List O} (hi : H[i]? = some (.inst 316 [("many", .d (.int k))])) {Q : V → List O → Prop} (hq : Q (.d (.str (x ++ "#" ++ Str.ofString (toString ((k : Int) + 1))))) (H.set i (.inst 316 [("many", .d (.int ((k : Int) + 1)))]))) : CallW W 313 (d + 1) [.ref i, .d (.str x)] H Q := by
  refine call_fn hK (i := 41) rfl (d_NameSupply_next hK hB) (n := 2) (by kernel_rfl) rfl (by kernel_rfl) ?_
  intro hc
  walk_at "gj"
  refine ⟨by lia, by have := parts_len x; lia, ?_⟩
  have hs := split_free0 hx
  rw [hs]
  have hH := set_at_self (o' := .inst 316 [("many", .d (.int ((k : Int) + 1)))]) hi
  walk_at "gj"
  have h1 : (Str.ofString "#").length = 1 := by decide
  have h2 := num_len k hk
  refine ⟨by lia, ?_⟩
  walk_at "gj"
  refine ⟨by lia, by lia, ?_⟩
  walk_at "gj"
  refine ⟨by rw [Str.length_append]; lia, ?_⟩
  walk_at "gj"
  exact ret_set hc rfl hq
end

/-! ## E13 -/
noncomputable abbrev supO (k : Nat) : O := .inst 316 [("many", .d (.int k))]
noncomputable abbrev renO (s : Nat) : O := .inst 434 [("supply", .ref s)]
noncomputable def hsh (x : Str) (k : Nat) : Str := x ++ "#" ++ Str.ofString (toString ((k : Int) + 1))
noncomputable def frs : List Str → Nat → List (Str × PyData) → List (Str × PyData)
  | [], _, l => l
  | x :: r, k, l => frs r (k + 1) (dset l x (.str (hsh x k)))
theorem dset_len (l : List (Str × PyData)) (k : Str) (v : PyData) : (dset l k v).length ≤ l.length + 1 := by
  unfold dset
  by_cases h : (l.any fun kv => decide (kv.1 = k)) = true
  · rw [if_pos h, List.length_map]; exact Nat.le_succ _
  · rw [if_neg h, List.length_append]; exact Nat.le_refl _
theorem setW_dict {H : List O} {i : Nat} {l : List (Str × PyData)} {k : Str} {z : PyData} {Q : List O → Prop} (h : H[i]? = some (.dict l)) (hl : l.length ≤ 60000) (hf : flatD z = true) (q : Q (H.set i (.dict (dset l k z)))) : setW (.ref i) (.d (.str k)) (.d z) H Q := by
  refine .mk ?_
  show (match H[i]? with | some o => setO o i _ _ H Q | none => False)
  rw [h]; exact ⟨hl, hf, q⟩
theorem idx_lt {H : List O} {i : Nat} {o : O} (h : H[i]? = some o) : i < H.length := (List.getElem?_eq_some_iff.mp h).1
theorem ret_keepo {G : List O} {n : Nat} {o : O} {Q : V → List O → Prop} (hn : G.length = n) (hc : G.all (oIn n) = true) (ho : oIn n o = true) (hq : Q (.ref n) (G ++ [o])) : RetW n (.ret (.ref n)) (G ++ [o]) Q := by
  subst hn
  refine ⟨by rw [List.take_left]; exact hc, .inr ?_⟩
  unfold keepW
  dsimp only
  rw [if_neg (Nat.lt_irrefl _), one_a, List.take_left]
  exact ⟨ho, hq⟩
theorem all_set {H : List O} {i : Nat} {o : O} (hc : Closed H) (ho : oIn H.length o = true) : (H.set i o).all (oIn H.length) = true := by
  have := closed_set (i := i) hc ho
  rw [List.take_of_length_le (by rw [List.length_set]; exact Nat.le_refl _)] at this
  exact this

section
variable {W : Wd} {K : Frag} (hK : FK W K) (hB : Bu W)
include hK hB
theorem k_nxt {d i k : Nat} (hk : k < 100) {x : Str} (hx : nohash x) (hxl : x.length ≤ 1000) {H : List O} (hi : H[i]? = some (supO k)) {Q : V → List O → Prop} (hq : Q (.d (.str (hsh x k))) (H.set i (supO (k + 1)))) : CallW W 313 (d + 1) [.ref i, .d (.str x)] H Q :=
  k_next hK hB hk hx hxl hi hq
theorem k_fresh {d r s e k : Nat} {l0 : List (Str × PyData)} {ns : List Str} {H : List O} (hr : H[r]? = some (renO s)) (hs : H[s]? = some (supO k)) (he : H[e]? = some (.dict l0)) (hns : ∀ x ∈ ns, nohash x ∧ x.length ≤ 1000) (hk : k + ns.length ≤ 90) (hl0 : l0.length ≤ 1000)
    {Q : V → List O → Prop} (hq : Q (.ref H.length) (H.set s (supO (k + ns.length)) ++ [.dict (frs ns k l0)])) : CallW W 348 (d + 2) [.ref r, .ref e, .d (.list (sl ns))] H Q := by
  refine call_fn hK (i := 43) rfl (d_Renamer_fresh hK hB) (n := 5) (by kernel_rfl) rfl (by kernel_rfl) ?_
  intro hc
  have hrs : s ≠ r := fun h => by subst h; rw [hs] at hr; cases hr
  have hrl := idx_lt hr
  have hsl := idx_lt hs
  walk_at "gj"
  refine ⟨by lia, ?_⟩
  walk_at "gj"
  walk_at "nl"
  refine forL_ind (I := fun q ρ H' => ∃ ns' k' l' x, q = sl ns' ∧ ρ = [some (.ref r), some (.ref e), some (.d (.list (sl ns))), some (.ref H.length), x] ∧ H' = H.set s (supO k') ++ [.dict l'] ∧ frs ns' k' l' = frs ns k l0 ∧ k' + ns'.length = k + ns.length ∧ l'.length ≤ 1000 + k' ∧ (∀ x ∈ ns', nohash x ∧ x.length ≤ 1000)) ?_ ?_ ⟨ns, k, l0, _, rfl, rfl, by rw [set_same hs], rfl, rfl, by lia, hns⟩
  · rintro ρ H' ⟨ns', k', l', x, e1, rfl, rfl, e2, e3, hl, hn⟩
    cases ns' with
    | cons => cases e1
    | nil =>
      have e2' : l' = frs ns k l0 := e2
      simp only [List.length_nil, Nat.add_zero] at e3
      walk_at "gj"
      refine ret_keepo (by simp) (all_set hc rfl) rfl ?_
      rw [e2', e3]; exact hq
  · rintro y q ρ H' ⟨ns', k', l', x, e1, rfl, rfl, e2, e3, hl, hn⟩ ih
    cases ns' with
    | nil => cases e1
    | cons n ns' =>
      cases e1
      simp only [List.length_cons] at e3
      obtain ⟨hn1, hn2⟩ := hn n (by simp)
      have g1 : (H.set s (supO k') ++ [O.dict l'])[r]? = some (renO s) := by
        rw [List.getElem?_append_left (by simpa using hrl), List.getElem?_set_ne hrs]; exact hr
      have g2 : (H.set s (supO k') ++ [O.dict l'])[s]? = some (supO k') := by
        rw [List.getElem?_append_left (by simpa using hsl)]; simp [hsl]
      have g3 : (H.set s (supO (k' + 1)) ++ [O.dict l'])[H.length]? = some (.dict l') := by
        have : H.length = (H.set s (supO (k' + 1))).length := by simp
        rw [this, one_a]
      walk_at "gj"
      refine k_nxt hK hB (by lia) hn1 hn2 g2 ?_
      have g4 : (H.set s (supO k') ++ [O.dict l']).set s (supO (k' + 1)) = H.set s (supO (k' + 1)) ++ [O.dict l'] := by
        rw [List.set_append_left _ _ (by simpa using hsl), List.set_set]
      rw [g4]
      walk_at "gj"
      refine setW_dict g3 (by lia) rfl ?_
      have g5 : (H.set s (supO (k' + 1)) ++ [O.dict l']).set H.length (.dict (dset l' n (.str (hsh n k')))) = H.set s (supO (k' + 1)) ++ [O.dict (dset l' n (.str (hsh n k')))] := by
        have : H.length = (H.set s (supO (k' + 1))).length := by simp
        rw [this, one_s]
      rw [g5]
      refine ih _ _ ⟨ns', k' + 1, _, _, rfl, rfl, rfl, e2, by lia, ?_, fun x hx => hn x (by simp [hx])⟩
      have := dset_len l' n (.str (hsh n k'))
      lia
theorem k_opened {d r s e k : Nat} {l0 : List (Str × PyData)} {t : PyData} {H : List O} (hr : H[r]? = some (renO s)) (hs : H[s]? = some (supO k)) (he : H[e]? = some (.dict l0)) (hk : k ≤ 90) (hl0 : l0.length ≤ 1000)
    (hon : ∀ {R : V → List O → Prop}, R (.d (.tuple [.list [], .list []])) H → CallW W 224 (d + 3) [.d (.list [t])] H R)
    {Q : V → List O → Prop} (hq : Q (.ref H.length) (H ++ [.dict l0])) : CallW W 355 (d + 4) [.ref r, .ref e, .d (.list [t])] H Q := by
  refine call_fn hK (i := 44) rfl (d_Renamer_opened hK hB) (n := 8) (by kernel_rfl) rfl (by kernel_rfl) ?_
  intro hc
  walk_at "gj"
  refine hon ?_
  walk_at "gj"
  refine k_fresh hK hB (ns := []) hr hs he (by simp) (by simpa using hk) hl0 ?_
  rw [show k + ([] : List Str).length = k from rfl, set_same hs]
  walk_at "gj"
  exact ret_keepo rfl hc rfl hq
end

/-! ## E14 -/
noncomputable def look (l : List (Str × PyData)) (x : Str) : Str := match dget l x with
  | some (.str y) => y
  | _ => x
noncomputable def DStr (l : List (Str × PyData)) : Prop := ∀ x v, dget l x = some v → ∃ y, v = .str y
mutual
noncomputable def T.ren (f : Str → Str) : T → T
  | .sym n => .sym (f n)
  | .int i => .int i
  | .ex h ps => .ex h (T.rens f ps)
noncomputable def T.rens (f : Str → Str) : List T → List T
  | [] => []
  | t :: r => t.ren f :: T.rens f r
end
theorem rens_map (f : Str → Str) (l : List T) : T.rens f l = l.map (T.ren f) := by
  induction l with
  | nil => rfl
  | cons t r ih => show t.ren f :: T.rens f r = _; rw [ih]; rfl
noncomputable def plainH : List Str := ["tuple", "::", "...", "<:", ">:", "comparison", "parameters"]
/-- what 'of' walks without a scope of its own -/
inductive Pl (f : Str → Str) : Nat → T → Prop where
  | lf {n : Nat} {t : T} (h : t.isLf = true) : Pl f n t
  | ex {n : Nat} {h : Str} {ps : List T} (hh : h ∈ plainH) (hl : ps.length ≤ 1000) (hp : ∀ t ∈ ps, Pl f n t) : Pl f (n + 1) (.ex h ps)
  | kw {n : Nat} {k : Str} {b : T} (hk : f k = k) (hb : b.isLf = true) : Pl f (n + 1) (.ex "kw" [.sym k, b])

/-- what a call of 'of' gives -/
structure OfG (W : Wd) (d r e s : Nat) (l : List (Str × PyData)) (dp : Int) (t : T) : Prop where
  go : ∀ {H : List O} {Q : V → List O → Prop}, H[r]? = some (renO s) → H[e]? = some (.dict l) → Q (.d (t.ren (look l)).enc) H → CallW W 374 d [.ref r, .ref e, .d t.enc, .d (.int dp)] H Q
theorem OfG.up {W : Wd} {d d' r e s : Nat} {l : List (Str × PyData)} {dp : Int} {t : T} (hd : d = d') (h : OfG W d r e s l dp t) : OfG W d' r e s l dp t := by subst hd; exact h

section
variable {W : Wd} {K : Frag} (hK : FK W K) (hB : Bu W)
include hK hB
theorem k_all_t {d r e s : Nat} {l : List (Str × PyData)} {dp : Int} {ps : List T} (hl : ps.length ≤ 1000) (hp : ∀ t ∈ ps, OfG W d r e s l dp t) {H : List O} (hr : H[r]? = some (renO s)) (he : H[e]? = some (.dict l)) {Q : V → List O → Prop} (hq : Q (.d (.list (T.encs (T.rens (look l) ps)))) H) :
    CallW W 367 (d + 1) [.ref r, .ref e, .d (.tuple (T.encs ps)), .d (.int dp)] H Q := by
  refine call_fn hK (i := 46) rfl (d_Renamer_all_of hK hB) (n := 4) (by kernel_rfl) rfl (by kernel_rfl) ?_
  intro hc
  walk_at "gj"
  refine ⟨by rw [encs_map, List.length_map]; lia, ?_⟩
  refine compL_ind (I := fun q acc H' => ∃ ps' a, q = T.encs ps' ∧ acc = T.encs a ∧ H' = H ∧ a ++ T.rens (look l) ps' = T.rens (look l) ps ∧ ∀ t ∈ ps', OfG W d r e s l dp t) ?_ ?_ ⟨ps, [], rfl, rfl, rfl, rfl, hp⟩
  · rintro acc H' ⟨ps', a, e1, rfl, rfl, ho, hp'⟩
    cases ps' with
    | cons => cases e1
    | nil =>
      have ho' := (List.append_nil a).symm.trans ho
      walk_at "gj"
      exact ret_same hc (by rw [ho']; exact hq)
  · rintro y q acc H' ⟨ps', a, e1, rfl, rfl, ho, hp'⟩ ih
    cases ps' with
    | nil => cases e1
    | cons t ps' =>
      cases e1
      walk_at "gj"
      refine (hp' t (by simp)).go hr he ?_
      walk_at "gj"
      refine ih _ _ ⟨ps', a ++ [t.ren (look l)], rfl, by rw [encs_app]; rfl, rfl, ?_, fun u hu => hp' u (by simp [hu])⟩
      rw [← ho, List.append_assoc]; rfl
theorem k_of_lf {d r e s : Nat} {l : List (Str × PyData)} (hd : DStr l) {dp : Int} (hdp : dp ≤ 119) {t : T} (ht : t.isLf = true) : OfG W (d + 2) r e s l dp t := by
  refine ⟨fun {H Q} hr he hq => ?_⟩
  refine call_fn hK (i := 47) rfl (d_Renamer_of hK hB) (n := 6) (by kernel_rfl) rfl (by kernel_rfl) ?_
  intro hc
  have hdd : decide (dp > 120) = false := by simp; lia
  walk_at "gj"
  refine ite_f hdd ?_
  cases t with
  | ex => cases ht
  | int i =>
    walk_at "gj"
    exact ret_same hc hq
  | sym n =>
    walk_at "gj"
    walk_at "cw"
    cases hg : dget l n with
    | none =>
      walk_at "gj"
      have hn : look l n = n := by simp [look, hg]
      refine rett_same hc ?_ (xs := [.str "sym", .str (look l n)]) hq
      rw [hn]; rfl
    | some w =>
      obtain ⟨y, rfl⟩ := hd _ _ hg
      walk_at "gj"
      have hn : look l n = y := by simp [look, hg]
      refine rett_same hc ?_ (xs := [.str "sym", .str (look l n)]) hq
      rw [hn]; rfl
theorem k_of_ex {d r e s : Nat} {l : List (Str × PyData)} {dp : Int} (hdp : dp ≤ 119) {h : Str} {ps : List T} (hh : h ∈ plainH) (hl : ps.length ≤ 1000) (hp : ∀ t ∈ ps, OfG W (d + 1) r e s l (dp + 1) t) : OfG W (d + 3) r e s l dp (.ex h ps) := by
  refine ⟨fun {H Q} hr he hq => ?_⟩
  refine call_fn hK (i := 47) rfl (d_Renamer_of hK hB) (n := 6) (by kernel_rfl) rfl (by kernel_rfl) ?_
  intro hc
  have hdd : decide (dp > 120) = false := by simp; lia
  walk_at "gj"
  refine ite_f hdd ?_
  simp only [plainH, List.mem_cons, List.not_mem_nil, or_false] at hh
  rcases hh with rfl | rfl | rfl | rfl | rfl | rfl | rfl
  all_goals
    walk_at "gj"
    refine k_all_t hK hB hl hp hr he ?_
    walk_at "gj"
    refine k_expr_l hK hB (by rw [encs_map, rens_map, List.length_map, List.length_map]; lia) ?_
    walk_at "gj"
    exact ret_same hc hq
theorem k_kept {d r e : Nat} {n : Str} {dp : Int} {H : List O} {Q : V → List O → Prop} (hq : Q (.d (T.sym n).enc) H) : CallW W 386 (d + 2) [.ref r, .ref e, .d (T.sym n).enc, .d (.int dp)] H Q := by
  refine call_fn hK (i := 49) rfl (d_Renamer_kept hK hB) (n := 4) (by kernel_rfl) rfl (by kernel_rfl) ?_
  intro hc
  walk_at "gj"
  exact ret_same hc hq
theorem k_named {d r e s : Nat} {l : List (Str × PyData)} {dp : Int} {k : Str} {b : T} (hb : OfG W (d + 1) r e s l (dp + 1) b) {H : List O} (hr : H[r]? = some (renO s)) (he : H[e]? = some (.dict l)) {Q : V → List O → Prop} (hq : Q (.d (T.ex "kw" [.sym k, b.ren (look l)]).enc) H) : CallW W 379 (d + 3) [.ref r, .ref e, .d (T.ex "kw" [.sym k, b]).enc, .d (.int dp)] H Q := by
  refine call_fn hK (i := 48) rfl (d_Renamer_named hK hB) (n := 6) (by kernel_rfl) rfl (by kernel_rfl) ?_
  intro hc
  walk_at "gj"
  refine k_kept hK hB ?_
  walk_at "gj"
  refine k_all_t hK hB (ps := [b]) (by simp) (fun t ht => ?_) hr he ?_
  · obtain rfl : t = b := by simpa using ht
    exact hb
  walk_at "gj"
  refine ⟨(by decide : 2 ≤ 65536), ?_⟩
  walk_at "gj"
  refine k_expr_l hK hB (by decide : 2 ≤ 60000) ?_
  walk_at "gj"
  exact ret_same hc hq
theorem k_of_kw {d r e s : Nat} {l : List (Str × PyData)} {dp : Int} (hdp : dp ≤ 119) {k : Str} (hk : look l k = k) {b : T} (hb : OfG W (d + 1) r e s l (dp + 1) b) : OfG W (d + 4) r e s l dp (.ex "kw" [.sym k, b]) := by
  refine ⟨fun {H Q} hr he hq => ?_⟩
  refine call_fn hK (i := 47) rfl (d_Renamer_of hK hB) (n := 6) (by kernel_rfl) rfl (by kernel_rfl) ?_
  intro hc
  have hdd : decide (dp > 120) = false := by simp; lia
  walk_at "gj"
  refine ite_f hdd ?_
  walk_at "gj"
  refine k_named hK hB hb hr he ?_
  walk_at "gj"
  refine ret_same hc ?_
  have e : (T.ex "kw" [T.sym k, b]).ren (look l) = .ex "kw" [.sym k, b.ren (look l)] := by
    simp only [T.ren, T.rens, hk]
  rw [e] at hq
  exact hq
theorem k_of {r e s : Nat} {l : List (Str × PyData)} (hd : DStr l) : ∀ (n : Nat) {t : T} (h : Pl (look l) n t) {d : Nat} {dp : Int} (hdp : dp + n ≤ 119), OfG W (d + 4 * n + 2) r e s l dp t
  | n, t, .lf h, d, dp, hdp => by
    have := k_of_lf (d := d + 4 * n) (r := r) (e := e) (s := s) hK hB hd (dp := dp) (by lia) h
    exact this
  | n + 1, _, .ex hh hl hp, d, dp, hdp => by
    have := k_of_ex (d := d + 4 * n + 3) (r := r) (e := e) (s := s) hK hB (dp := dp) (by lia) hh hl fun t ht => by
      have := k_of (r := r) (e := e) (s := s) hd n (hp t ht) (d := d + 2) (dp := dp + 1) (by lia)
      exact OfG.up (by lia) this
    exact OfG.up (by lia) this
  | n + 1, _, .kw hk hb, d, dp, hdp => by
    have := k_of_kw (d := d + 4 * n + 2) (r := r) (e := e) (s := s) hK hB (dp := dp) (by lia) hk
      (k_of_lf (d := d + 4 * n + 1) hK hB hd (dp := dp + 1) (by lia) hb)
    exact OfG.up (by lia) this
end

/-! ## E15 -/
structure ArG (W : Wd) (d r e s : Nat) (l : List (Str × PyData)) (dp : Int) (t : T) : Prop where
  go : ∀ {H : List O} {Q : V → List O → Prop}, H[r]? = some (renO s) → H[e]? = some (.dict l) → Q (.d (t.ren (look l)).enc) H → CallW W 405 d [.ref r, .ref e, .d t.enc, .d (.int dp)] H Q
structure HdG (W : Wd) (d r e o s : Nat) (l : List (Str × PyData)) (dp : Int) (t : T) : Prop where
  go : ∀ {H : List O} {Q : V → List O → Prop}, H[r]? = some (renO s) → H[e]? = some (.dict []) → H[o]? = some (.dict l) → Q (.d (t.ren (look l)).enc) H → CallW W 398 d [.ref r, .ref e, .ref o, .d t.enc, .d (.int dp)] H Q
theorem HdG.up {W : Wd} {d d' r e o s : Nat} {l : List (Str × PyData)} {dp : Int} {t : T} (hd : d = d') (h : HdG W d r e o s l dp t) : HdG W d' r e o s l dp t := by subst hd; exact h
theorem dstr_nil : DStr [] := fun x v h => by simp [dget] at h
theorem look_nil (x : Str) : look [] x = x := by simp [look, dget]
theorem pl_flat {f : Str → Str} {h : Str} {ps : List T} (hh : h ∈ plainH) (hl : ps.length ≤ 1000) (hp : ∀ t ∈ ps, t.isLf = true) : Pl f 2 (.ex h ps) := .ex hh hl fun t ht => .lf (hp t ht)
theorem pl_it {f : Str → Str} (x : It) (hw : x.w ≤ 1000) (hx : ∀ k ∈ x.late, f k = k) (hk : ∀ y c, x ≠ .k y c) (hdf : ∀ y c, x ≠ .a (.df y c)) : Pl f 2 x.t := by
  cases x with
  | s n => exact .lf rfl
  | k y c => exact absurd rfl (hk y c)
  | p ks c =>
    simp only [It.w] at hw
    refine .ex (by decide) (by rw [List.length_map]; lia) fun t ht => ?_
    obtain ⟨y, hy, rfl⟩ := List.mem_map.mp ht
    exact .kw (hx y hy) rfl
  | a x =>
    cases x with
    | nm n => exact .lf rfl
    | ty n => exact pl_flat (by decide) (by simp) (by simp [T.isLf])
    | df n o => exact absurd rfl (hdf n o)
    | rs n => exact pl_flat (by decide) (by simp) (by simp [T.isLf])
    | tp n m => exact pl_flat (by decide) (by simp) (by simp [T.isLf])
theorem pl_bd {f : Str → Str} (w : Bd) : Pl f 2 w.t := by
  cases w with
  | nm n => exact .lf rfl
  | lo n => exact pl_flat (by decide) (by simp) (by simp [T.isLf])
  | hi n => exact pl_flat (by decide) (by simp) (by simp [T.isLf])
  | cp n => exact pl_flat (by decide) (by simp) (by simp [T.isLf])

section
variable {W : Wd} {K : Frag} (hK : FK W K) (hB : Bu W)
include hK hB
theorem k_ar_kw {d r e s : Nat} {l : List (Str × PyData)} {dp : Int} {ps : List T} (hl : ps.length ≤ 1000) (hp : ∀ t ∈ ps, OfG W d r e s l (dp + 1) t) : ArG W (d + 2) r e s l dp (.ex "kw" ps) := by
  refine ⟨fun {H Q} hr he hq => ?_⟩
  refine call_fn hK (i := 52) rfl (d_Renamer_argument hK hB) (n := 4) (by kernel_rfl) rfl (by kernel_rfl) ?_
  intro hc
  walk_at "gj"
  refine k_all_t hK hB hl hp hr he ?_
  walk_at "gj"
  refine k_expr_l hK hB (by rw [encs_map, rens_map, List.length_map, List.length_map]; lia) ?_
  walk_at "gj"
  exact ret_same hc hq
theorem k_ar_it {d r e s : Nat} {l : List (Str × PyData)} (hd : DStr l) {dp : Int} (hdp : dp ≤ 115) (x : It) (hw : x.w ≤ 1000) (hx : ∀ k ∈ x.late, look l k = k) : ArG W (d + 11) r e s l dp x.t := by
  by_cases h1 : ∃ y c, x = .k y c
  · obtain ⟨y, c, rfl⟩ := h1
    exact k_ar_kw (d := d + 9) hK hB (by simp) fun t ht => k_of_lf hK hB hd (by lia) (by
      have : t = .sym y ∨ t = .int c := by simpa using ht
      rcases this with rfl | rfl <;> rfl)
  by_cases h2 : ∃ y c, x = .a (.df y c)
  · obtain ⟨y, c, rfl⟩ := h2
    exact k_ar_kw (d := d + 9) hK hB (by simp) fun t ht => k_of_lf hK hB hd (by lia) (by
      have : t = .sym y ∨ t = .sym c := by simpa using ht
      rcases this with rfl | rfl <;> rfl)
  have hof := k_of (d := d) (r := r) (e := e) (s := s) hK hB hd 2 (pl_it (f := look l) x hw hx (fun y c h => h1 ⟨y, c, h⟩) (fun y c h => h2 ⟨y, c, h⟩)) (dp := dp) (by lia)
  refine ⟨fun {H Q} hr he hq => ?_⟩
  refine call_fn hK (i := 52) rfl (d_Renamer_argument hK hB) (n := 4) (by kernel_rfl) rfl (by kernel_rfl) ?_
  intro hc
  cases x with
  | s n =>
    walk_at "gj"
    refine hof.go hr he ?_
    walk_at "gj"
    exact ret_same hc hq
  | k y c => exact absurd ⟨y, c, rfl⟩ h1
  | p ks c =>
    walk_at "gj"
    refine hof.go hr he ?_
    walk_at "gj"
    exact ret_same hc hq
  | a x =>
    cases x with
    | df y c => exact absurd ⟨y, c, rfl⟩ h2
    | nm n =>
      walk_at "gj"
      refine hof.go hr he ?_
      walk_at "gj"
      exact ret_same hc hq
    | ty n =>
      walk_at "gj"
      refine hof.go hr he ?_
      walk_at "gj"
      exact ret_same hc hq
    | rs n =>
      walk_at "gj"
      refine hof.go hr he ?_
      walk_at "gj"
      exact ret_same hc hq
    | tp n m =>
      walk_at "gj"
      refine hof.go hr he ?_
      walk_at "gj"
      exact ret_same hc hq
/-- the display of the arguments, renamed -/
theorem comp_args {d r o s : Nat} {lo : List (Str × PyData)} {dp : Int} {l : List It} (har : ∀ x ∈ l, ArG W d r o s lo (dp + 1) x.t) {ρ : Rho} (hρ : ∀ y, compRho ρ [("own", 2), ("self", 0), ("deep", 4)] y = [some y, some (.ref o), some (.ref r), some (.d (.int dp))])
    {H : List O} (hr : H[r]? = some (renO s)) (ho : H[o]? = some (.dict lo)) {Q : List PyData → List O → Prop} (hq : Q (T.encs (T.rens (look lo) (l.map It.t))) H) :
    compL d t_sndf_nil (t_snd_meth W "argument" 434 405 (t_snd_name 2) (t_snd_cons (t_snd_name 1) (t_snd_cons (t_snd_name 0) (t_snd_cons (t_snd_bin .Add (t_snd_name 3) (t_snd_int 1)) t_snd_nil)))) ρ [("own", 2), ("self", 0), ("deep", 4)] (T.encs (l.map It.t)) [] H Q := by
  refine compL_ind (I := fun q acc H' => ∃ l' a, q = its l' ∧ acc = T.encs a ∧ H' = H ∧ a ++ T.rens (look lo) (l'.map It.t) = T.rens (look lo) (l.map It.t) ∧ ∀ x ∈ l', ArG W d r o s lo (dp + 1) x.t) ?_ ?_ ⟨l, [], rfl, rfl, rfl, rfl, har⟩
  · rintro acc H' ⟨l', a, e1, rfl, rfl, ho', hp'⟩
    cases l' with
    | cons => cases e1
    | nil =>
      have ho'' := (List.append_nil a).symm.trans ho'
      rw [ho'']; exact hq
  · rintro y q acc H' ⟨l', a, e1, rfl, rfl, ho', hp'⟩ ih
    cases l' with
    | nil => cases e1
    | cons x l' =>
      cases e1
      rw [hρ]
      walk_at "gj"
      refine (hp' x (by simp)).go hr ho ?_
      walk_at "gj"
      refine ih _ _ ⟨l', a ++ [x.t.ren (look lo)], rfl, by rw [encs_app]; rfl, rfl, ?_, fun u hu => hp' u (by simp [hu])⟩
      rw [← ho', List.append_assoc]; rfl
theorem k_hd_call {d r e o s : Nat} {lo : List (Str × PyData)} (hd : DStr lo) {dp : Int} (hdp : dp ≤ 110) {cl : Cl} (hcl : ∀ c, cl = .fn c → look lo c = c) {l : List It} (hl : l.length ≤ 1000) (hlw : ∀ x ∈ l, x.w ≤ 1000) (hlk : ∀ x ∈ l, ∀ k ∈ x.late, look lo k = k) : HdG W (d + 12) r e o s lo dp (cl.call (l.map It.t)) := by
  refine ⟨fun {H Q} hr he ho hq => ?_⟩
  refine call_fn hK (i := 51) rfl (d_Renamer_head hK hB) (n := 8) (by kernel_rfl) rfl (by kernel_rfl) ?_
  intro hc
  have hdd : decide (dp > 120) = false := by simp; lia
  have har : ∀ x ∈ l, ArG W (d + 11) r o s lo (dp + 1) x.t := fun x hx => k_ar_it hK hB hd (by lia) x (hlw x hx) (hlk x hx)
  have hlen : ∀ t : T, (T.encs (t :: l.map It.t)).length ≤ 65536 := fun t => by rw [encs_map]; simp; lia
  have hlen2 : (T.encs (l.map It.t)).length ≤ 65536 := by rw [encs_map]; simp; lia
  have hlen3 : (T.encs (T.rens (look lo) (l.map It.t))).length ≤ 1000 := by rw [encs_map, rens_map]; simp; lia
  cases cl with
  | fn c =>
    have hf := hcl c rfl
    walk_at "gj"
    refine ite_f hdd ?_
    walk_at "gj"
    refine (k_of_lf (d := d + 9) hK hB dstr_nil (by lia) (t := .sym c) rfl).go hr he ?_
    rw [show (T.sym c).ren (look []) = .sym c by simp only [T.ren, look_nil]]
    walk_at "gj"
    refine ⟨hlen _, ?_⟩
    walk_at "gj"
    refine ⟨hlen2, comp_args hK hB har (fun _ => rfl) hr ho ?_⟩
    walk_at "gj"
    refine ⟨Nat.le_trans (Nat.add_le_add_left hlen3 1) (show 1 + 1000 ≤ 65536 by decide), ?_⟩
    walk_at "gj"
    refine k_expr_l hK hB (Nat.le_trans (Nat.succ_le_succ hlen3) (show 1001 ≤ 60000 by decide)) ?_
    walk_at "gj"
    refine ret_same hc ?_
    have e : (Cl.call (.fn c) (l.map It.t)).ren (look lo) = .ex "call" (.sym c :: T.rens (look lo) (l.map It.t)) := by
      simp only [Cl.call, T.ren, T.rens, hf]
    rw [e] at hq; exact hq
  | ty n =>
    walk_at "gj"
    refine ite_f hdd ?_
    walk_at "gj"
    refine (k_of (d := d + 1) hK hB hd 2 (pl_flat (by decide) (by simp) (by simp [T.isLf])) (dp := dp + 1) (by lia)).go hr ho ?_
    walk_at "gj"
    refine ⟨hlen _, ?_⟩
    walk_at "gj"
    refine ⟨hlen2, comp_args hK hB har (fun _ => rfl) hr ho ?_⟩
    walk_at "gj"
    refine ⟨Nat.le_trans (Nat.add_le_add_left hlen3 1) (show 1 + 1000 ≤ 65536 by decide), ?_⟩
    walk_at "gj"
    refine k_expr_l hK hB (Nat.le_trans (Nat.succ_le_succ hlen3) (show 1001 ≤ 60000 by decide)) ?_
    walk_at "gj"
    exact ret_same hc hq
  | tup =>
    walk_at "gj"
    refine ite_f hdd ?_
    walk_at "gj"
    refine ⟨hlen2, comp_args hK hB har (fun _ => rfl) hr ho ?_⟩
    walk_at "gj"
    refine k_expr_l hK hB (Nat.le_trans hlen3 (by decide)) ?_
    walk_at "gj"
    exact ret_same hc hq
end

/-! ## E16 -/
noncomputable def keep1 (l : List (Str × PyData)) (ks : List Str) : List (Str × PyData) := ks.foldl (fun l k => dset l k (.str k)) l
/-- the table of a function's own names -/
noncomputable def ownD (ws ns ks : List Str) (k : Nat) : List (Str × PyData) := keep1 (frs (ws ++ ns) k []) ks
theorem frs_len : ∀ (ns : List Str) (k : Nat) (l : List (Str × PyData)), (frs ns k l).length ≤ l.length + ns.length
  | [], _, l => Nat.le_refl _
  | x :: r, k, l => by
    have h1 := frs_len r (k + 1) (dset l x (.str (hsh x k)))
    have h2 := dset_len l x (.str (hsh x k))
    simp only [frs, List.length_cons]; lia
structure BoG (W : Wd) (d r e s : Nat) (l : List (Str × PyData)) (dp : Int) (t : T) : Prop where
  go : ∀ {k : Nat} {H : List O} {Q : V → List O → Prop}, k ≤ 90 → H[r]? = some (renO s) → H[s]? = some (supO k) → H[e]? = some (.dict l) → Q (.d (t.ren (look l)).enc) H → CallW W 362 d [.ref r, .ref e, .d t.enc, .d (.int dp)] H Q

section
variable {W : Wd} {K : Frag} (hK : FK W K) (hB : Bu W)
include hK hB
theorem k_hd_co {d r e o s : Nat} {lo : List (Str × PyData)} (hd : DStr lo) {dp : Int} (hdp : dp ≤ 110) {cl : Cl} (hcl : cl.h = "call") {as : List T} (h : HdG W (d + 5) r e o s lo (dp + 1) (cl.call as)) : HdG W (d + 6) r e o s lo dp (co true (cl.call as)) := by
  refine ⟨fun {H Q} hr he ho hq => ?_⟩
  refine call_fn hK (i := 51) rfl (d_Renamer_head hK hB) (n := 8) (by kernel_rfl) rfl (by kernel_rfl) ?_
  intro hc
  have hdd : decide (dp > 120) = false := by simp; lia
  cases cl with
  | tup => cases hcl
  | fn c =>
    walk_at "gj"
    refine ite_f hdd ?_
    walk_at "gj"
    refine h.go hr he ho ?_
    walk_at "gj"
    refine k_all_t hK hB (ps := [.sym "R"]) (by simp) (fun t ht => ?_) hr ho ?_
    · obtain rfl : t = .sym "R" := by simpa using ht
      exact k_of_lf (d := d + 2) hK hB hd (by lia) rfl
    walk_at "gj"
    refine ⟨(by decide : 2 ≤ 65536), ?_⟩
    walk_at "gj"
    refine k_expr_l hK hB (by decide : 2 ≤ 60000) ?_
    walk_at "gj"
    exact ret_same hc hq
  | ty c =>
    walk_at "gj"
    refine ite_f hdd ?_
    walk_at "gj"
    refine h.go hr he ho ?_
    walk_at "gj"
    refine k_all_t hK hB (ps := [.sym "R"]) (by simp) (fun t ht => ?_) hr ho ?_
    · obtain rfl : t = .sym "R" := by simpa using ht
      exact k_of_lf (d := d + 2) hK hB hd (by lia) rfl
    walk_at "gj"
    refine ⟨(by decide : 2 ≤ 65536), ?_⟩
    walk_at "gj"
    refine k_expr_l hK hB (by decide : 2 ≤ 60000) ?_
    walk_at "gj"
    exact ret_same hc hq
theorem k_hd_w1 {d r e o s : Nat} {lo : List (Str × PyData)} (hd : DStr lo) {dp : Int} (hdp : dp ≤ 110) {w : Bd} {c : T} (h : HdG W (d + 11) r e o s lo (dp + 1) c) : HdG W (d + 12) r e o s lo dp (.ex "where" [c, w.t]) := by
  refine ⟨fun {H Q} hr he ho hq => ?_⟩
  refine call_fn hK (i := 51) rfl (d_Renamer_head hK hB) (n := 8) (by kernel_rfl) rfl (by kernel_rfl) ?_
  intro hc
  have hdd : decide (dp > 120) = false := by simp; lia
  walk_at "gj"
  refine ite_f hdd ?_
  walk_at "gj"
  refine h.go hr he ho ?_
  walk_at "gj"
  refine k_all_t hK hB (ps := [w.t]) (by simp) (fun t ht => ?_) hr ho ?_
  · obtain rfl : t = w.t := by simpa using ht
    exact k_of hK hB hd 2 (pl_bd w) (d := d) (dp := dp + 1) (by lia)
  walk_at "gj"
  refine ⟨(by decide : 2 ≤ 65536), ?_⟩
  walk_at "gj"
  refine k_expr_l hK hB (by decide : 2 ≤ 60000) ?_
  walk_at "gj"
  exact ret_same hc hq
theorem k_hd_wh {r e o s : Nat} {lo : List (Str × PyData)} (hd : DStr lo) {c : T} : ∀ {ws : List Bd} {d : Nat} {dp : Int} (hdp : dp + ws.length ≤ 110) (h : HdG W (d + 13) r e o s lo (dp + ws.length) c), HdG W (d + 13 + ws.length) r e o s lo dp (wh (ws.map Bd.t) c)
  | [], d, dp, _, h => by
    show HdG W (d + 13 + 0) r e o s lo dp c
    simpa using h
  | w :: r', d, dp, hdp, h => by
    have hdp' : dp + 1 + r'.length ≤ 110 := by simp only [List.length_cons] at hdp; lia
    have hx : dp + ((w :: r').length : Nat) = dp + 1 + r'.length := by simp only [List.length_cons]; lia
    rw [hx] at h
    have ih := k_hd_wh (r := r) (e := e) (o := o) (s := s) hd (ws := r') hdp' h
    have := k_hd_w1 (d := d + 2 + r'.length) hK hB hd (dp := dp) (w := w) (by lia) (HdG.up (by lia) ih)
    exact HdG.up (by simp only [List.length_cons]; lia) this
theorem k_head {d r e o s : Nat} {lo : List (Str × PyData)} (hd : DStr lo) {dp : Int} {ws : List Bd} (hdp : dp + ws.length ≤ 105) {b : Bool} {cl : Cl} (hb : b = true → cl.h = "call") (hcl : ∀ c, cl = .fn c → look lo c = c) {l : List It} (hl : l.length ≤ 1000) (hlw : ∀ x ∈ l, x.w ≤ 1000) (hlk : ∀ x ∈ l, ∀ k ∈ x.late, look lo k = k) :
    HdG W (d + 13 + ws.length) r e o s lo dp (wh (ws.map Bd.t) (co b (cl.call (l.map It.t)))) := by
  refine k_hd_wh hK hB hd (by lia) ?_
  cases b with
  | false => exact HdG.up (by lia) (k_hd_call (d := d + 1) hK hB hd (dp := dp + ws.length) (by lia) hcl hl hlw hlk)
  | true => exact HdG.up (by lia) (k_hd_co (d := d + 7) hK hB hd (dp := dp + ws.length) (by lia) (hb rfl) (k_hd_call (d := d) hK hB hd (by lia) hcl hl hlw hlk))
theorem k_body_flat {d r e s : Nat} {l : List (Str × PyData)} (hl : l.length ≤ 1000) (hd : DStr l) {dp : Int} (hdp : dp ≤ 110) {ps : List T} (hp : ∀ t ∈ ps, t.isLf = true) (hpl : ps.length ≤ 1000) : BoG W (d + 11) r e s l dp (.ex "tuple" ps) := by
  refine ⟨fun {k H Q} hk hr hs he hq => ?_⟩
  refine call_fn hK (i := 45) rfl (d_Renamer_body hK hB) (n := 4) (by kernel_rfl) rfl (by kernel_rfl) ?_
  intro hc
  walk_at "gj"
  refine k_opened (d := d + 6) hK hB hr hs he hk hl (fun {R} hR => k_on_flat hK hB hp hpl hR) ?_
  have hr' : (H ++ [O.dict l])[r]? = some (renO s) := by rw [List.getElem?_append_left (idx_lt hr)]; exact hr
  walk_at "gj"
  refine (k_of (d := d) hK hB hd 2 (pl_flat (by decide) hpl hp) (dp := dp) (by lia)).go hr' (one_a _ _) ?_
  walk_at "gj"
  exact ret_app hc rfl hq
end

/-! ## E17 -/
theorem ret_pre {G X : List O} {n : Nat} {x : PyData} {Q : V → List O → Prop} (hn : G.length = n) (hc : G.all (oIn n) = true) (hq : Q (.d x) G) : RetW n (.ret (.d x)) (G ++ X) Q := by
  subst hn
  exact ⟨by rw [List.take_left]; exact hc, .inl ⟨x, rfl, by rw [List.take_left]; exact hq⟩⟩

section
variable {W : Wd} {K : Frag} (hK : FK W K) (hB : Bu W)
include hK hB
theorem k_function {d r e s k : Nat} {ws : List Bd} {b : Bool} {cl : Cl} {l : List It} {bs : List Str} {f : Str} {lo : List (Str × PyData)} {nsum : Nat}
    (hlo : lo = ownD (ws.map Bd.n) (cl.ns ++ l.flatMap It.now) (l.flatMap It.late) k) (hd : DStr lo) (hws : ws.length ≤ 50) (hl : l.length ≤ 100) (hlw : ∀ x ∈ l, x.w ≤ 1000) (hlk : ∀ x ∈ l, ∀ k ∈ x.late, look lo k = k) (hcl : ∀ c, cl = .fn c → look lo c = c) (hb : b = true → cl.h = "call") (hbs : bs.length ≤ 200)
    (hnow : (l.flatMap It.now).length ≤ 60) (hlate : (l.flatMap It.late).length ≤ 60) (hns : ∀ x ∈ ws.map Bd.n ++ (cl.ns ++ l.flatMap It.now), nohash x ∧ x.length ≤ 1000) (hsum : nsum = k + (ws.map Bd.n ++ (cl.ns ++ l.flatMap It.now)).length) (hk : nsum ≤ 90)
    {H : List O} (hr : H[r]? = some (renO s)) (hs : H[s]? = some (supO k)) (he : H[e]? = some (.dict [])) {Q : V → List O → Prop}
    (hq : Q (.d ((T.ex f [wh (ws.map Bd.t) (co b (cl.call (l.map It.t))), .ex "tuple" (bs.map T.sym)]).ren (look lo)).enc) (H.set s (supO nsum))) :
    CallW W 393 (d + 80) [.ref r, .ref e, .d (T.ex f [wh (ws.map Bd.t) (co b (cl.call (l.map It.t))), .ex "tuple" (bs.map T.sym)]).enc, .d (.int 0)] H Q := by
  refine call_fn hK (i := 50) rfl (d_Renamer_function hK hB) (n := 8) (by kernel_rfl) rfl (by kernel_rfl) ?_
  intro hc
  have hcn : cl.ns.length ≤ 1 := by cases cl <;> simp [Cl.ns]
  have hrs : s ≠ r := fun h => by subst h; rw [hs] at hr; cases hr
  have hes : s ≠ e := fun h => by subst h; rw [hs] at he; cases he
  have hrl := idx_lt hr
  have hel := idx_lt he
  have hsl := idx_lt hs
  walk_at "gj"
  refine k_wb hK hB (by lia) ?_
  walk_at "gj"
  refine k_hn hK hB (by lia) (by lia) ?_
  walk_at "gj"
  refine ⟨by rw [sl_len, sl_len]; simp only [List.length_append, List.length_map] at *; lia, ?_⟩
  rw [← sl_app]
  walk_at "gj"
  refine k_fresh hK hB hr hs he hns (by lia) (by decide) ?_
  rw [← hsum]
  walk_at "gj"
  refine k_kn hK hB (by lia) (by lia) ?_
  generalize hlf : frs (ws.map Bd.n ++ (cl.ns ++ l.flatMap It.now)) k [] = lf
  have hlfl : lf.length ≤ 90 := by
    have := frs_len (ws.map Bd.n ++ (cl.ns ++ l.flatMap It.now)) k []
    rw [hlf] at this
    simp only [List.length_nil] at this; lia
  have hlo' : lo = keep1 lf (l.flatMap It.late) := by rw [hlo, ← hlf]; rfl
  have glen : (H.set s (supO nsum)).length = H.length := by simp
  have gr : ∀ q, (H.set s (supO nsum) ++ [O.dict q])[r]? = some (renO s) := fun q => by
    rw [List.getElem?_append_left (by simpa using hrl), List.getElem?_set_ne hrs]; exact hr
  have ge : ∀ q, (H.set s (supO nsum) ++ [O.dict q])[e]? = some (.dict []) := fun q => by
    rw [List.getElem?_append_left (by simpa using hel), List.getElem?_set_ne hes]; exact he
  have gs : ∀ q, (H.set s (supO nsum) ++ [O.dict q])[s]? = some (supO nsum) := fun q => by
    rw [List.getElem?_append_left (by simpa using hsl)]; simp [hsl]
  have go : ∀ q, (H.set s (supO nsum) ++ [O.dict q])[H.length]? = some (.dict q) := fun q => by rw [← glen, one_a]
  have gset : ∀ q q', (H.set s (supO nsum) ++ [O.dict q]).set H.length (.dict q') = H.set s (supO nsum) ++ [O.dict q'] := fun q q' => by
    have : H.length = (H.set s (supO nsum)).length := by simp
    rw [this, one_s]
  walk_at "gj"
  walk_at "nl"
  refine forL_ind (I := fun q ρ H' => ∃ ks' l' x, q = sl ks' ∧ ρ = [some (.ref r), some (.ref e), some (.d (T.ex f [wh (ws.map Bd.t) (co b (cl.call (l.map It.t))), .ex "tuple" (bs.map T.sym)]).enc), some (.d (.int 0)), some (.d (wh (ws.map Bd.t) (co b (cl.call (l.map It.t)))).enc), some (.d (T.ex "tuple" (bs.map T.sym)).enc), some (.ref H.length), x] ∧ H' = H.set s (supO nsum) ++ [O.dict l'] ∧ keep1 l' ks' = lo ∧ l'.length + ks'.length ≤ 300) ?_ ?_ ⟨l.flatMap It.late, lf, _, rfl, rfl, rfl, hlo'.symm, by lia⟩
  · rintro ρ H' ⟨ks', l', x, e1, rfl, rfl, e2, e3⟩
    cases ks' with
    | cons => cases e1
    | nil =>
      obtain rfl : l' = lo := e2
      have gr' := gr l'
      walk_at "gj"
      refine (k_head (ws := ws) (b := b) (cl := cl) (l := l) (d := d + 66 - ws.length) hK hB hd (dp := 1) (by lia) hb hcl (by lia) hlw hlk).up (d' := d + 79) (by lia) |>.go (gr _) (ge _) (go _) ?_
      walk_at "gj"
      refine (k_body_flat (d := d + 68) hK hB (by simp only [List.length_nil] at e3; lia) hd (dp := 1) (by decide) (syms_lf bs) (by rw [List.length_map]; lia)).go (k := nsum) hk (gr _) (gs _) (go _) ?_
      walk_at "gj"
      refine k_expr_t hK hB (by decide : 2 ≤ 60000) ?_
      walk_at "gj"
      exact ret_pre glen (all_set hc rfl) hq
  · rintro y q ρ H' ⟨ks', l', x, e1, rfl, rfl, e2, e3⟩ ih
    cases ks' with
    | nil => cases e1
    | cons n ks' =>
      cases e1
      simp only [List.length_cons] at e3
      walk_at "gj"
      refine setW_dict (go _) (by lia) rfl ?_
      rw [gset]
      refine ih _ _ ⟨ks', _, _, rfl, rfl, rfl, e2, ?_⟩
      have := dset_len l' n (.str n)
      lia
end

/-! ## E18 -/
/-- a call that gives a tree and counts the supply on -/
structure FnG (W : Wd) (a d s k m : Nat) (args : List V) (pre : List O → Prop) (res : PyData) : Prop where
  go : ∀ {H : List O} {Q : V → List O → Prop}, H[s]? = some (supO k) → pre H → Q (.d res) (H.set s (supO m)) → CallW W a d args H Q
inductive Dp : Nat → T → Prop where
  | lf {n : Nat} {t : T} (h : t.isLf = true) : Dp n t
  | ex {n : Nat} {h : Str} {ps : List T} (hl : ps.length ≤ 1000) (hp : ∀ t ∈ ps, Dp n t) : Dp (n + 1) (.ex h ps)
structure LeG (W : Wd) (d e : Nat) (l : List (Str × PyData)) (t : T) : Prop where
  go : ∀ {H : List O} {Q : V → List O → Prop}, H[e]? = some (.dict l) → Q (.d (t.ren (look l)).enc) H → CallW W 495 d [.d t.enc, .ref e] H Q

section
variable {W : Wd} {K : Frag} (hK : FK W K) (hB : Bu W)
include hK hB
theorem k_of_fun {d r e s k m : Nat} {f : Str} (hf : f = "function" ∨ f = "->") {ps : List T} {res : PyData} (hfn : FnG W 393 (d + 1) s k m [.ref r, .ref e, .d (T.ex f ps).enc, .d (.int 0)] (fun H => H[r]? = some (renO s) ∧ H[e]? = some (.dict [])) res) {H : List O} (hr : H[r]? = some (renO s)) (hs : H[s]? = some (supO k)) (he : H[e]? = some (.dict [])) {Q : V → List O → Prop} (hq : Q (.d res) (H.set s (supO m))) :
    CallW W 374 (d + 2) [.ref r, .ref e, .d (T.ex f ps).enc, .d (.int 0)] H Q := by
  refine call_fn hK (i := 47) rfl (d_Renamer_of hK hB) (n := 6) (by kernel_rfl) rfl (by kernel_rfl) ?_
  intro hc
  rcases hf with rfl | rfl
  all_goals
    walk_at "gj"
    refine hfn.go hs ⟨hr, he⟩ ?_
    walk_at "gj"
    exact ret_set hc rfl hq
theorem k_body_fun {d r e s k m : Nat} {f : Str} (hf : f = "function" ∨ f = "->") {ps : List T} {res : PyData} {H : List O} (hfn : FnG W 393 (d + 1) s k m [.ref r, .ref H.length, .d (T.ex f ps).enc, .d (.int 0)] (fun H' => H'[r]? = some (renO s) ∧ H'[H.length]? = some (.dict [])) res) (hd : 5 ≤ d) (hk : k ≤ 90) (hr : H[r]? = some (renO s)) (hs : H[s]? = some (supO k)) (he : H[e]? = some (.dict [])) {Q : V → List O → Prop} (hq : Q (.d res) (H.set s (supO m))) :
    CallW W 362 (d + 3) [.ref r, .ref e, .d (T.ex f ps).enc, .d (.int 0)] H Q := by
  refine call_fn hK (i := 45) rfl (d_Renamer_body hK hB) (n := 4) (by kernel_rfl) rfl (by kernel_rfl) ?_
  intro hc
  obtain ⟨d', rfl⟩ : ∃ d', d = d' + 5 := ⟨d - 5, by lia⟩
  walk_at "gj"
  refine k_opened (d := d' + 3) hK hB hr hs he hk (by decide) (fun {R} hR => k_on_open hK hB hf hR) ?_
  have hr' : (H ++ [O.dict []])[r]? = some (renO s) := by rw [List.getElem?_append_left (idx_lt hr)]; exact hr
  have hs' : (H ++ [O.dict []])[s]? = some (supO k) := by rw [List.getElem?_append_left (idx_lt hs)]; exact hs
  walk_at "gj"
  refine k_of_fun (d := d' + 5) hK hB hf hfn hr' hs' (one_a _ _) ?_
  rw [List.set_append_left _ _ (idx_lt hs)]
  walk_at "gj"
  exact ret_pre (by simp) (all_set hc rfl) hq
theorem k_Ren_init {d s : Nat} {H : List O} (hs : s < H.length) {Q : V → List O → Prop} (hq : Q (.d .none) (H ++ [renO s])) : CallW W 341 (d + 1) [.ref H.length, .ref s] (H ++ [.inst 434 []]) Q := by
  refine call_fn hK (i := 42) rfl (d_Renamer_init hK hB) (n := 2) (by kernel_rfl) rfl (by kernel_rfl) ?_
  intro hc
  walk_at "gj"
  have e : (H ++ [O.inst 434 []]).length = (H ++ [renO s]).length := by simp
  have hx := closed_set (i := H.length) (o := renO s) hc (by simp [oIn, vIn]; lia)
  rw [one_s, List.take_of_length_le (by simp)] at hx
  rw [e]
  refine ret_none ?_ hq
  unfold Closed
  rw [← e]; exact hx
theorem k_NS_init {d : Nat} {H : List O} {Q : V → List O → Prop} (hq : Q (.d .none) (H ++ [supO 0])) : CallW W 306 (d + 1) [.ref H.length] (H ++ [.inst 316 []]) Q := by
  refine call_fn hK (i := 40) rfl (d_NameSupply_init hK hB) (n := 1) (by kernel_rfl) rfl (by kernel_rfl) ?_
  intro hc
  walk_at "gj"
  have e : (H ++ [O.inst 316 []]).length = (H ++ [supO 0]).length := by simp
  have hx := closed_set (i := H.length) (o := supO 0) hc rfl
  rw [one_s, List.take_of_length_le (by simp)] at hx
  rw [e]
  refine ret_none ?_ hq
  unfold Closed
  rw [← e]; exact hx
theorem k_renamed {d s k m : Nat} {f : Str} (hf : f = "function" ∨ f = "->") {ps : List T} {res : PyData} (hfn : ∀ r e, FnG W 393 (d + 6) s k m [.ref r, .ref e, .d (T.ex f ps).enc, .d (.int 0)] (fun H' => H'[r]? = some (renO s) ∧ H'[e]? = some (.dict [])) res) (hk : k ≤ 90) {H : List O} (hs : H[s]? = some (supO k)) {Q : V → List O → Prop} (hq : Q (.d res) (H.set s (supO m))) :
    CallW W 445 (d + 9) [.d (T.ex f ps).enc, .ref s] H Q := by
  refine call_fn hK (i := 27) rfl (d_renamed_locals hK hB) (n := 2) (by kernel_rfl) rfl (by kernel_rfl) ?_
  intro hc
  walk_at "gj"
  refine ⟨_, rfl, k_Ren_init hK hB (idx_lt hs) ⟨rfl, ?_⟩⟩
  have h1 : (H ++ [renO s])[H.length]? = some (renO s) := one_a _ _
  walk_at "gj"
  refine k_body_fun (d := d + 5) hK hB hf (hfn _ _) (by lia) hk (two_a _ _ _) ?_ (one_a _ _) ?_
  · rw [List.append_assoc, List.getElem?_append_left (idx_lt hs)]; exact hs
  rw [List.append_assoc, List.set_append_left _ _ (idx_lt hs)]
  walk_at "gj"
  exact ret_pre (by simp) (all_set hc rfl) hq
theorem k_led_lf {d e : Nat} {l : List (Str × PyData)} (hd : DStr l) {t : T} (ht : t.isLf = true) : LeG W (d + 1) e l t := by
  refine ⟨fun {H Q} he hq => ?_⟩
  refine call_fn hK (i := 35) rfl (d_law_led hK hB) (n := 2) (by kernel_rfl) rfl (by kernel_rfl) ?_
  intro hc
  cases t with
  | ex => cases ht
  | int i =>
    walk_at "gj"
    exact ret_same hc hq
  | sym n =>
    walk_at "gj"
    walk_at "cw"
    cases hg : dget l n with
    | none =>
      walk_at "gj"
      have hn : look l n = n := by simp [look, hg]
      refine rett_same hc ?_ (xs := [.str "sym", .str (look l n)]) hq
      rw [hn]; rfl
    | some w =>
      obtain ⟨y, rfl⟩ := hd _ _ hg
      walk_at "gj"
      have hn : look l n = y := by simp [look, hg]
      refine rett_same hc ?_ (xs := [.str "sym", .str (look l n)]) hq
      rw [hn]; rfl
theorem k_led_ex {d e : Nat} {l : List (Str × PyData)} {h : Str} {ps : List T} (hl : ps.length ≤ 1000) (hp : ∀ t ∈ ps, LeG W d e l t) : LeG W (d + 1) e l (.ex h ps) := by
  refine ⟨fun {H Q} he hq => ?_⟩
  refine call_fn hK (i := 35) rfl (d_law_led hK hB) (n := 2) (by kernel_rfl) rfl (by kernel_rfl) ?_
  intro hc
  walk_at "gj"
  refine ⟨by rw [encs_map, List.length_map]; lia, ?_⟩
  refine compL_ind (I := fun q acc H' => ∃ ps' a, q = T.encs ps' ∧ acc = T.encs a ∧ H' = H ∧ a ++ T.rens (look l) ps' = T.rens (look l) ps ∧ ∀ t ∈ ps', LeG W d e l t) ?_ ?_ ⟨ps, [], rfl, rfl, rfl, rfl, hp⟩
  · rintro acc H' ⟨ps', a, e1, rfl, rfl, ho, hp''⟩
    cases ps' with
    | cons => cases e1
    | nil =>
      have ho' := (List.append_nil a).symm.trans ho
      walk_at "gj"
      refine ⟨by rw [ho', encs_map, rens_map, List.length_map, List.length_map]; lia, ?_⟩
      walk_at "gj"
      refine rett_same hc ?_ (xs := [.str "expr", .str h, .tuple (T.encs (T.rens (look l) ps))]) hq
      rw [ho']; rfl
  · rintro y q acc H' ⟨ps', a, e1, rfl, rfl, ho, hp''⟩ ih2
    cases ps' with
    | nil => cases e1
    | cons t ps' =>
      cases e1
      walk_at "gj"
      refine (hp'' t (by simp)).go he ?_
      walk_at "gj"
      refine ih2 _ _ ⟨ps', a ++ [t.ren (look l)], rfl, by rw [encs_app]; rfl, rfl, ?_, fun u hu => hp'' u (by simp [hu])⟩
      rw [← ho, List.append_assoc]; rfl
theorem k_led {e : Nat} {l : List (Str × PyData)} (hd : DStr l) (n : Nat) : ∀ {t : T} (h : Dp n t) {d : Nat}, LeG W (d + n + 1) e l t := by
  induction n with
  | zero =>
    intro t h d
    cases h with
    | lf ht => exact k_led_lf hK hB hd ht
  | succ n ih =>
    intro t h d
    cases h with
    | lf ht => exact k_led_lf hK hB hd ht
    | ex hl hp => exact k_led_ex hK hB hl fun t ht => ih (hp t ht)
end

/-! ## F0 -/
theorem dget_cons (a : Str) (w : PyData) (l : List (Str × PyData)) (x : Str) : dget ((a, w) :: l) x = if a = x then some w else dget l x := by
  unfold dget
  rw [List.find?_cons]
  by_cases h : a = x
  · simp [h]
  · simp [h]
theorem dget_map {k : Str} {v : PyData} {x : Str} (hx : x ≠ k) : ∀ l : List (Str × PyData), dget (l.map fun kv => if kv.1 = k then (kv.1, v) else kv) x = dget l x
  | [] => rfl
  | (a, w) :: l => by
    rw [List.map_cons]
    by_cases h : a = k
    · subst h
      rw [if_pos rfl, dget_cons, dget_cons, if_neg (Ne.symm hx), if_neg (Ne.symm hx), dget_map hx l]
    · rw [if_neg h, dget_cons, dget_cons, dget_map hx l]
theorem dget_map_self {k : Str} {v : PyData} : ∀ l : List (Str × PyData), (l.any fun kv => decide (kv.1 = k)) = true → dget (l.map fun kv => if kv.1 = k then (kv.1, v) else kv) k = some v
  | [], h => by simp at h
  | (a, w) :: l, h => by
    rw [List.map_cons]
    by_cases e : a = k
    · rw [if_pos e, dget_cons, if_pos e]
    · rw [if_neg e, dget_cons, if_neg e]
      refine dget_map_self l ?_
      simpa [e] using h
theorem dget_app (l r : List (Str × PyData)) (x : Str) : dget (l ++ r) x = match dget l x with | some v => some v | none => dget r x := by
  induction l with
  | nil => simp [dget]
  | cons p l ih =>
    obtain ⟨a, w⟩ := p
    rw [List.cons_append, dget_cons, dget_cons]
    by_cases h : a = x
    · simp [h]
    · simp [h, ih]
theorem dget_none_of {l : List (Str × PyData)} {k : Str} (h : ¬ (l.any fun kv => decide (kv.1 = k)) = true) : dget l k = none := by
  induction l with
  | nil => rfl
  | cons p l ih =>
    obtain ⟨a, w⟩ := p
    rw [List.any_cons] at h
    have h1 : a ≠ k := fun e => h (by simp [e])
    rw [dget_cons, if_neg h1]
    exact ih fun e => h (by simp [e])
theorem dget_dset (l : List (Str × PyData)) (k : Str) (v : PyData) (x : Str) : dget (dset l k v) x = if x = k then some v else dget l x := by
  unfold dset
  by_cases h : (l.any fun kv => decide (kv.1 = k)) = true
  · rw [if_pos h]
    by_cases e : x = k
    · subst e; rw [if_pos rfl, dget_map_self l h]
    · rw [if_neg e, dget_map e]
  · rw [if_neg h, dget_app]
    by_cases e : x = k
    · subst e; rw [if_pos rfl, dget_none_of h]; simp [dget]
    · rw [if_neg e]
      cases dget l x with
      | some w => rfl
      | none => simp [dget, Ne.symm e]
theorem frs_out : ∀ (ns : List Str) (k : Nat) (l : List (Str × PyData)) (x : Str), x ∉ ns → dget (frs ns k l) x = dget l x
  | [], _, _, _, _ => rfl
  | y :: r, k, l, x, h => by
    rw [frs, frs_out r _ _ x (fun e => h (by simp [e])), dget_dset, if_neg (fun e => h (by simp [e]))]
theorem frs_in : ∀ (ns : List Str) (k : Nat) (l : List (Str × PyData)) (x : Str), ns.Nodup → x ∈ ns → ∃ j, j < k + ns.length ∧ dget (frs ns k l) x = some (.str (hsh x j))
  | [], _, _, _, _, h => by simp at h
  | y :: r, k, l, x, hn, h => by
    obtain ⟨h1, h2⟩ := List.nodup_cons.mp hn
    rcases List.mem_cons.mp h with rfl | h
    · exact ⟨k, by simp, by rw [frs, frs_out r _ _ x h1, dget_dset, if_pos rfl]⟩
    · obtain ⟨j, hj, e⟩ := frs_in r (k + 1) (dset l y (.str (hsh y k))) x h2 h
      exact ⟨j, by simp only [List.length_cons]; lia, by rw [frs]; exact e⟩
theorem keep1_out : ∀ (ks : List Str) (l : List (Str × PyData)) (x : Str), x ∉ ks → dget (keep1 l ks) x = dget l x
  | [], _, _, _ => rfl
  | y :: r, l, x, h => by
    have e : keep1 l (y :: r) = keep1 (dset l y (.str y)) r := rfl
    rw [e, keep1_out r _ x (fun e => h (by simp [e])), dget_dset, if_neg (fun e => h (by simp [e]))]
theorem keep1_in : ∀ (ks : List Str) (l : List (Str × PyData)) (x : Str), x ∈ ks → dget (keep1 l ks) x = some (.str x)
  | [], _, _, h => by simp at h
  | y :: r, l, x, h => by
    have e : keep1 l (y :: r) = keep1 (dset l y (.str y)) r := rfl
    rw [e]
    by_cases hx : x ∈ r
    · exact keep1_in r _ x hx
    · rw [keep1_out r _ x hx, dget_dset]
      rcases List.mem_cons.mp h with rfl | h
      · rw [if_pos rfl]
      · exact absurd h hx
theorem dstr_dset {l : List (Str × PyData)} (h : DStr l) (k y : Str) : DStr (dset l k (.str y)) := fun x v e => by
  rw [dget_dset] at e
  split at e
  · exact ⟨y, (Option.some.inj e).symm⟩
  · exact h x v e
theorem dstr_frs : ∀ (ns : List Str) (k : Nat) {l : List (Str × PyData)}, DStr l → DStr (frs ns k l)
  | [], _, _, h => h
  | y :: r, k, l, h => dstr_frs r (k + 1) (dstr_dset h y _)
theorem dstr_keep : ∀ (ks : List Str) {l : List (Str × PyData)}, DStr l → DStr (keep1 l ks)
  | [], _, h => h
  | y :: r, l, h => dstr_keep r (dstr_dset h y y)
theorem dstr_own (ws ns ks : List Str) (k : Nat) : DStr (ownD ws ns ks k) := dstr_keep _ (dstr_frs _ _ dstr_nil)
theorem own_kw {ws ns ks : List Str} {k : Nat} {x : Str} (h : x ∈ ks) : look (ownD ws ns ks k) x = x := by
  unfold look ownD; rw [keep1_in ks _ x h]
theorem own_in {ws ns ks : List Str} {k : Nat} {x : Str} (hn : (ws ++ ns).Nodup) (hk : x ∉ ks) (h : x ∈ ws ++ ns) : ∃ j, j < k + (ws ++ ns).length ∧ look (ownD ws ns ks k) x = hsh x j := by
  obtain ⟨j, hj, e⟩ := frs_in (ws ++ ns) k [] x hn h
  exact ⟨j, hj, by unfold look ownD; rw [keep1_out ks _ x hk, e]⟩
theorem own_out {ws ns ks : List Str} {k : Nat} {x : Str} (hk : x ∉ ks) (h : x ∉ ws ++ ns) : look (ownD ws ns ks k) x = x := by
  unfold look ownD; rw [keep1_out ks _ x hk, frs_out _ _ _ _ h]; rfl

/-- keys that are all other than another -/
theorem put_fresh : ∀ (ps l : List (Str × PyData)), ((l ++ ps).map (·.1)).Nodup → ps.foldl (fun l p => dset l p.1 p.2) l = l ++ ps
  | [], l, _ => by simp
  | (a, v) :: r, l, h => by
    have ha : ¬ (l.any fun kv => decide (kv.1 = a)) = true := by
      intro e
      obtain ⟨p, hp, e⟩ := List.any_eq_true.mp e
      rw [List.map_append] at h
      exact (List.nodup_append.mp h).2.2 p.1 (List.mem_map_of_mem hp) a (by simp) (of_decide_eq_true e)
    rw [List.foldl_cons]
    have e : dset l (a, v).1 (a, v).2 = l ++ [(a, v)] := by unfold dset; rw [if_neg ha]
    rw [e, put_fresh r (l ++ [(a, v)]) (by simpa using h)]
    simp
theorem putD_nodup {ps : List (Str × PyData)} (h : (ps.map (·.1)).Nodup) : putD ps = ps := by
  have := put_fresh ps [] (by simpa using h)
  simpa [putD] using this
/-- the table made of names and their places -/
theorem zip_dget (f : Str → Str) (ex : List Str) : ∀ (N : List Str) (x : Str), dget (N.zip (sl ((N ++ ex).map f))) x = if x ∈ N then some (.str (f x)) else none
  | [], x => by simp [dget]
  | y :: r, x => by
    have e : (y :: r).zip (sl ((y :: r ++ ex).map f)) = (y, .str (f y)) :: r.zip (sl ((r ++ ex).map f)) := rfl
    rw [e, dget_cons]
    by_cases h : y = x
    · subst h; simp
    · rw [if_neg h, zip_dget f ex r x]
      have : (x ∈ y :: r) ↔ x ∈ r := by simp [Ne.symm h]
      simp [this]
theorem zip_keys (f : Str → Str) (ex : List Str) : ∀ (N : List Str), (N.zip (sl ((N ++ ex).map f))).map (·.1) = N
  | [] => by simp
  | y :: r => by
    have e : (y :: r).zip (sl ((y :: r ++ ex).map f)) = (y, .str (f y)) :: r.zip (sl ((r ++ ex).map f)) := rfl
    rw [e, List.map_cons, zip_keys f ex r]
theorem tab_dget {f : Str → Str} {ex N : List Str} (hN : N.Nodup) (x : Str) : dget (putD (N.zip (sl ((N ++ ex).map f)))) x = if x ∈ N then some (.str (f x)) else none := by
  rw [putD_nodup (by rw [zip_keys]; exact hN), zip_dget]
theorem tab_dstr {f : Str → Str} {ex N : List Str} (hN : N.Nodup) : DStr (putD (N.zip (sl ((N ++ ex).map f)))) := fun x v e => by
  rw [tab_dget hN] at e
  split at e
  · exact ⟨_, (Option.some.inj e).symm⟩
  · cases e
theorem tab_look {f : Str → Str} {ex N : List Str} (hN : N.Nodup) (hf : ∀ x, x ∉ N → f x = x) : look (putD (N.zip (sl ((N ++ ex).map f)))) = f := by
  funext x
  unfold look
  rw [tab_dget hN]
  by_cases h : x ∈ N
  · rw [if_pos h]
  · rw [if_neg h]; exact (hf x h).symm
theorem map_nodup {f : Str → Str} : ∀ {l : List Str}, l.Nodup → (∀ x ∈ l, ∀ y ∈ l, f x = f y → x = y) → (l.map f).Nodup
  | [], _, _ => List.nodup_nil
  | a :: r, h, hf => by
    obtain ⟨h1, h2⟩ := List.nodup_cons.mp h
    rw [List.map_cons]
    refine List.nodup_cons.mpr ⟨fun hm => ?_, map_nodup h2 fun x hx y hy => hf x (by simp [hx]) y (by simp [hy])⟩
    obtain ⟨y, hy, e⟩ := List.mem_map.mp hm
    exact h1 (hf y (by simp [hy]) a (by simp) e ▸ hy)

/-! ### what may be laid -/
mutual
noncomputable def T.al (p : Str → Prop) : T → Prop
  | .sym n => p n
  | .int _ => True
  | .ex h ps => PyData.strOk h = true ∧ T.als p ps
noncomputable def T.als (p : Str → Prop) : List T → Prop
  | [] => True
  | t :: r => t.al p ∧ T.als p r
end

/-! ## G1 -/
noncomputable abbrev tubO (a b : Int) (k : Nat) : O := .list [.int a, .int b, .int k]
noncomputable def nam (j : Nat) : Str := "n" ++ Str.ofString (toString (j : Int))
noncomputable def nams (k n : Nat) : List Str := (List.range' (k + 1) n).map nam
theorem setW_list {H : List O} {i n : Nat} {l : List PyData} {z : PyData} {Q : List O → Prop} (h : H[i]? = some (.list l)) (hn : n < l.length) (hl : l.length ≤ 65536) (q : Q (H.set i (.list (l.set n z)))) : setW (.ref i) (.d (.int (n : Int))) (.d z) H Q := by
  refine .mk ?_
  show (match H[i]? with | some o => setO o i _ _ H Q | none => False)
  rw [h]; exact ⟨hn, hl, q⟩
theorem idxV_r {H : List O} {i : Nat} {l : List PyData} {k : Int} {Q : V → List O → Prop} (h : H[i]? = some (.list l)) (q : itemAt l k fun y => Q (.d y) H) : idxS (.ref i) (.d (.int k)) H Q := by
  refine .mk ?_
  unfold idxV0; rw [dictOf_l h, viewD_l h]; exact q
theorem mul_ok (b : Int) (m : Int) (h : Builtin.Int.intBits m ≤ 64) : IntMulOk b m := by
  have h' : ¬ (Builtin.Int.intBits m > shortFactorBits) := Nat.not_lt.mpr h
  unfold IntMulOk; rw [decide_eq_false h']; simp
theorem int_len : ∀ k < 100, (Str.ofString (toString ((k : Nat) : Int))).length ≤ 10 := by decide +kernel

local macro_rules | `(tactic| walk_at "s3") => `(tactic| (apply idxV_r; (focus (first | assumption | exact set_at_self (by assumption)))))
local macro_rules | `(tactic| walk_at "gk") => `(tactic| (first | (refine isCall ?_; (first | (walk_at "xs"; walk_at "gk") | skip)) | ((first | walk_at "s1" | walk_at "sd" | walk_at "si" | walk_at "s3" | walk_at "s2"); walk_at "gk") | refine isRet ?_ | skip))

section
variable {W : Wd} {K : Frag} (hK : FK W K) (hB : Bu W)
include hK hB
theorem k_cup {d i k : Nat} {a b m : Int} (hm : 0 < m) (hm2 : m ≤ 1000) {H : List O} (hi : H[i]? = some (tubO a b k)) {Q : V → List O → Prop} (hq : ∀ c a' b', 0 ≤ c → c < m → Q (.d (.int c)) (H.set i (tubO a' b' k))) : CallW W 459 (d + 1) [.ref i, .d (.int m)] H Q := by
  refine call_fn hK (i := 29) rfl (d_law_cup hK hB) (n := 3) (by kernel_rfl) rfl (by kernel_rfl) ?_
  intro hc
  walk_at "gk"
  have h5 : Builtin.Int.intBits 149 ≤ 64 := by decide
  walk_at "cw"
  cases hb : decide (a > 0) with
  | true =>
    walk_at "gk"
    refine ⟨by lia, ?_⟩
    walk_at "gk"
    refine ⟨by lia, by lia, ?_⟩
    walk_at "gk"
    refine setW_list (n := 0) hi (by simp) (by simp) ?_
    walk_at "gk"
    exact ret_set hc rfl (hq _ _ _ (Int.fmod_nonneg_of_pos _ hm) (Int.fmod_lt_of_pos _ hm))
  | false =>
    walk_at "gk"
    refine ⟨mul_ok _ _ h5, ?_⟩
    walk_at "gk"
    refine setW_list (n := 1) hi (by simp) (by simp) ?_
    walk_at "gk"
    refine ⟨by lia, ?_⟩
    walk_at "gk"
    exact ret_set hc rfl (hq _ _ _ (Int.fmod_nonneg_of_pos _ hm) (Int.fmod_lt_of_pos _ hm))
theorem k_new {d i k : Nat} {a b : Int} (hk : k < 90) {H : List O} (hi : H[i]? = some (tubO a b k)) {Q : V → List O → Prop} (hq : Q (.d (.str (nam (k + 1)))) (H.set i (tubO a b (k + 1)))) : CallW W 466 (d + 1) [.ref i] H Q := by
  refine call_fn hK (i := 30) rfl (d_law_new hK hB) (n := 1) (by kernel_rfl) rfl (by kernel_rfl) ?_
  intro hc
  walk_at "gk"
  refine setW_list (n := 2) hi (by simp) (by simp) ?_
  walk_at "gk"
  refine ⟨by lia, by lia, ?_⟩
  walk_at "gk"
  have h1 := int_len (k + 1) (by lia)
  have h2 : (Str.ofString "n").length = 1 := by decide
  have h3 : ((k : Int) + 1) = ((k + 1 : Nat) : Int) := by lia
  refine ⟨by rw [h2, h3]; lia, ?_⟩
  walk_at "gk"
  refine ret_set hc rfl ?_
  rw [h3]
  exact hq
end

/-! ## G2 -/
noncomputable def Ar.oth (ah : List Str) : Ar → Prop
  | .df _ o => o ∈ ah ∨ o = "u"
  | _ => True
theorem oth_mono {ah ah' : List Str} (h : ∀ x ∈ ah, x ∈ ah') : ∀ {x : Ar}, x.oth ah → x.oth ah'
  | .nm _, _ => trivial
  | .ty _, _ => trivial
  | .rs _, _ => trivial
  | .tp _ _, _ => trivial
  | .df _ o, .inl e => .inl (h o e)
  | .df _ o, .inr e => .inr e
theorem nams_app (k m n : Nat) : nams k m ++ nams (k + m) n = nams k (m + n) := by
  unfold nams
  rw [← List.map_append]
  congr 1
  have := List.range'_append_1 (s := k + 1) (m := m) (n := n)
  rw [← this]
  congr 2
  lia
theorem nams_len (k n : Nat) : (nams k n).length = n := by simp [nams]
theorem nams_1 (k : Nat) : nams k 1 = [nam (k + 1)] := rfl
noncomputable def parI (c : Int) (ks : List Str) : List It := match ks with
  | [] => []
  | ks => [.p ks c]

section
variable {W : Wd} {K : Frag} (hK : FK W K) (hB : Bu W)
include hK hB
theorem k_bound {d i k : Nat} {a b : Int} {n : Str} {H : List O} (hi : H[i]? = some (tubO a b k)) {Q : V → List O → Prop} (hq : ∀ (w : Bd) a' b', w.n = n → Q (.d w.t.enc) (H.set i (tubO a' b' k))) : CallW W 485 (d + 2) [.ref i, .d (.str n)] H Q := by
  refine call_fn hK (i := 33) rfl (d_law_bound hK hB) (n := 2) (by kernel_rfl) rfl (by kernel_rfl) ?_
  intro hc
  walk_at "gk"
  refine k_cup hK hB (by decide) (by decide) hi fun c a' b' h1 h2 => ?_
  have : c = 0 ∨ c = 1 ∨ c = 2 ∨ c = 3 := by lia
  rcases this with rfl | rfl | rfl | rfl
  · walk_at "gk"; exact ret_set hc rfl (hq (.nm n) a' b' rfl)
  · walk_at "gk"; exact ret_set hc rfl (hq (.lo n) a' b' rfl)
  · walk_at "gk"; exact ret_set hc rfl (hq (.hi n) a' b' rfl)
  · walk_at "gk"; exact ret_set hc rfl (hq (.cp n) a' b' rfl)
theorem k_arg {d i k : Nat} {a b : Int} {ah : List Str} {last : Bool} (hk : k + 2 < 90) (hah : ah.length ≤ 100) {H : List O} (hi : H[i]? = some (tubO a b k)) {Q : V → List O → Prop}
    (hq : ∀ (x : Ar) a' b' n, n ≤ 2 → x.ns = nams k n → x.oth ah → Q (.d (.tuple [x.t.enc, .list (sl x.ns)])) (H.set i (tubO a' b' (k + n)))) : CallW W 473 (d + 2) [.ref i, .d (.list (sl ah)), .d (.bool last)] H Q := by
  refine call_fn hK (i := 31) rfl (d_law_argument hK hB) (n := 7) (by kernel_rfl) rfl (by kernel_rfl) ?_
  intro hc
  walk_at "gk"
  refine k_cup hK hB (by decide) (by decide) hi fun c a' b' h1 h2 => ?_
  have hi1 := set_at_self (o' := tubO a' b' k) hi
  walk_at "gk"
  refine k_new hK hB (by lia) hi1 ?_
  rw [List.set_set]
  have hi2 := set_at_self (o' := tubO a' b' (k + 1)) hi
  have fin : ∀ {xs : List PyData} (x : Ar), [x.t.enc, .list (sl x.ns)] = xs → x.ns = nams k 1 → x.oth ah → Q (.d (.tuple xs)) (H.set i (tubO a' b' (k + 1))) := fun x e h1 h2 => e ▸ hq x a' b' 1 (by decide) h1 h2
  have rt : ∀ {vs : List V} (x : Ar), frzs H.length (H.set i (tubO a' b' (k + 1))) vs = some [x.t.enc, .list (sl x.ns)] → x.ns = nams k 1 → x.oth ah → RetW H.length (.rett vs) (H.set i (tubO a' b' (k + 1))) Q := fun x e h1 h2 =>
    ⟨closed_set hc rfl, _, e, by rw [List.take_of_length_le (by rw [List.length_set]; exact Nat.le_refl _)]; exact fin x rfl h1 h2⟩
  have : c = 0 ∨ c = 1 ∨ c = 2 ∨ c = 3 ∨ c = 4 ∨ c = 5 := by lia
  rcases this with rfl | rfl | rfl | rfl | rfl | rfl
  · walk_at "gk"; exact rt (.nm (nam (k + 1))) rfl rfl trivial
  · walk_at "gk"; exact rt (.ty (nam (k + 1))) rfl rfl trivial
  · cases ah with
    | nil => walk_at "gk"; exact rt (.df (nam (k + 1)) "u") rfl rfl (.inr rfl)
    | cons y r =>
      walk_at "gk"
      have hlen : (sl (y :: r)).length ≤ 65536 := by rw [sl_len]; lia
      refine ⟨hlen, ?_⟩
      walk_at "gk"
      refine k_cup hK hB (m := ((sl (y :: r)).length : Int)) (by rw [sl_len, List.length_cons]; lia) (by rw [sl_len]; lia) hi2 fun c a2 b2 h3 h4 => ?_
      rw [List.set_set]
      obtain ⟨j, rfl⟩ := Int.eq_ofNat_of_zero_le h3
      have hj : j < (y :: r).length := by rw [sl_len] at h4; lia
      have hg : (sl (y :: r))[j]? = some (.str (y :: r)[j]) := by unfold sl; rw [List.getElem?_map, List.getElem?_eq_getElem hj]; rfl
      refine idxV_l ?_
      unfold itemAt
      dsimp only
      rw [hg]
      refine gd (by lia) ?_
      walk_at "gk"
      refine ⟨closed_set hc rfl, _, rfl, ?_⟩
      rw [List.take_of_length_le (by rw [List.length_set]; exact Nat.le_refl _)]
      exact hq (.df (nam (k + 1)) (y :: r)[j]) a2 b2 1 (by decide) rfl (.inl (List.getElem_mem _))
  · cases last with
    | true => walk_at "gk"; exact rt (.rs (nam (k + 1))) rfl rfl trivial
    | false => walk_at "gk"; exact rt (.nm (nam (k + 1))) rfl rfl trivial
  · walk_at "gk"
    refine k_new hK hB (by lia) hi2 ?_
    rw [List.set_set]
    walk_at "gk"
    refine ⟨closed_set hc rfl, _, rfl, ?_⟩
    rw [List.take_of_length_le (by rw [List.length_set]; exact Nat.le_refl _)]
    exact hq (.tp (nam (k + 1)) (nam (k + 2))) a' b' 2 (by decide) rfl trivial
  · walk_at "gk"; exact rt (.nm (nam (k + 1))) rfl rfl trivial
end

/-! ## G3 -/
noncomputable def arNs (As : List Ar) : List Str := As.flatMap Ar.ns
theorem arNs_app (a b : List Ar) : arNs (a ++ b) = arNs a ++ arNs b := by simp [arNs]
theorem arNs_1 (x : Ar) : arNs [x] = x.ns := by simp [arNs]
/-- in the loop that makes the arguments -/
noncomputable def AInv (H : List O) (i k : Nat) (ks : List Str) (m : Nat) (c2 : Int) (r : List PyData) (ρ : Rho) (H' : List O) : Prop :=
  ∃ (As : List Ar) (a b : Int) (n : Nat) (x1 : Option V) (v3 : V) (x7 x8 : Option V), (∀ y ∈ r, ∃ j, y = .int j) ∧ r.length + As.length ≤ 4 ∧
    ρ = [some (.ref i), x1, some (.d (.list (sl ks))), some v3, some (.d (.list (its (parI 2 ks ++ As.map It.a)))), some (.d (.list (sl (arNs As)))), some (.d (.int c2)), x7, x8] ∧
    H' = H.set i (tubO a b (k + m + n)) ∧ arNs As = nams (k + m) n ∧ n ≤ 2 * As.length ∧ ∀ x ∈ As, x.oth (arNs As)
theorem its_snoc (p : List It) (As : List Ar) (x : Ar) : its (p ++ (As ++ [x]).map It.a) = its (p ++ As.map It.a) ++ [x.t.enc] := by
  rw [List.map_append, ← List.append_assoc, its_app (p ++ As.map It.a)]; rfl
theorem range_int (c : Int) : ∀ y ∈ rangeItems c, ∃ j, y = .int j := fun y hy => by
  obtain ⟨j, _, e⟩ := List.mem_map.mp hy
  exact ⟨_, e.symm⟩
theorem range_len (c : Int) : (rangeItems c).length = c.toNat := by simp [rangeItems]

section
variable {W : Wd} {K : Frag} (hK : FK W K) (hB : Bu W)
include hK hB
/-- the arguments, and the end -/
theorem la_rest {d i k m : Nat} {ks : List Str} {a b : Int} (hk : k + 12 < 90) (hm : m ≤ 2) (hks : ks = nams k m) {H : List O} {o : O} (hc : Closed H) (hi : H[i]? = some o) {v3 : V} {x1 x6 x7 x8 : Option V} {Q : V → List O → Prop}
    (hq : ∀ (As : List Ar) a' b' n, arNs As = nams (k + m) n → n ≤ 8 → As.length ≤ 4 → (∀ x ∈ As, x.oth (arNs As)) → Q (.d (.tuple [.list (its (parI 2 ks ++ As.map It.a)), .list (sl (arNs As)), .list (sl ks)])) (H.set i (tubO a' b' (k + m + n)))) :
    t_law_arguments_5 W (d + 2) [some (.ref i), x1, some (.d (.list (sl ks))), some v3, some (.d (.list (its (parI 2 ks)))), some (.d (.list [])), x6, x7, x8] (H.set i (tubO a b (k + m))) fun fl _ H' => RetW H.length fl H' Q := by
  walk_at "gk"
  refine k_cup hK hB (by decide) (by decide) (set_at_self hi) fun c2 a2 b2 h3 h4 => ?_
  rw [List.set_set]
  walk_at "gk"
  refine ⟨by lia, by lia, ?_⟩
  refine forL_ind (I := AInv H i k ks m c2) ?_ ?_ ⟨[], a2, b2, 0, _, _, _, _, range_int c2, by rw [range_len]; simp only [List.length_nil]; lia, by rw [List.map_nil, List.append_nil]; rfl, rfl, rfl, by decide, by simp⟩
  · rintro ρ H' ⟨As, a3, b3, n, x1, v3, x7, x8, hr, hl, rfl, rfl, hn, hn2, ho⟩
    simp only [List.length_nil] at hl
    walk_at "gk"
    refine ⟨closed_set hc rfl, _, rfl, ?_⟩
    rw [List.take_of_length_le (by rw [List.length_set]; exact Nat.le_refl _)]
    exact hq As a3 b3 n hn (by lia) (by lia) ho
  · rintro y r ρ H' ⟨As, a3, b3, n, x1, v3, x7, x8, hr, hl, rfl, rfl, hn, hn2, ho⟩ ih
    obtain ⟨j, rfl⟩ := hr y (by simp)
    simp only [List.length_cons] at hl
    have hal : (arNs As).length ≤ 8 := by rw [hn, nams_len]; lia
    walk_at "gk"
    refine k_arg hK hB (by lia) (by lia) (set_at_self hi) fun x a4 b4 n4 h5 h6 h7 => ?_
    rw [List.set_set]
    have hxl : x.ns.length ≤ 2 := by rw [h6, nams_len]; exact h5
    have hil : ∀ q : List Str, (its (parI 2 q ++ As.map It.a)).length ≤ 10 := fun q => by
      rw [its_len, List.length_append, List.length_map]
      have : (parI 2 q).length ≤ 1 := by cases q <;> simp [parI]
      lia
    walk_at "gk"
    refine ⟨Nat.le_trans (Nat.add_le_add_right (hil _) _) (show 11 ≤ 65536 by decide), ?_⟩
    walk_at "gk"
    refine ⟨by rw [sl_len, sl_len]; lia, ?_⟩
    walk_at "gk"
    refine ih _ _ ⟨As ++ [x], a4, b4, n + n4, some (.d (.int j)), v3, some (.d x.t.enc), some (.d (.list (sl x.ns))), fun y hy => hr y (by simp [hy]), by simp only [List.length_append, List.length_cons, List.length_nil]; lia, ?_, by rw [← Nat.add_assoc], ?_, by simp only [List.length_append, List.length_cons, List.length_nil]; lia, ?_⟩
    · rw [its_snoc, arNs_app, arNs_1, sl_app]; rfl
    · rw [arNs_app, arNs_1, hn, h6, nams_app]
    · intro z hz
      rcases List.mem_append.mp hz with hz | hz
      · exact oth_mono (fun w hw => by rw [arNs_app]; simp [hw]) (ho z hz)
      · obtain rfl : z = x := by simpa using hz
        exact oth_mono (fun w hw => by rw [arNs_app]; simp [hw]) h7
theorem k_args {d i k : Nat} {a b : Int} (hk : k + 12 < 90) {H : List O} (hi : H[i]? = some (tubO a b k)) {Q : V → List O → Prop}
    (hq : ∀ (ks : List Str) (As : List Ar) a' b' m n, ks = nams k m → m ≤ 2 → arNs As = nams (k + m) n → n ≤ 8 → As.length ≤ 4 → (∀ x ∈ As, x.oth (arNs As)) → Q (.d (.tuple [.list (its (parI 2 ks ++ As.map It.a)), .list (sl (arNs As)), .list (sl ks)])) (H.set i (tubO a' b' (k + m + n)))) : CallW W 478 (d + 3) [.ref i] H Q := by
  refine call_fn hK (i := 32) rfl (d_law_arguments hK hB) (n := 9) (by kernel_rfl) rfl (by kernel_rfl) ?_
  intro hc
  walk_at "gk"
  refine k_cup hK hB (by decide) (by decide) hi fun c a' b' h1 h2 => ?_
  have hi1 := set_at_self (o' := tubO a' b' k) hi
  have hi2 := set_at_self (o' := tubO a' b' (k + 1)) hi
  have : c = 0 ∨ c = 1 ∨ c = 2 := by lia
  rcases this with rfl | rfl | rfl
  · walk_at "gk"
    exact la_rest hK hB (x1 := none) (x6 := none) (x7 := none) (x8 := none) (v3 := .d (.list [])) (m := 0) (ks := []) hk (by decide) rfl hc hi fun As a' b' n => hq [] As a' b' 0 n rfl (by decide)
  · walk_at "gk"
    refine k_new hK hB (by lia) hi1 ?_
    rw [List.set_set]
    walk_at "gk"
    exact la_rest hK hB (x1 := none) (x6 := none) (x7 := none) (x8 := none) (v3 := .d (.list (T.encs [kwT 2 (nam (k + 1))]))) (m := 1) (ks := [nam (k + 1)]) hk (by decide) rfl hc hi fun As a' b' n => hq _ As a' b' 1 n rfl (by decide)
  · walk_at "gk"
    refine k_new hK hB (by lia) hi1 ?_
    rw [List.set_set]
    walk_at "gk"
    refine k_new hK hB (by lia) hi2 ?_
    rw [List.set_set]
    walk_at "gk"
    exact la_rest hK hB (x1 := none) (x6 := none) (x7 := none) (x8 := none) (v3 := .d (.list (T.encs [kwT 2 (nam (k + 1)), kwT 2 (nam (k + 2))]))) (m := 2) (ks := [nam (k + 1), nam (k + 2)]) hk (by decide) rfl hc hi fun As a' b' n => hq _ As a' b' 2 n rfl (by decide)
end

/-! ## G4 -/
/-- a function as the law builds it -/
structure Gd where
  arrow : Bool
  cl : Cl
  b : Bool
  ws : List Bd
  ks : List Str
  c : Int
  As : List Ar
  ex : List Str
noncomputable def Gd.l (g : Gd) : List It := parI g.c g.ks ++ g.As.map It.a
noncomputable def Gd.ns (g : Gd) : List Str := g.cl.ns ++ arNs g.As
noncomputable def Gd.wn (g : Gd) : List Str := g.ws.map Bd.n
noncomputable def Gd.bs (g : Gd) : List Str := g.ns ++ g.ks ++ g.wn ++ g.ex
noncomputable def Gd.head (g : Gd) : T := wh (g.ws.map Bd.t) (co g.b (g.cl.call (g.l.map It.t)))
noncomputable def Gd.fn (g : Gd) : Str := if g.arrow = true then "->" else "function"
noncomputable def Gd.tree (g : Gd) : T := .ex g.fn [g.head, .ex "tuple" (g.bs.map T.sym)]
noncomputable def Gd.out (g : Gd) : PyData := .tuple [g.tree.enc, .list (sl g.ns), .list (sl g.ks), .list (sl g.wn)]
structure Gd.Ok (g : Gd) (k m : Nat) : Prop where
  shape : (g.arrow = false ∧ g.cl.h = "call" ∧ g.ex = ([ "u", "T"] : List Str) ∧ ∀ c, g.cl = .fn c → c = "f") ∨ (g.arrow = true ∧ g.cl = .tup ∧ g.b = false ∧ g.ws = [] ∧ g.ex = (["u"] : List Str))
  perm : (g.ns ++ g.ks ++ g.wn).Perm (nams k m)
  m_le : m ≤ 13
  oth : ∀ x ∈ g.As, x.oth (arNs g.As)
  As_le : g.As.length ≤ 4
  ks_le : g.ks.length ≤ 2
  ws_le : g.ws.length ≤ 2
/-- in the loop that puts where -/
noncomputable def WInv (H : List O) (i k : Nat) (ns ks : List Str) (c0 : T) (r : List PyData) (ρ : Rho) (H' : List O) : Prop :=
  ∃ (ws : List Bd) (a b : Int) (v1 : V) (x4 x5 x6 x9 : Option V), (∀ y ∈ r, ∃ j, y = .int j) ∧ r.length + ws.length ≤ 2 ∧
    ρ = [some (.ref i), some v1, some (.d (.list (sl ns))), some (.d (.list (sl ks))), x4, x5, x6, some (.d (wh (ws.map Bd.t) c0).enc), some (.d (.list (sl (ws.map Bd.n)))), x9] ∧
    H' = H.set i (tubO a b (k + ws.length)) ∧ (ws.map Bd.n).reverse = nams k ws.length
theorem perm_1 (a ks w : List Str) : (a ++ ks ++ w).Perm (ks ++ a ++ w.reverse) :=
  List.Perm.append List.perm_append_comm (List.reverse_perm w).symm
theorem perm_2 (n : Str) (a ks w : List Str) : (([n] ++ a) ++ ks ++ w).Perm (ks ++ a ++ [n] ++ w.reverse) := by
  refine List.Perm.append ?_ (List.reverse_perm w).symm
  rw [List.append_assoc]
  exact List.perm_append_comm.trans (List.Perm.append List.perm_append_comm (List.Perm.refl _))

theorem sl_four (a b c : List Str) : sl a ++ sl b ++ sl c ++ [.str "u", .str "T"] = sl (a ++ b ++ c ++ ([ "u", "T" ] : List Str)) := by rw [sl_app, sl_app, sl_app]; rfl
theorem dec_rec {p : Prop} {A : ¬ p → Prop} {B : p → Prop} {i : Decidable p} (h1 : ∀ h, A h) (h2 : ∀ h, B h) : @Decidable.rec p (fun _ => Prop) A B i := by
  cases i with
  | isTrue h => exact h2 h
  | isFalse h => exact h1 h

theorem comp_syms {d : Nat} {ρ : Rho} {H : List O} {Q : List PyData → List O → Prop} {bs : List Str} {l : List PyData} (e : l = sl bs) (hq : Q (T.encs (bs.map T.sym)) H) : compL d t_sndf_nil (t_snd_tuple (t_snd_cons (t_snd_str (Str.ofString "sym")) (t_snd_cons (t_snd_name 0) t_snd_nil))) ρ [] l [] H Q := by
  subst e
  refine compL_ind (I := fun r acc H' => ∃ l' a, r = sl l' ∧ acc = T.encs (a.map T.sym) ∧ H' = H ∧ a ++ l' = bs) ?_ ?_ ⟨bs, [], rfl, rfl, rfl, rfl⟩
  · rintro acc H' ⟨l', a, e, rfl, rfl, ho⟩
    cases l' with
    | cons => cases e
    | nil =>
      have ho' : a = bs := by rw [← ho]; simp
      rw [ho']; exact hq
  · rintro y r acc H' ⟨l', a, e, rfl, rfl, ho⟩ ih
    cases l' with
    | nil => cases e
    | cons n l' =>
      cases e
      walk_at "gk"
      refine ih _ _ ⟨l', a ++ [n], rfl, by rw [List.map_append, encs_app]; rfl, rfl, ?_⟩
      rw [← ho, List.append_assoc]; rfl

section
variable {W : Wd} {K : Frag} (hK : FK W K) (hB : Bu W)
include hK hB
theorem k_tub {d : Nat} {l : List PyData} (hl : ∀ y ∈ l, ∃ j, y = .int j) (hlen : l.length ≤ 1000) {t : Nat} (ht : t ≤ 1) {H : List O} {Q : V → List O → Prop} (hq : ∀ a b, Q (.ref H.length) (H ++ [tubO a b 0])) : CallW W 452 (d + 1) [.d (.list l), .d (.int (t : Int))] H Q := by
  refine call_fn hK (i := 28) rfl (d_law_tub hK hB) (n := 4) (by kernel_rfl) rfl (by kernel_rfl) ?_
  intro hc
  have h331 : Builtin.Int.intBits 331 ≤ 64 := by decide
  have h59 : Builtin.Int.intBits 59 ≤ 64 := by decide
  have h37 : Builtin.Int.intBits 37 ≤ 64 := by decide
  walk_at "gk"
  refine ⟨by lia, ?_⟩
  walk_at "gk"
  walk_at "cw"
  cases hb : decide ((t : Int) < l.length) with
  | true =>
    have hlt : t < l.length := by have := of_decide_eq_true hb; lia
    obtain ⟨j, hj⟩ := hl l[t] (List.getElem_mem _)
    have hg : l[t]? = some (.int j) := by rw [List.getElem?_eq_getElem hlt, hj]
    walk_at "gk"
    walk_at "cw"
    rw [hg]
    refine gd (by lia) ?_
    walk_at "gk"
    walk_at "cw"
    cases hb1 : decide (j ≥ 0) with
    | true =>
      walk_at "gk"
      refine dec_rec (fun h => ?_) (fun h => ?_)
      all_goals
        walk_at "gk"
        refine ⟨mul_ok _ _ h331, ?_⟩
        walk_at "gk"
        refine ⟨IntMulOk.of_left h59, ?_⟩
        walk_at "gk"
        refine ⟨IntMulOk.of_left h37, ?_⟩
        walk_at "gk"
        exact ret_keepo rfl hc rfl (hq _ _)
    | false =>
      walk_at "gk"
      refine dec_rec (fun h => ?_) (fun h => ?_)
      all_goals
        walk_at "gk"
        refine ⟨mul_ok _ _ h331, ?_⟩
        walk_at "gk"
        refine ⟨IntMulOk.of_left h59, ?_⟩
        walk_at "gk"
        refine ⟨IntMulOk.of_left h37, ?_⟩
        walk_at "gk"
        exact ret_keepo rfl hc rfl (hq _ _)
  | false =>
      walk_at "gk"
      refine ⟨mul_ok _ _ h331, ?_⟩
      walk_at "gk"
      refine ⟨IntMulOk.of_left h59, ?_⟩
      walk_at "gk"
      refine ⟨IntMulOk.of_left h37, ?_⟩
      walk_at "gk"
      exact ret_keepo rfl hc rfl (hq _ _)
/-- the rows behind where, and the end -/
theorem lf_rest {d i k : Nat} {ns ks : List Str} {c0 : T} {a b : Int} (hk : k + 4 < 90) (hNS : ns.length ≤ 9) (hkl : ks.length ≤ 2) {H : List O} {o : O} (hc : Closed H) (hi : H[i]? = some o) {x1 x4 x5 x6 x9 : Option V} {Q : V → List O → Prop} (hx1 : ∃ v, x1 = some v)
    (fin : ∀ (ws : List Bd) (a b : Int), ws.length ≤ 2 → (ws.map Bd.n).reverse = nams k ws.length → Q (.d (.tuple [(T.ex "function" [wh (ws.map Bd.t) c0, T.ex "tuple" ((ns ++ ks ++ ws.map Bd.n ++ ([ "u", "T" ] : List Str)).map T.sym)]).enc, .list (sl ns), .list (sl ks), .list (sl (ws.map Bd.n))])) (H.set i (tubO a b (k + ws.length)))) :
    t_law_function_7 W (d + 4) [some (.ref i), x1, some (.d (.list (sl ns))), some (.d (.list (sl ks))), x4, x5, x6, some (.d c0.enc), some (.d (.list [])), x9] (H.set i (tubO a b k)) fun fl _ H' => RetW H.length fl H' Q := by
  obtain ⟨v1, rfl⟩ := hx1
  walk_at "gk"
  refine k_cup hK hB (by decide) (by decide) (set_at_self hi) fun c5 a5 b5 h7 h8 => ?_
  rw [List.set_set]
  walk_at "gk"
  refine ⟨by lia, by lia, ?_⟩
  refine forL_ind (I := WInv H i k ns ks c0) ?_ ?_ ⟨[], a5, b5, _, _, _, _, _, range_int c5, by rw [range_len]; simp only [List.length_nil]; lia, rfl, rfl, rfl⟩
  · rintro ρ H' ⟨ws, a6, b6, v1, x4, x5, x6, x9, hr, hl, rfl, rfl, hws⟩
    simp only [List.length_nil] at hl
    walk_at "gk"
    refine ⟨by rw [sl_len, sl_len]; lia, ?_⟩
    walk_at "gk"
    refine ⟨by rw [List.length_append, sl_len, sl_len, sl_len, List.length_map]; lia, ?_⟩
    walk_at "gk"
    refine ⟨by simp only [List.length_append, sl_len, List.length_map, List.length_cons, List.length_nil]; lia, ?_⟩
    walk_at "gk"
    refine ⟨by simp only [List.length_append, sl_len, List.length_map, List.length_cons, List.length_nil]; lia, ?_⟩
    refine comp_syms (sl_four _ _ _) ?_
    walk_at "gk"
    refine ⟨by rw [encs_map]; simp only [List.length_append, List.length_map, List.length_cons, List.length_nil]; lia, ?_⟩
    walk_at "gk"
    refine ⟨closed_set hc rfl, _, rfl, ?_⟩
    rw [List.take_of_length_le (by rw [List.length_set]; exact Nat.le_refl _)]
    exact fin ws a6 b6 (by lia) hws
  · rintro y r ρ H' ⟨ws, a6, b6, v1, x4, x5, x6, x9, hr, hl, rfl, rfl, hws⟩ ih
    obtain ⟨j, rfl⟩ := hr y (by simp)
    simp only [List.length_cons] at hl
    walk_at "gk"
    refine k_new hK hB (by lia) (set_at_self hi) ?_
    rw [List.set_set]
    walk_at "gk"
    refine k_bound hK hB (set_at_self hi) fun w a7 b7 hw => ?_
    rw [List.set_set]
    walk_at "gk"
    refine ⟨by rw [sl_len, List.length_map]; simp only [List.length_cons, List.length_nil]; lia, ?_⟩
    walk_at "gk"
    refine ih _ _ ⟨w :: ws, a7, b7, v1, some (.d (.str w.n)), x5, x6, some (.d (.int j)), fun y hy => hr y (by simp [hy]), by simp only [List.length_cons]; lia, ?_, by rw [List.length_cons, ← Nat.add_assoc], ?_⟩
    · rw [List.map_cons, List.map_cons, hw]; rfl
    · rw [List.map_cons, List.reverse_cons, hws, hw, List.length_cons, ← nams_app, nams_1]
/-- the kind of what is given, then the rest -/
theorem lf_kind {d i k : Nat} {ns ks : List Str} {c0 : T} {a b : Int} (hk : k + 4 < 90) (hNS : ns.length ≤ 9) (hkl : ks.length ≤ 2) {H : List O} {o : O} (hc : Closed H) (hi : H[i]? = some o) {x1 x4 x5 x6 x9 : Option V} {Q : V → List O → Prop} (hx1 : ∃ v, x1 = some v)
    (fin : ∀ (co' : Bool) (ws : List Bd) (a b : Int), ws.length ≤ 2 → (ws.map Bd.n).reverse = nams k ws.length → Q (.d (.tuple [(T.ex "function" [wh (ws.map Bd.t) (co co' c0), T.ex "tuple" ((ns ++ ks ++ ws.map Bd.n ++ ([ "u", "T" ] : List Str)).map T.sym)]).enc, .list (sl ns), .list (sl ks), .list (sl (ws.map Bd.n))])) (H.set i (tubO a b (k + ws.length)))) :
    t_law_function_8 W (d + 4) [some (.ref i), x1, some (.d (.list (sl ns))), some (.d (.list (sl ks))), x4, x5, x6, some (.d c0.enc), some (.d (.list [])), x9] (H.set i (tubO a b k)) fun fl _ H' => RetW H.length fl H' Q := by
  walk_at "gk"
  refine k_cup hK hB (by decide) (by decide) (set_at_self hi) fun c3 a3 b3 h3 h4 => ?_
  rw [List.set_set]
  walk_at "cw"
  cases hb3 : (c3 == 0) with
  | true => exact lf_rest hK hB (x1 := x1) (x4 := x4) (x5 := x5) (x6 := x6) (x9 := x9) (c0 := co true c0) hk hNS hkl hc hi hx1 (fin true)
  | false => exact lf_rest hK hB (x1 := x1) (x4 := x4) (x5 := x5) (x6 := x6) (x9 := x9) (c0 := co false c0) hk hNS hkl hc hi hx1 (fin false)
theorem k_lfun {d i k : Nat} {a b : Int} (hk : k + 30 < 90) {H : List O} (hi : H[i]? = some (tubO a b k)) {Q : V → List O → Prop}
    (hq : ∀ (g : Gd) a' b' m, g.Ok k m → Q (.d g.out) (H.set i (tubO a' b' (k + m)))) : CallW W 490 (d + 5) [.ref i] H Q := by
  refine call_fn hK (i := 34) rfl (d_law_function hK hB) (n := 10) (by kernel_rfl) rfl (by kernel_rfl) ?_
  intro hc
  walk_at "gk"
  refine k_args hK hB (by lia) hi fun ks As a1 b1 m n hks hm hAs hn hAl ho => ?_
  have hi1 := set_at_self (o' := tubO a1 b1 (k + m + n)) hi
  have hkl : ks.length ≤ 2 := by rw [hks, nams_len]; exact hm
  have hal : (arNs As).length ≤ 8 := by rw [hAs, nams_len]; exact hn
  have hil : (its (parI 2 ks ++ As.map It.a)).length ≤ 10 := by
    rw [its_len, List.length_append, List.length_map]
    have : (parI 2 ks).length ≤ 1 := by cases ks <;> simp [parI]
    lia
  walk_at "gk"
  refine k_cup hK hB (by decide) (by decide) hi1 fun c a2 b2 h1 h2 => ?_
  rw [List.set_set]
  walk_at "gk"
  walk_at "cw"
  cases hb : (c == 0) with
  | true =>
    walk_at "gk"
    refine ⟨by rw [sl_len, sl_len]; lia, ?_⟩
    walk_at "gk"
    refine ⟨Nat.le_trans (Nat.add_le_add_right (by rw [List.length_append, sl_len, sl_len]; exact Nat.add_le_add hal hkl) _) (show 11 ≤ 65536 by decide), ?_⟩
    walk_at "gk"
    refine ⟨by simp only [List.length_append, sl_len, List.length_cons, List.length_nil]; lia, ?_⟩
    refine comp_syms (bs := arNs As ++ ks ++ ([ "u" ] : List Str)) (by rw [sl_app, sl_app]; rfl) ?_
    walk_at "gk"
    refine ⟨by rw [encs_map]; simp only [List.length_map, List.length_append, List.length_cons, List.length_nil]; lia, ?_⟩
    walk_at "gk"
    refine ⟨Nat.le_trans hil (by decide), ?_⟩
    walk_at "gk"
    refine ⟨closed_set hc rfl, _, rfl, ?_⟩
    rw [List.take_of_length_le (by rw [List.length_set]; exact Nat.le_refl _)]
    have hg := hq { arrow := true, cl := .tup, b := false, ws := [], ks := ks, c := 2, As := As, ex := [ "u" ] } a2 b2 (m + n)
      ⟨.inr ⟨rfl, rfl, rfl, rfl, rfl⟩, by
        show (([] ++ arNs As) ++ ks ++ []).Perm _
        rw [List.nil_append, List.append_nil, hAs, hks, ← nams_app]
        exact List.perm_append_comm, by lia, ho, hAl, hkl, by simp⟩
    have hbs : Gd.bs { arrow := true, cl := .tup, b := false, ws := [], ks := ks, c := 2, As := As, ex := ([ "u" ] : List Str) } = arNs As ++ ks ++ ([ "u" ] : List Str) := by
      show ([] ++ arNs As) ++ ks ++ [] ++ ([ "u" ] : List Str) = _
      rw [List.nil_append, List.append_nil]
    unfold Gd.out Gd.tree at hg
    rw [hbs, ← Nat.add_assoc] at hg
    exact hg
  | false =>
    have hi2 := set_at_self (o' := tubO a2 b2 (k + m + n)) hi
    walk_at "gk"
    refine k_cup hK hB (by decide) (by decide) hi2 fun c a2 b2 h1 h2 => ?_
    rw [List.set_set]
    have hi3 := set_at_self (o' := tubO a2 b2 (k + m + n)) hi
    walk_at "gk"
    walk_at "cw"
    cases hb2 : (c == 0) with
    | true =>
      walk_at "gk"
      refine k_new hK hB (by lia) hi3 ?_
      rw [List.set_set]
      walk_at "gk"
      refine ⟨by rw [sl_len]; simp only [List.length_cons, List.length_nil]; lia, ?_⟩
      walk_at "gk"
      refine ⟨Nat.le_trans hil (by decide), ?_⟩
      walk_at "gk"
      refine ⟨Nat.le_trans (Nat.add_le_add_left hil _) (show 11 ≤ 65536 by decide), ?_⟩
      have fin : ∀ (co' : Bool) (ws : List Bd) (a b : Int), ws.length ≤ 2 → (ws.map Bd.n).reverse = nams (k + m + n + 1) ws.length → Q (.d (.tuple [(T.ex "function" [wh (ws.map Bd.t) (co co' ((Cl.ty (nam (k + m + n + 1))).call ((parI 2 ks ++ As.map It.a).map It.t))), T.ex "tuple" (((nam (k + m + n + 1) :: arNs As) ++ ks ++ ws.map Bd.n ++ ([ "u", "T" ] : List Str)).map T.sym)]).enc, .list (sl (nam (k + m + n + 1) :: arNs As)), .list (sl ks), .list (sl (ws.map Bd.n))])) (H.set i (tubO a b ((k + m + n + 1) + ws.length))) := fun co' ws a b hwl hws => by
        have hg := hq { arrow := false, cl := Cl.ty (nam (k + m + n + 1)), b := co', ws := ws, ks := ks, c := 2, As := As, ex := [ "u", "T" ] } a b (m + n + 1 + ws.length)
          ⟨.inl ⟨rfl, rfl, rfl, fun c e => by cases e⟩, by
            have hp := perm_2 (nam (k + m + n + 1)) (arNs As) ks (ws.map Bd.n)
            rw [hws, ← nams_1 (k + m + n)] at hp
            have e : ks ++ arNs As ++ nams (k + m + n) 1 ++ nams (k + m + n + 1) ws.length = nams k (m + n + 1 + ws.length) := by
              rw [hks, hAs, nams_app, show k + m + n = k + (m + n) by lia, nams_app, show k + (m + n) + 1 = k + (m + n + 1) by lia, nams_app]
            rw [e] at hp
            exact hp, by lia, ho, hAl, hkl, hwl⟩
        rw [show k + (m + n + 1 + ws.length) = (k + m + n + 1) + ws.length by lia] at hg
        exact hg
      exact lf_kind hK hB (x1 := some (.d (.list (its (parI 2 ks ++ As.map It.a))))) (x4 := none) (x5 := none) (x6 := some (.d (T.ex "::" [.sym (nam (k + m + n + 1)), .sym "P"]).enc)) (x9 := none) (ns := (nam (k + m + n + 1) :: arNs As)) (c0 := (Cl.ty (nam (k + m + n + 1))).call ((parI 2 ks ++ As.map It.a).map It.t)) (by lia) (by simp only [List.length_cons]; lia) hkl hc hi ⟨_, rfl⟩ fin
    | false =>
      walk_at "gk"
      refine ⟨Nat.le_trans hil (by decide), ?_⟩
      walk_at "gk"
      refine ⟨Nat.le_trans (Nat.add_le_add_left hil _) (show 11 ≤ 65536 by decide), ?_⟩
      have fin : ∀ (co' : Bool) (ws : List Bd) (a b : Int), ws.length ≤ 2 → (ws.map Bd.n).reverse = nams (k + m + n) ws.length → Q (.d (.tuple [(T.ex "function" [wh (ws.map Bd.t) (co co' ((Cl.fn "f").call ((parI 2 ks ++ As.map It.a).map It.t))), T.ex "tuple" (((arNs As) ++ ks ++ ws.map Bd.n ++ ([ "u", "T" ] : List Str)).map T.sym)]).enc, .list (sl (arNs As)), .list (sl ks), .list (sl (ws.map Bd.n))])) (H.set i (tubO a b ((k + m + n) + ws.length))) := fun co' ws a b hwl hws => by
        have hg := hq { arrow := false, cl := Cl.fn "f", b := co', ws := ws, ks := ks, c := 2, As := As, ex := [ "u", "T" ] } a b (m + n + ws.length)
          ⟨.inl ⟨rfl, rfl, rfl, fun c e => by cases e; rfl⟩, by
            have hp := perm_1 (arNs As) ks (ws.map Bd.n)
            rw [hws] at hp
            have e : ks ++ arNs As ++ nams (k + m + n) ws.length = nams k (m + n + ws.length) := by
              rw [hks, hAs, nams_app, show k + m + n = k + (m + n) by lia, nams_app]
            rw [e] at hp
            exact hp, by lia, ho, hAl, hkl, hwl⟩
        rw [show k + (m + n + ws.length) = (k + m + n) + ws.length by lia] at hg
        exact hg
      exact lf_kind hK hB (x1 := some (.d (.list (its (parI 2 ks ++ As.map It.a))))) (x4 := none) (x5 := none) (x6 := some (.d (T.sym "f").enc)) (x9 := none) (ns := (arNs As)) (c0 := (Cl.fn "f").call ((parI 2 ks ++ As.map It.a).map It.t)) (by lia) (Nat.le_trans hal (by decide)) hkl hc hi ⟨_, rfl⟩ fin
end

/-! ## F1 -/
theorem als_iff {p : Str → Prop} : ∀ {l : List T}, T.als p l ↔ ∀ t ∈ l, t.al p
  | [] => by simp [T.als]
  | t :: r => by
    have := als_iff (p := p) (l := r)
    simp [T.als, this]
mutual
theorem al_lay {p : Str → Prop} {f : Str → Str} (hp : ∀ n, p n → PyData.strOk (f n) = true) : ∀ t : T, t.al p → (t.ren f).enc.canLay0 = true
  | .sym n, h => by
    have h1 : PyData.strOk (f n) = true := hp n h
    have h2 : PyData.strOk "sym" = true := by decide +kernel
    simp only [T.ren, T.enc, PyData.canLay0, PyData.canLayAll0, h1, h2, Bool.and_self]
  | .int i, _ => by
    have h2 : PyData.strOk "int" = true := by decide +kernel
    simp only [T.ren, T.enc, PyData.canLay0, PyData.canLayAll0, h2, Bool.and_self]
  | .ex h ps, ha => by
    have h1 : PyData.strOk h = true := ha.1
    have h2 : PyData.strOk "expr" = true := by decide +kernel
    have h3 := als_lay hp ps ha.2
    simp only [T.ren, T.enc, PyData.canLay0, PyData.canLayAll0, h1, h2, h3, Bool.and_self]
theorem als_lay {p : Str → Prop} {f : Str → Str} (hp : ∀ n, p n → PyData.strOk (f n) = true) : ∀ l : List T, T.als p l → PyData.canLayAll0 (T.encs (T.rens f l)) = true
  | [], _ => rfl
  | t :: r, h => by
    simp only [T.rens, T.encs, PyData.canLayAll0, al_lay hp t h.1, als_lay hp r h.2, Bool.and_self]
end
mutual
theorem ren_id : ∀ t : T, t.ren id = t
  | .sym n => rfl
  | .int i => rfl
  | .ex h ps => by simp only [T.ren, rens_id ps]
theorem rens_id : ∀ l : List T, T.rens id l = l
  | [] => rfl
  | t :: r => by simp only [T.rens, ren_id t, rens_id r]
end
mutual
theorem ren_depth (f : Str → Str) : ∀ t : T, (t.ren f).enc.depth = t.enc.depth
  | .sym n => by simp [T.ren, T.enc, PyData.depth, PyData.depthAll]
  | .int i => by simp [T.ren, T.enc, PyData.depth, PyData.depthAll]
  | .ex h ps => by simp only [T.ren, T.enc, PyData.depth, PyData.depthAll, rens_depth f ps]
theorem rens_depth (f : Str → Str) : ∀ l : List T, PyData.depthAll (T.encs (T.rens f l)) = PyData.depthAll (T.encs l)
  | [] => rfl
  | t :: r => by simp only [T.rens, T.encs, PyData.depthAll, ren_depth f t, rens_depth f r]
end
theorem al_lay0 {t : T} (h : t.al fun n => PyData.strOk n = true) : t.enc.canLay0 = true := by
  have := al_lay (f := id) (fun n hn => hn) t h
  rwa [ren_id] at this

theorem strOk_app {a b : Str} (ha : PyData.strOk a = true) (hb : PyData.strOk b = true) : PyData.strOk (a ++ b) = true := by
  unfold PyData.strOk at *
  have e : (a ++ b).cps = a.cps ++ b.cps := rfl
  rw [e, Array.all_append, ha, hb]; rfl
theorem num_ok : ∀ k < 100, PyData.strOk (Str.ofString (toString ((k : Nat) + 1 : Int))) = true := by decide +kernel
theorem hsh_ok {x : Str} {k : Nat} (hk : k < 100) (h : PyData.strOk x = true) : PyData.strOk (hsh x k) = true := by
  unfold hsh
  exact strOk_app (strOk_app h (by decide +kernel)) (num_ok k hk)
theorem hsh_in (x : Str) (k : Nat) : ¬ nohash (hsh x k) := by
  intro h
  apply h
  unfold hsh
  rw [cat_list, cat_list, hash_is]; simp
theorem hsh_inj {x y : Str} {j k : Nat} (hx : nohash x) (hy : nohash y) (e : hsh x j = hsh y k) : x = y := by
  have h1 := split_hash (s := Str.ofString (toString ((j : Int) + 1))) hx
  have h2 := split_hash (s := Str.ofString (toString ((k : Int) + 1))) hy
  unfold hsh at e
  rw [e, h2] at h1
  exact (Option.some.inj h1).symm
/-! ### the names that the law makes -/
theorem nam_facts : ∀ j < 60, PyData.strOk (nam j) = true ∧ (nam j).length ≤ 10 ∧ (35 ∉ (nam j).cps.toList) ∧ nam j ≠ "u" ∧ nam j ≠ "T" ∧ nam j ≠ "f" := by decide +kernel
theorem nam_inj : ∀ i < 60, ∀ j < 60, nam i = nam j → i = j := by decide +kernel
theorem nams_mem {k m : Nat} {x : Str} (h : x ∈ nams k m) : ∃ j, k < j ∧ j ≤ k + m ∧ x = nam j := by
  unfold nams at h
  obtain ⟨j, hj, rfl⟩ := List.mem_map.mp h
  have := List.mem_range'_1.mp hj
  exact ⟨j, by lia, by lia, rfl⟩
theorem nams_nodup {k m : Nat} (h : k + m < 60) : (nams k m).Nodup := by
  unfold nams
  have h0 : (List.range' (k + 1) m).Nodup := List.nodup_range'
  have hb : ∀ x ∈ List.range' (k + 1) m, x < 60 := fun x hx => by have := List.mem_range'_1.mp hx; lia
  revert h0 hb
  generalize List.range' (k + 1) m = l
  intro h0 hb
  induction l with
  | nil => exact List.nodup_nil
  | cons a r ih =>
    obtain ⟨h1, h2⟩ := List.nodup_cons.mp h0
    rw [List.map_cons]
    refine List.nodup_cons.mpr ⟨fun hm => ?_, ih h2 fun x hx => hb x (by simp [hx])⟩
    obtain ⟨y, hy, e⟩ := List.mem_map.mp hm
    have := nam_inj y (hb y (by simp [hy])) a (hb a (by simp)) e
    exact h1 (this ▸ hy)

/-! ## F2 -/
noncomputable abbrev Ok1 (n : Str) : Prop := PyData.strOk n = true
noncomputable def Ar.al : Ar → Prop
  | .df _ o => Ok1 o
  | _ => True
/-- what the law's check wants of a function -/
structure Gd.Good (g : Gd) : Prop where
  shape : (g.arrow = false ∧ g.cl.h = "call") ∨ (g.arrow = true ∧ g.cl = .tup ∧ g.b = false ∧ g.ws = [])
  nodup : g.bs.Nodup
  names : ∀ x ∈ g.bs, nohash x ∧ x.length ≤ 1000 ∧ Ok1 x
  callee : ∀ c, g.cl = .fn c → c ∉ g.ns ++ g.ks ++ g.wn ∧ Ok1 c
  oth : ∀ x ∈ g.As, x.al
  As_le : g.As.length ≤ 4
  ks_le : g.ks.length ≤ 2
  ws_le : g.ws.length ≤ 2
  ex_le : g.ex.length ≤ 2

theorem parI_now (c : Int) (ks : List Str) : (parI c ks).flatMap It.now = [] := by cases ks <;> rfl
theorem parI_late (c : Int) (ks : List Str) : (parI c ks).flatMap It.late = ks := by cases ks <;> simp [parI, It.late]
theorem as_now : ∀ As : List Ar, (As.map It.a).flatMap It.now = arNs As
  | [] => rfl
  | x :: r => by rw [List.map_cons, List.flatMap_cons, as_now r]; rfl
theorem as_late : ∀ As : List Ar, (As.map It.a).flatMap It.late = []
  | [] => rfl
  | x :: r => by rw [List.map_cons, List.flatMap_cons, as_late r]; rfl
theorem Gd.now (g : Gd) : g.l.flatMap It.now = arNs g.As := by
  unfold Gd.l; rw [List.flatMap_append, parI_now, as_now, List.nil_append]
theorem Gd.late (g : Gd) : g.l.flatMap It.late = g.ks := by
  unfold Gd.l; rw [List.flatMap_append, parI_late, as_late, List.append_nil]
theorem Gd.itOut (g : Gd) : itOut g.l = arNs g.As ++ g.ks := by unfold Mine.itOut; rw [g.now, g.late]
theorem ar_ns_le (x : Ar) : x.ns.length ≤ 2 := by cases x <;> simp [Ar.ns]
theorem arNs_le : ∀ As : List Ar, (arNs As).length ≤ 2 * As.length
  | [] => by simp [arNs]
  | x :: r => by
    have h1 := ar_ns_le x
    have h2 := arNs_le r
    have e : arNs (x :: r) = x.ns ++ arNs r := by simp [arNs]
    rw [e, List.length_append, List.length_cons]; lia
theorem it_w_a (x : Ar) : (It.a x).w ≤ 2 := by cases x <;> simp [It.w]
theorem itW_as : ∀ As : List Ar, itW (As.map It.a) ≤ 2 * As.length
  | [] => by simp [itW]
  | x :: r => by
    have h1 := it_w_a x
    have h2 := itW_as r
    rw [List.map_cons, List.length_cons, itW]; lia
theorem parI_w (c : Int) (ks : List Str) : itW (parI c ks) ≤ 1 + 2 * ks.length := by cases ks <;> simp [parI, itW, It.w]
theorem parI_len (c : Int) (ks : List Str) : (parI c ks).length ≤ 1 := by cases ks <;> simp [parI]
theorem it_sz_a (x : Ar) : (It.a x).t.sz ≤ 3 := by cases x <;> simp [It.t, Ar.t, T.sz, T.szs]
theorem szs_as : ∀ As : List Ar, T.szs ((As.map It.a).map It.t) ≤ 3 * As.length
  | [] => by simp [T.szs]
  | x :: r => by
    have h1 := it_sz_a x
    have h2 := szs_as r
    rw [List.map_cons, List.map_cons, List.length_cons, T.szs]; lia
theorem szs_kw (c : Int) : ∀ ks : List Str, T.szs (ks.map (kwT c)) = 3 * ks.length
  | [] => rfl
  | k :: r => by
    have e : (kwT c k).sz = 3 := by simp [kwT, T.sz, T.szs]
    rw [List.map_cons, T.szs, szs_kw c r, e, List.length_cons]; lia
theorem parI_sz (c : Int) (ks : List Str) : T.szs ((parI c ks).map It.t) ≤ 1 + 3 * ks.length := by
  cases ks with
  | nil => simp [parI, T.szs]
  | cons k r =>
    have := szs_kw c (k :: r)
    show T.szs [.ex "parameters" ((k :: r).map (kwT c))] ≤ _
    rw [T.szs, T.sz, this, T.szs]; lia
theorem bd_sz (w : Bd) : w.t.sz ≤ 6 := by cases w <;> simp [Bd.t, T.sz, T.szs]
theorem wh_sz (c : T) : ∀ ws : List Bd, (wh (ws.map Bd.t) c).sz ≤ c.sz + 7 * ws.length
  | [] => by simp [wh]
  | w :: r => by
    have h1 := bd_sz w
    have h2 := wh_sz c r
    rw [List.map_cons, wh, T.sz, T.szs, T.szs, T.szs, List.length_cons]; lia
theorem co_sz (c : T) (b : Bool) : (co b c).sz ≤ c.sz + 2 := by cases b <;> simp [co, T.sz, T.szs] <;> lia
theorem cl_sz (cl : Cl) (as : List T) : (cl.call as).sz ≤ 4 + T.szs as := by cases cl <;> simp [Cl.call, T.sz, T.szs] <;> lia

section
variable {g : Gd} (h : g.Good)
include h
theorem good_l_len : g.l.length ≤ 5 := by
  have h1 := parI_len g.c g.ks
  have h2 := h.As_le
  unfold Gd.l; rw [List.length_append, List.length_map]; lia
theorem good_arNs : (arNs g.As).length ≤ 8 := by have := arNs_le g.As; have := h.As_le; lia
theorem good_ns : g.ns.length ≤ 9 := by
  have h1 := good_arNs h
  have h2 : g.cl.ns.length ≤ 1 := by cases g.cl <;> simp [Cl.ns]
  unfold Gd.ns; rw [List.length_append]; lia
theorem good_itW : itW g.l ≤ 20 := by
  have h1 := parI_w g.c g.ks
  have h2 := itW_as g.As
  have h3 := h.As_le
  have h4 := h.ks_le
  unfold Gd.l; rw [itW_app]; lia
theorem good_itOut : (itOut g.l).length ≤ 10 := by
  have h1 := good_arNs h
  have h4 := h.ks_le
  rw [g.itOut, List.length_append]; lia
theorem good_wn : g.wn.length ≤ 2 := by have := h.ws_le; unfold Gd.wn; rw [List.length_map]; exact this
theorem good_bs : g.bs.length ≤ 15 := by
  have h1 := good_ns h
  have h2 := good_wn h
  have h3 := h.ks_le
  have h4 := h.ex_le
  unfold Gd.bs; simp only [List.length_append]; lia
theorem good_sz : g.head.sz ≤ 100 := by
  have h1 := wh_sz (co g.b (g.cl.call (g.l.map It.t))) g.ws
  have h2 := co_sz (g.cl.call (g.l.map It.t)) g.b
  have h3 := cl_sz g.cl (g.l.map It.t)
  have h4 : T.szs (g.l.map It.t) ≤ 19 := by
    unfold Gd.l
    rw [List.map_append, szs_app]
    have h1 := parI_sz g.c g.ks
    have h2 := szs_as g.As
    have h3 := h.As_le
    have h4 := h.ks_le
    lia
  have h5 := h.ws_le
  unfold Gd.head; lia
theorem good_w : ∀ x ∈ g.l, x.w ≤ 1000 := fun x hx => by
  unfold Gd.l at hx
  rcases List.mem_append.mp hx with hx | hx
  · have h4 := h.ks_le
    have h1 := parI_w g.c g.ks
    have h2 : ∀ l : List It, x ∈ l → x.w ≤ itW l := by
      intro l
      induction l with
      | nil => simp
      | cons y r ih =>
        intro hx
        rcases List.mem_cons.mp hx with rfl | hx
        · simp [itW]
        · have := ih hx; simp only [itW]; lia
    have := h2 _ hx; lia
  · obtain ⟨y, _, rfl⟩ := List.mem_map.mp hx
    have := it_w_a y; lia
theorem good_late : ∀ x ∈ g.l, ∀ k ∈ x.late, k ∈ g.ks := fun x hx k hk => by
  rw [← g.late]; exact List.mem_flatMap.mpr ⟨x, hx, hk⟩
theorem good_all : ∀ x ∈ g.ns ++ g.ks ++ g.wn, x ∈ g.bs := fun x hx => by unfold Gd.bs; simp only [List.mem_append] at hx ⊢; exact .inl hx
theorem good_nd : (g.ns ++ g.ks ++ g.wn).Nodup := by
  have := h.nodup; unfold Gd.bs at this; exact (List.nodup_append.mp this).1
theorem good_wns : (g.wn ++ g.ns).Nodup := by
  have h1 := good_nd h
  obtain ⟨h2, h3, h4⟩ := List.nodup_append.mp h1
  obtain ⟨h5, h6, h7⟩ := List.nodup_append.mp h2
  exact List.nodup_append.mpr ⟨h3, h5, fun a ha b hb e => h4 b (by simp [hb]) a ha e.symm⟩
theorem good_ksep {x : Str} (hx : x ∈ g.ns ++ g.wn) : x ∉ g.ks := fun hk => by
  have h1 := good_nd h
  obtain ⟨h2, h3, h4⟩ := List.nodup_append.mp h1
  obtain ⟨h5, h6, h7⟩ := List.nodup_append.mp h2
  rcases List.mem_append.mp hx with hx | hx
  · exact h7 x hx x hk rfl
  · exact h4 x (by simp [hk]) x hx rfl
end

/-- the new names -/
noncomputable def Gd.f (g : Gd) : Str → Str := look (ownD g.wn g.ns g.ks 0)
section
variable {g : Gd} (h : g.Good)
include h
theorem f_ks {x : Str} (hx : x ∈ g.ks) : g.f x = x := own_kw hx
theorem f_off {x : Str} (hx : x ∉ g.ns ++ g.ks ++ g.wn) : g.f x = x := by
  simp only [List.mem_append, not_or] at hx
  exact own_out hx.1.2 (by simp only [List.mem_append, not_or]; exact ⟨hx.2, hx.1.1⟩)
theorem f_in {x : Str} (hx : x ∈ g.ns ++ g.wn) : ∃ j, j < 20 ∧ g.f x = hsh x j := by
  obtain ⟨j, hj, e⟩ := own_in (ws := g.wn) (ns := g.ns) (ks := g.ks) (k := 0) (x := x) (good_wns h) (good_ksep h hx) (by simp only [List.mem_append] at hx ⊢; exact hx.elim .inr .inl)
  have h1 := good_ns h
  have h2 := good_wn h
  rw [List.length_append] at hj
  exact ⟨j, by lia, e⟩
theorem f_ok {x : Str} (hx : Ok1 x) : Ok1 (g.f x) := by
  by_cases h1 : x ∈ g.ns ++ g.ks ++ g.wn
  · by_cases h2 : x ∈ g.ks
    · rw [f_ks h h2]; exact hx
    · obtain ⟨j, hj, e⟩ := f_in h (x := x) (by simp only [List.mem_append] at h1 ⊢; exact h1.elim (fun h => h.elim .inl fun h => absurd h h2) .inr)
      rw [e]; exact hsh_ok (by lia) hx
  · rw [f_off h h1]; exact hx
theorem f_same {x : Str} (hx : x ∈ g.bs) (hn : x ∉ g.ns ++ g.wn) : g.f x = x := by
  by_cases h1 : x ∈ g.ks
  · exact f_ks h h1
  · exact f_off h (by simp only [List.mem_append] at hn ⊢; exact fun h => h.elim (fun h => h.elim (fun h => hn (.inl h)) h1) fun h => hn (.inr h))
theorem f_inj {x y : Str} (hx : x ∈ g.bs) (hy : y ∈ g.bs) (e : g.f x = g.f y) : x = y := by
  by_cases h1 : x ∈ g.ns ++ g.wn
  · obtain ⟨j, hj, e1⟩ := f_in h h1
    by_cases h2 : y ∈ g.ns ++ g.wn
    · obtain ⟨k, hk, e2⟩ := f_in h h2
      rw [e1, e2] at e
      exact hsh_inj (h.names x hx).1 (h.names y hy).1 e
    · rw [e1, f_same h hy h2] at e
      exact absurd (h.names y hy).1 (e ▸ hsh_in x j)
  · by_cases h2 : y ∈ g.ns ++ g.wn
    · obtain ⟨k, hk, e2⟩ := f_in h h2
      rw [e2, f_same h hx h1] at e
      exact absurd (h.names x hx).1 (e ▸ hsh_in y k)
    · rw [f_same h hx h1, f_same h hy h2] at e; exact e
theorem f_nodup : (g.bs.map g.f).Nodup := map_nodup h.nodup fun x hx y hy e => f_inj h hx hy e
end

/-! ## F3 -/
theorem hd_ok : Ok1 "::" ∧ Ok1 "kw" ∧ Ok1 "..." ∧ Ok1 "tuple" ∧ Ok1 "parameters" ∧ Ok1 "call" ∧ Ok1 "where" ∧ Ok1 "function" ∧ Ok1 "->" ∧ Ok1 "<:" ∧ Ok1 ">:" ∧ Ok1 "comparison" := by decide +kernel
theorem sy_ok : Ok1 "T" ∧ Ok1 "P" ∧ Ok1 "R" ∧ Ok1 "U" ∧ Ok1 "L" ∧ Ok1 "<:" ∧ Ok1 "u" ∧ Ok1 "f" := by decide +kernel
theorem al_ex {h : Str} {ps : List T} (hh : Ok1 h) (hp : ∀ t ∈ ps, t.al Ok1) : (T.ex h ps).al Ok1 := ⟨hh, als_iff.mpr hp⟩
theorem al_kw {c : Int} {k : Str} (hk : Ok1 k) : (kwT c k).al Ok1 := ⟨hd_ok.2.1, hk, trivial, trivial⟩
theorem al_ar {x : Ar} (hn : ∀ n ∈ x.ns, Ok1 n) (ho : x.al) : x.t.al Ok1 := by
  obtain ⟨o1, o2, o3, o4, o5, o6, o7, o8, o9, o10, o11, o12⟩ := hd_ok
  cases x with
  | nm n => exact hn n (by simp [Ar.ns])
  | ty n => exact ⟨o1, hn n (by simp [Ar.ns]), sy_ok.1, trivial⟩
  | df n o => exact ⟨o2, hn n (by simp [Ar.ns]), ho, trivial⟩
  | rs n => exact ⟨o3, hn n (by simp [Ar.ns]), trivial⟩
  | tp n m => exact ⟨o4, hn n (by simp [Ar.ns]), hn m (by simp [Ar.ns]), trivial⟩
theorem al_par {c : Int} {ks : List Str} (hk : ∀ n ∈ ks, Ok1 n) : ∀ t ∈ (parI c ks).map It.t, t.al Ok1 := by
  cases ks with
  | nil => simp [parI]
  | cons k r =>
    intro t ht
    obtain rfl : t = .ex "parameters" ((k :: r).map (kwT c)) := by simpa [parI, It.t] using ht
    refine al_ex hd_ok.2.2.2.2.1 fun u hu => ?_
    obtain ⟨y, hy, rfl⟩ := List.mem_map.mp hu
    exact al_kw (hk y hy)
theorem al_bd {w : Bd} (hn : Ok1 w.n) : w.t.al Ok1 := by
  obtain ⟨o1, o2, o3, o4, o5, o6, o7, o8, o9, o10, o11, o12⟩ := hd_ok
  obtain ⟨s1, s2, s3, s4, s5, s6, s7, s8⟩ := sy_ok
  cases w with
  | nm n => exact hn
  | lo n => exact ⟨o10, hn, s4, trivial⟩
  | hi n => exact ⟨o11, hn, s4, trivial⟩
  | cp n => exact ⟨o12, s5, s6, hn, s6, s4, trivial⟩
theorem al_wh {c : T} (hc : c.al Ok1) : ∀ {ws : List Bd}, (∀ w ∈ ws, Ok1 w.n) → (wh (ws.map Bd.t) c).al Ok1
  | [], _ => hc
  | w :: r, h => ⟨hd_ok.2.2.2.2.2.2.1, al_wh hc fun w hw => h w (by simp [hw]), al_bd (h w (by simp)), trivial⟩
theorem al_co {c : T} (hc : c.al Ok1) : ∀ b, (co b c).al Ok1
  | true => ⟨hd_ok.1, hc, sy_ok.2.2.1, trivial⟩
  | false => hc

theorem dp_up {n m : Nat} {t : T} (h : Dp n t) : n ≤ m → Dp m t := by
  intro hm
  induction h generalizing m with
  | lf h => exact .lf h
  | ex hl hp ih =>
    obtain ⟨m', rfl⟩ : ∃ m', m = m' + 1 := ⟨m - 1, by lia⟩
    exact .ex hl fun t ht => ih t ht (by lia)
theorem dp_flat {h : Str} {ps : List T} (hl : ps.length ≤ 1000) (hp : ∀ t ∈ ps, t.isLf = true) : Dp 1 (.ex h ps) := .ex hl fun t ht => .lf (hp t ht)
theorem dp_it (x : It) (hw : x.w ≤ 1000) : Dp 2 x.t := by
  cases x with
  | s n => exact .lf rfl
  | k y c => exact dp_up (dp_flat (by simp) (by simp [T.isLf])) (by decide)
  | p ks c =>
    simp only [It.w] at hw
    refine .ex (by rw [List.length_map]; lia) fun t ht => ?_
    obtain ⟨y, _, rfl⟩ := List.mem_map.mp ht
    exact dp_flat (by simp) (by simp [T.isLf])
  | a x =>
    cases x with
    | nm n => exact .lf rfl
    | ty n => exact dp_up (dp_flat (by simp) (by simp [T.isLf])) (by decide)
    | df n o => exact dp_up (dp_flat (by simp) (by simp [T.isLf])) (by decide)
    | rs n => exact dp_up (dp_flat (by simp) (by simp [T.isLf])) (by decide)
    | tp n m => exact dp_up (dp_flat (by simp) (by simp [T.isLf])) (by decide)
theorem dp_bd (w : Bd) : Dp 1 w.t := by
  cases w with
  | nm n => exact .lf rfl
  | lo n => exact dp_flat (by simp) (by simp [T.isLf])
  | hi n => exact dp_flat (by simp) (by simp [T.isLf])
  | cp n => exact dp_flat (by simp) (by simp [T.isLf])
theorem dp_wh {n : Nat} {c : T} (hc : Dp (n + 1) c) : ∀ ws : List Bd, Dp (n + 1 + ws.length) (wh (ws.map Bd.t) c)
  | [] => hc
  | w :: r => .ex (n := n + 1 + r.length) (by simp) fun t ht => by
    have : t = wh (r.map Bd.t) c ∨ t = w.t := by simpa using ht
    rcases this with rfl | rfl
    · exact dp_wh hc r
    · exact dp_up (dp_bd w) (by lia)
theorem dp_co {n : Nat} {c : T} (hc : Dp n c) : ∀ b, Dp (n + 1) (co b c)
  | true => .ex (by simp) fun t ht => by
    have : t = c ∨ t = .sym "R" := by simpa using ht
    rcases this with rfl | rfl
    · exact hc
    · exact .lf rfl
  | false => dp_up hc (by lia)
theorem dp_call {cl : Cl} {as : List T} (hl : as.length ≤ 900) (hp : ∀ t ∈ as, Dp 2 t) : Dp 3 (cl.call as) := by
  cases cl with
  | fn c => exact .ex (by simp; lia) fun t ht => by
              rcases List.mem_cons.mp ht with rfl | ht
              · exact .lf rfl
              · exact hp t ht
  | ty n => exact .ex (by simp; lia) fun t ht => by
              rcases List.mem_cons.mp ht with rfl | ht
              · exact dp_up (dp_flat (by simp) (by simp [T.isLf])) (by decide)
              · exact hp t ht
  | tup => show Dp 3 (.ex "tuple" as); exact .ex (by lia) hp
theorem dp_depth {n : Nat} {t : T} (h : Dp n t) : t.enc.depth ≤ 2 * n + 1 := by
  induction h with
  | lf h => exact Nat.le_trans (depth_lf h) (Nat.le_add_left 1 _)
  | ex hl hp ih => exact depth_ex ih

section
variable {g : Gd} (h : g.Good)
include h
theorem good_dp : Dp 7 g.tree := by
  have h1 : Dp 3 (g.cl.call (g.l.map It.t)) := dp_call (by rw [List.length_map]; have := good_l_len h; lia) fun t ht => by
    obtain ⟨y, hy, rfl⟩ := List.mem_map.mp ht
    exact dp_it y (good_w h y hy)
  have h2 : Dp 6 g.head := dp_up (dp_wh (n := 3) (dp_co h1 g.b) g.ws) (by have := h.ws_le; lia)
  refine .ex (by simp) fun t ht => ?_
  have : t = g.head ∨ t = .ex "tuple" (g.bs.map T.sym) := by simpa using ht
  rcases this with rfl | rfl
  · exact h2
  · exact dp_up (dp_flat (by rw [List.length_map]; have := good_bs h; lia) (syms_lf g.bs)) (by decide)
theorem good_depth : g.tree.enc.depth ≤ 64 := Nat.le_trans (dp_depth (good_dp h)) (by decide)
theorem good_mem_ns {x : Str} (hx : x ∈ g.ns) : x ∈ g.bs := good_all h x (by simp [hx])
theorem good_mem_ks {x : Str} (hx : x ∈ g.ks) : x ∈ g.bs := good_all h x (by simp [hx])
theorem good_mem_wn {x : Str} (hx : x ∈ g.wn) : x ∈ g.bs := good_all h x (by simp [hx])
theorem good_al_call : (g.cl.call (g.l.map It.t)).al Ok1 := by
  have hok : ∀ x ∈ g.bs, Ok1 x := fun x hx => (h.names x hx).2.2
  have hl : ∀ t ∈ g.l.map It.t, t.al Ok1 := fun t ht => by
    unfold Gd.l at ht
    rw [List.map_append] at ht
    rcases List.mem_append.mp ht with ht | ht
    · exact al_par (fun n hn => hok n (good_mem_ks h hn)) t ht
    · rw [List.map_map] at ht
      obtain ⟨y, hy, rfl⟩ := List.mem_map.mp ht
      exact al_ar (fun n hn => hok n (good_mem_ns h (by unfold Gd.ns arNs; exact List.mem_append.mpr (.inr (List.mem_flatMap.mpr ⟨y, hy, hn⟩))))) (h.oth y hy)
  cases hc : g.cl with
  | fn c =>
    refine al_ex hd_ok.2.2.2.2.2.1 fun t ht => ?_
    rcases List.mem_cons.mp ht with rfl | ht
    · exact (h.callee c hc).2
    · exact hl t ht
  | ty n =>
    refine al_ex hd_ok.2.2.2.2.2.1 fun t ht => ?_
    rcases List.mem_cons.mp ht with rfl | ht
    · exact ⟨hd_ok.1, hok n (good_mem_ns h (by unfold Gd.ns; rw [hc]; simp [Cl.ns])), sy_ok.2.1, trivial⟩
    · exact hl t ht
  | tup => exact al_ex hd_ok.2.2.2.1 hl
theorem good_al_head : g.head.al Ok1 := al_wh (al_co (good_al_call h) g.b) fun w hw => (h.names w.n (good_mem_wn h (List.mem_map_of_mem hw))).2.2
theorem good_al : g.tree.al Ok1 := by
  refine al_ex (by unfold Gd.fn; split; exact hd_ok.2.2.2.2.2.2.2.2.1; exact hd_ok.2.2.2.2.2.2.2.1) fun t ht => ?_
  have : t = g.head ∨ t = .ex "tuple" (g.bs.map T.sym) := by simpa using ht
  rcases this with rfl | rfl
  · exact good_al_head h
  · refine al_ex hd_ok.2.2.2.1 fun u hu => ?_
    obtain ⟨y, hy, rfl⟩ := List.mem_map.mp hu
    exact (h.names y hy).2.2
theorem good_lay_head : g.head.enc.canLay0 = true := al_lay0 (good_al_head h)
theorem good_lay_ren : (g.tree.ren g.f).enc.canLay0 = true := al_lay (fun n hn => f_ok h hn) _ (good_al h)
theorem good_depth_ren : (g.tree.ren g.f).enc.depth ≤ 64 := by rw [ren_depth]; exact good_depth h
end

/-! ## R0 -/
theorem Gd.tree_fun {g : Gd} (h : g.arrow = false) : g.tree = .ex "function" [g.head, .ex "tuple" (g.bs.map T.sym)] := by
  unfold Gd.tree Gd.fn; rw [h]; rfl
theorem Gd.tree_arrow {g : Gd} (h : g.arrow = true) : g.tree = .ex "->" [g.head, .ex "tuple" (g.bs.map T.sym)] := by
  unfold Gd.tree Gd.fn; rw [h]; rfl
theorem Gd.head_arrow {g : Gd} (h1 : g.cl = .tup) (h2 : g.b = false) (h3 : g.ws = []) : g.head = .ex "tuple" (g.l.map It.t) := by
  unfold Gd.head; rw [h1, h2, h3]; rfl
theorem wn_nil {g : Gd} (h3 : g.ws = []) : g.wn = [] := by unfold Gd.wn; rw [h3]; rfl

section
variable {W : Wd} {K : Frag} (hK : FK W K) (hB : Bu W)
include hK hB
theorem k_wn_tup {d : Nat} {as : List T} {H : List O} {Q : V → List O → Prop} (hq : Q (.d (.list (sl []))) H) : CallW W 136 (d + 4) [.d (T.ex "tuple" as).enc] H Q := by
  refine call_fn hK (i := 12) rfl (d_where_names_scopes hK hB) (n := 6) (by kernel_rfl) rfl (by kernel_rfl) ?_
  intro hc
  walk_at "gk"
  refine ⟨3, ?_⟩
  walk_at "gk"
  exact ret_app hc (frz_new _ _) hq
end
section
variable {W : Wd} {K : Frag} (hK : FK W K) (hB : Bu W) {g : Gd} (h : g.Good)
include hK hB h
theorem r_hn {d : Nat} {H : List O} {Q : V → List O → Prop} (hq : Q (.d (.list (sl g.ns))) H) : CallW W 245 (d + 4) [.d g.head.enc] H Q := by
  have h1 := good_l_len h
  have h2 := good_arNs h
  refine k_hn hK hB (ws := g.ws.map Bd.t) (b := g.b) (cl := g.cl) (l := g.l) (by lia) (by rw [g.now]; lia) ?_
  rw [g.now]; exact hq
theorem r_kn {d : Nat} {H : List O} {Q : V → List O → Prop} (hq : Q (.d (.list (sl g.ks))) H) : CallW W 252 (d + 4) [.d g.head.enc] H Q := by
  have h1 := good_l_len h
  have h2 := h.ks_le
  refine k_kn hK hB (ws := g.ws.map Bd.t) (b := g.b) (cl := g.cl) (l := g.l) (by lia) (by rw [g.late]; lia) ?_
  rw [g.late]; exact hq
theorem r_wb {d : Nat} {H : List O} {Q : V → List O → Prop} (hq : Q (.d (.list (sl g.wn))) H) : CallW W 259 (d + 2) [.d g.head.enc] H Q := by
  have h2 := h.ws_le
  exact k_wb hK hB (ws := g.ws) (b := g.b) (cl := g.cl) (as := g.l.map It.t) (by lia) hq
theorem r_fh {d : Nat} {H : List O} {Q : V → List O → Prop} (hq : Q (.d (g.cl.call (g.l.map It.t)).enc) H) : CallW W 73 (d + 3) [.d g.tree.enc] H Q := by
  rcases h.shape with ⟨h1, h2⟩ | ⟨h1, h2, h3, h4⟩
  · rw [g.tree_fun h1]
    unfold Gd.head
    rw [cl_call, h2] at hq ⊢
    exact k_fh_fun hK hB hq
  · rw [g.tree_arrow h1, g.head_arrow h2 h3 h4]
    rw [h2] at hq
    exact k_fh_arrow hK hB hq
theorem r_an {d : Nat} {H : List O} {Q : V → List O → Prop} (hq : Q (.d (.list (sl (g.ns ++ g.ks)))) H) : CallW W 129 (d + 4) [.d (g.cl.call (g.l.map It.t)).enc] H Q := by
  have h1 := good_itW h
  have h2 := good_itOut h
  refine k_an hK hB (by lia) (by lia) ?_
  have h3 := (List.nodup_append.mp (good_nd h)).1
  rw [g.itOut, ← List.append_assoc]
  have e : g.cl.ns ++ arNs g.As = g.ns := rfl
  rw [e, once_nodup _ [] (by simpa using h3)]
  exact hq
theorem r_wn {d : Nat} {H : List O} {Q : V → List O → Prop} (hq : Q (.d (.list (sl g.wn))) H) : CallW W 136 (d + 4) [.d g.head.enc] H Q := by
  rcases h.shape with ⟨h1, h2⟩ | ⟨h1, h2, h3, h4⟩
  · unfold Gd.head
    rw [cl_call, h2]
    have h5 := h.ws_le
    refine k_wn hK hB (by lia) ?_
    have h3 := (List.nodup_append.mp (good_nd h)).2.1
    have e : g.ws.map Bd.n = g.wn := rfl
    rw [e, once_nodup _ [] (by simpa using h3)]
    exact hq
  · rw [g.head_arrow h2 h3 h4]
    rw [wn_nil h4] at hq
    exact k_wn_tup hK hB hq
theorem r_fu {d : Nat} {H : List O} {Q : V → List O → Prop} (hq : ∀ r, r.length ≤ 5000 → (∀ x ∈ r, x ∉ g.ns ++ g.ks ++ g.wn) → Q (.d (.list (sl r))) H) : CallW W 162 (d + 9) [.d g.tree.enc] H Q := by
  have h1 := good_itW h
  have h2 := good_itOut h
  have h3 := good_sz h
  have h4 := good_lay_head h
  have h5 := h.ws_le
  have h6 := good_bs h
  rcases h.shape with ⟨ha, hcl⟩ | ⟨ha, h7, h8, h9⟩
  · rw [g.tree_fun ha]
    refine k_fu_fun hK hB hcl h4 (Nat.le_trans h3 (by decide)) (by lia) (by lia) (by lia) (by lia) fun r hr hx => hq r hr fun x hxr hm => ?_
    obtain ⟨e1, e2⟩ := hx x hxr
    rw [g.itOut, ← List.append_assoc] at e1
    rcases List.mem_append.mp hm with hm | hm
    · exact e1 hm
    · exact e2 hm
  · rw [g.tree_arrow ha, g.head_arrow h7 h8 h9]
    rw [g.head_arrow h7 h8 h9] at h3 h4
    refine k_fu_arrow hK hB h4 (Nat.le_trans h3 (by decide)) (by lia) (by lia) (by lia) fun r hr hx => hq r hr fun x hxr hm => ?_
    have e1 := hx x hxr
    rw [g.itOut] at e1
    unfold Gd.ns at hm
    rw [wn_nil h9, h7] at hm
    simp only [Cl.ns, List.nil_append, List.append_nil] at hm
    exact e1 hm
theorem r_ren {d s : Nat} {H : List O} (hs : H[s]? = some (supO 0)) {Q : V → List O → Prop} (hq : ∀ m, Q (.d (g.tree.ren g.f).enc) (H.set s (supO m))) : CallW W 445 (d + 83) [.d g.tree.enc, .ref s] H Q := by
  have h1 := good_l_len h
  have h2 := good_arNs h
  have h3 := h.ks_le
  have h5 := h.ws_le
  have h6 := good_bs h
  have h7 := good_ns h
  have h8 := good_wn h
  refine k_renamed (d := d + 74) (k := 0) (m := (g.ws.map Bd.n ++ (g.cl.ns ++ g.l.flatMap It.now)).length) (res := (g.tree.ren g.f).enc) hK hB (f := g.fn) (by unfold Gd.fn; split; exact .inr rfl; exact .inl rfl) (fun r e => ⟨fun {H Q} hs hp hq => ?_⟩) (by decide) hs (hq _)
  obtain ⟨hr, he⟩ := hp
  have e1 : g.cl.ns ++ g.l.flatMap It.now = g.ns := by rw [g.now]; rfl
  have e2 : g.ws.map Bd.n = g.wn := rfl
  have e3 : ownD (g.ws.map Bd.n) (g.cl.ns ++ g.l.flatMap It.now) (g.l.flatMap It.late) 0 = ownD g.wn g.ns g.ks 0 := by rw [e1, e2, g.late]
  refine k_function (W := W) hK hB (k := 0) (ws := g.ws) (b := g.b) (cl := g.cl) (l := g.l) (bs := g.bs) (lo := ownD g.wn g.ns g.ks 0) e3.symm (dstr_own _ _ _ _) (by lia) (by lia) (good_w h) ?_ ?_ ?_ (by lia) (by rw [g.now]; lia) (by rw [g.late]; lia) ?_ (Nat.zero_add _).symm ?_ hr hs he hq
  · intro x hx k hk
    exact f_ks h (good_late h x hx k hk)
  · intro c hc
    exact f_off h (h.callee c hc).1
  · intro hb
    rcases h.shape with ⟨ha, hcl⟩ | ⟨ha, e7, e8, e9⟩
    · exact hcl
    · rw [e8] at hb; cases hb
  · rw [e1, e2]
    intro x hx
    have := h.names x (good_all h x (by simp only [List.mem_append] at hx ⊢; exact hx.elim .inr fun h => .inl (.inl h)))
    exact ⟨this.1, this.2.1⟩
  · rw [e1, e2, List.length_append]; lia
end

/-! ## R1 -/
theorem sl_lay {l : List Str} (h : ∀ x ∈ l, Ok1 x) : PyData.canLayAll0 (sl l) = true := by
  induction l with
  | nil => rfl
  | cons x r ih =>
    show (PyData.canLay0 (.str x) && PyData.canLayAll0 (sl r)) = true
    rw [ih fun y hy => h y (by simp [hy])]
    have : PyData.canLay0 (.str x) = true := h x (by simp)
    rw [this]; rfl
theorem sl_depth (l : List Str) : PyData.depthAll (sl l) = 0 := by
  induction l with
  | nil => rfl
  | cons x r ih =>
    show max (PyData.depth (.str x)) (PyData.depthAll (sl r)) = 0
    rw [ih]; rfl
theorem list_lay {l : List Str} (h : ∀ x ∈ l, Ok1 x) : (PyData.list (sl l)).canLay0 = true := sl_lay h
theorem list_depth (l : List Str) : (PyData.list (sl l)).depth = 1 := by
  show PyData.depthAll (sl l) + 1 = 1
  rw [sl_depth]
/-- a list of strs beside itself -/
theorem cmpW_ne_sl {l : List Str} {Q : Bool → Prop} (h : ∀ x ∈ l, Ok1 x) (q : Q false) : cmpW .NotEq (.list (sl l)) (.list (sl l)) Q := by
  cases l with
  | nil => exact q
  | cons x r =>
    have hl := list_lay h
    have hm : smallDepth (.list (sl (x :: r))) (.list (sl (x :: r))) := by unfold smallDepth; rw [list_depth]; decide
    refine ⟨hl, hl, hm, ?_⟩
    rw [PySem.SeqAt.eqv_refl _ hl]; exact q
theorem cmp_ne_sl {H : List O} {l : List Str} {Q : Bool → Prop} (h : ∀ x ∈ l, Ok1 x) (q : Q false) : cmpS .NotEq (.d (.list (sl l))) (.d (.list (sl l))) H Q := ⟨cmpW_ne_sl h q⟩
noncomputable def three (a b c : List Str) : PyData := .tuple [.list (sl a), .list (sl b), .list (sl c)]
theorem three_lay {a b c : List Str} (ha : ∀ x ∈ a, Ok1 x) (hb : ∀ x ∈ b, Ok1 x) (hc : ∀ x ∈ c, Ok1 x) : (three a b c).canLay0 = true := by
  simp only [three, PyData.canLay0, PyData.canLayAll0, sl_lay ha, sl_lay hb, sl_lay hc, Bool.and_self]
theorem three_small (a b c : List Str) : smallDepth (three a b c) (three a b c) := by
  have hd : (three a b c).depth = 2 := by
    simp only [three, PyData.depth, PyData.depthAll, sl_depth]; rfl
  unfold smallDepth; rw [hd]; decide

local macro_rules | `(tactic| walk_at "s4") => `(tactic| (apply cmp_ne_sl; (focus assumption)))
local macro_rules | `(tactic| walk_at "gr") => `(tactic| (first | (refine isCall ?_; (first | (walk_at "xs"; walk_at "gr") | skip)) | ((first | walk_at "s1" | walk_at "s4" | walk_at "sd" | walk_at "si" | walk_at "s3" | walk_at "s2"); walk_at "gr") | refine isRet ?_ | skip))

theorem idxV_dict {H : List O} {i : Nat} {l : List (Str × PyData)} {x : Str} {y : PyData} {Q : V → List O → Prop} (hi : H[i]? = some (.dict l)) (hx : dget l x = some y) (q : Q (.d y) H) : idxS (.ref i) (.d (.str x)) H Q := by
  refine .mk ?_
  unfold idxV0; rw [dictOf_d hi]
  show (match dget l x with | some y => Q (.d y) H | none => False)
  rw [hx]; exact q
theorem hsh_len {x : Str} {j : Nat} (hj : j < 100) (hx : x.length ≤ 1000) : (hsh x j).length ≤ 1011 := by
  have h1 : (Str.ofString "#").length = 1 := by decide
  have h2 := num_len j hj
  unfold hsh
  rw [Str.length_append, Str.length_append]; lia
theorem comp_places {f : Str → Str} {d : Nat} {ρ : Rho} {H : List O} {Q : List PyData → List O → Prop} {bs : List Str} (hq : Q (sl (bs.map f)) H) : compL d t_sndf_nil (t_snd_sub (t_snd_name 0) (t_snd_int 1)) ρ [] (T.encs (T.rens f (bs.map T.sym))) [] H Q := by
  refine compL_ind (I := fun r acc H' => ∃ l' a, r = T.encs (T.rens f (l'.map T.sym)) ∧ acc = sl a ∧ H' = H ∧ a ++ l'.map f = bs.map f) ?_ ?_ ⟨bs, [], rfl, rfl, rfl, rfl⟩
  · rintro acc H' ⟨l', a, e, rfl, rfl, ho⟩
    cases l' with
    | cons => cases e
    | nil =>
      have ho' : a = bs.map f := by rw [← ho]; simp
      rw [ho']; exact hq
  · rintro y r acc H' ⟨l', a, e, rfl, rfl, ho⟩ ih
    cases l' with
    | nil => cases e
    | cons n l' =>
      cases e
      walk_at "gr"
      refine ih _ _ ⟨l', a ++ [f n], rfl, by rw [sl_app]; rfl, rfl, ?_⟩
      rw [← ho, List.append_assoc]; rfl

theorem comp_kept {d i : Nat} {ρ : Rho} {H : List O} {tb : List (Str × PyData)} {Q : List PyData → List O → Prop} {ks : List Str} (hk : ∀ x ∈ ks, dget tb x = some (.str x)) (hi : H[i]? = some (.dict tb)) (hρ : ∀ v, compRho ρ [("table", 8)] v = [some v, some (.ref i)]) (hq : Q (sl ks) H) : compL d t_sndf_nil (t_snd_sub (t_snd_name 1) (t_snd_name 0)) ρ [("table", 8)] (sl ks) [] H Q := by
  refine compL_ind (I := fun r acc H' => ∃ l' a, r = sl l' ∧ acc = sl a ∧ H' = H ∧ a ++ l' = ks ∧ ∀ x ∈ l', x ∈ ks) ?_ ?_ ⟨ks, [], rfl, rfl, rfl, rfl, fun x hx => hx⟩
  · rintro acc H' ⟨l', a, e, rfl, rfl, ho, _⟩
    cases l' with
    | cons => cases e
    | nil =>
      have ho' : a = ks := by rw [← ho]; simp
      rw [ho']; exact hq
  · rintro y r acc H' ⟨l', a, e, rfl, rfl, ho, hm⟩ ih
    cases l' with
    | nil => cases e
    | cons n l' =>
      cases e
      rw [hρ]
      walk_at "gr"
      refine idxV_dict hi (hk n (hm n (by simp))) ?_
      walk_at "gr"
      refine ih _ _ ⟨l', a ++ [n], rfl, by rw [sl_app]; rfl, rfl, ?_, fun x hx => hm x (by simp [hx])⟩
      rw [← ho, List.append_assoc]; rfl

theorem dict_at (H : List O) (l : List (Str × PyData)) : dictOf? (H ++ [.dict l]) (.ref H.length) = some l := dictOf_d (one_a _ _)
theorem comp_pairs {d : Nat} {ρ : Rho} {H : List O} {Q : List PyData → List O → Prop} {l : List Str} (hq : Q (prs (l.map fun x => (x, .bool true))) H) : compL d t_sndf_nil (t_snd_tuple (t_snd_cons (t_snd_name 0) (t_snd_cons (t_snd_bool true) t_snd_nil))) ρ [] (sl l) [] H Q := by
  refine compL_ind (I := fun r acc H' => ∃ l' a, r = sl l' ∧ acc = prs (a.map fun x => (x, .bool true)) ∧ H' = H ∧ a ++ l' = l) ?_ ?_ ⟨l, [], rfl, rfl, rfl, rfl⟩
  · rintro acc H' ⟨l', a, e, rfl, rfl, ho⟩
    cases l' with
    | cons => cases e
    | nil =>
      have ho' : a = l := by rw [← ho]; simp
      rw [ho']; exact hq
  · rintro y r acc H' ⟨l', a, e, rfl, rfl, ho⟩ ih
    cases l' with
    | nil => cases e
    | cons n l' =>
      cases e
      walk_at "gr"
      refine ih _ _ ⟨l', a ++ [n], rfl, by simp [prs], rfl, ?_⟩
      rw [← ho, List.append_assoc]; rfl

section
variable {W : Wd} {K : Frag} (hK : FK W K) (hB : Bu W) {g : Gd} (h : g.Good)
include hK hB h
theorem k_right {d : Nat} {H : List O} {Q : V → List O → Prop} (hq : Q (.d (.bool true)) H) : CallW W 500 (d + 84) [.d g.tree.enc, .d (.list (sl g.ns)), .d (.list (sl g.ks)), .d (.list (sl g.wn))] H Q := by
  refine call_fn hK (i := 36) rfl (d_law_right hK hB) (n := 9) (by kernel_rfl) rfl (by kernel_rfl) ?_
  intro hc
  have okn : ∀ x ∈ g.ns, Ok1 x := fun x hx => (h.names x (good_mem_ns h hx)).2.2
  have okk : ∀ x ∈ g.ks, Ok1 x := fun x hx => (h.names x (good_mem_ks h hx)).2.2
  have okw : ∀ x ∈ g.wn, Ok1 x := fun x hx => (h.names x (good_mem_wn h hx)).2.2
  have oknk : ∀ x ∈ g.ns ++ g.ks, Ok1 x := fun x hx => (List.mem_append.mp hx).elim (okn x) (okk x)
  have lns := good_ns h
  have lks := h.ks_le
  have lwn := good_wn h
  have lbs := good_bs h
  have hT : g.tree.enc = .tuple [.str "expr", .str g.fn, .tuple [g.head.enc, (T.ex "tuple" (g.bs.map T.sym)).enc]] := rfl
  have hTr : (g.tree.ren g.f).enc = .tuple [.str "expr", .str g.fn, .tuple [(g.head.ren g.f).enc, .tuple [.str "expr", .str "tuple", .tuple (T.encs (T.rens g.f (g.bs.map T.sym)))]]] := rfl
  walk_at "gr"
  refine r_hn hK hB h ?_
  walk_at "gr"
  refine r_kn hK hB h ?_
  walk_at "gr"
  refine r_wb hK hB h ?_
  walk_at "gr"
  have hl3 := three_lay okn okk okw
  refine ⟨hl3, hl3, three_small _ _ _, ?_⟩
  generalize hE : PyData.eqv _ _ = e
  obtain rfl : e = true := hE.symm.trans (PySem.SeqAt.eqv_refl _ hl3)
  walk_at "gr"
  refine r_fh hK hB h ?_
  walk_at "gr"
  refine r_an hK hB h ?_
  walk_at "gr"
  refine ⟨by rw [sl_len, sl_len]; lia, ?_⟩
  rw [← sl_app]
  walk_at "gr"
  refine r_wn hK hB h ?_
  walk_at "gr"
  refine r_fu hK hB h fun r hr hx => ?_
  walk_at "gr"
  refine ⟨by rw [sl_len]; lia, ?_⟩
  refine compL_ind (I := fun q acc H' => ∃ r', q = sl r' ∧ acc = [] ∧ H' = H ∧ ∀ x ∈ r', x ∉ g.ns ++ g.ks ++ g.wn) ?_ ?_ ⟨r, rfl, rfl, rfl, hx⟩
  case' refine_1 =>
    rintro acc H' ⟨r', e1, rfl, rfl, hx'⟩
  case' refine_2 =>
    rintro y q acc H' ⟨r', e1, rfl, rfl, hx'⟩ ih
    cases r' with
    | nil => cases e1
    | cons x r' =>
      cases e1
      walk_at "gr"
      refine ⟨by rw [sl_len, sl_len]; lia, ?_⟩
      rw [← sl_app]
      walk_at "gr"
      refine ⟨by rw [sl_len, sl_len, List.length_append]; lia, ?_⟩
      rw [← sl_app]
      walk_at "gr"
      have hxx := hx' x (by simp)
      have hb : (g.ns ++ g.ks ++ g.wn).any (· == x) = false := by
        rw [List.any_eq_false]
        intro y hy e
        have : y = x := by simpa using e
        exact hxx (this ▸ hy)
      rw [hb]
      walk_at "gr"
      exact ih _ _ ⟨r', rfl, rfl, rfl, fun z hz => hx' z (by simp [hz])⟩
  walk_at "gr"
  refine ⟨_, rfl, k_NS_init hK hB ⟨rfl, ?_⟩⟩
  walk_at "gr"
  refine r_ren hK hB h (one_a _ _) fun m => ?_
  rw [one_s]
  walk_at "gr"
  refine ⟨by rw [encs_map, rens_map]; simp only [List.length_map]; lia, ?_⟩
  refine comp_places ?_
  walk_at "gr"
  refine ⟨by rw [sl_len, sl_len]; lia, ?_⟩
  rw [← sl_app]
  walk_at "gr"
  refine ⟨by rw [sl_len, sl_len, List.length_append]; lia, ?_⟩
  rw [← sl_app]
  walk_at "gr"
  refine ⟨g.ns ++ g.ks ++ g.wn, rfl, by rw [sl_len, List.length_map]; simp only [Gd.bs, List.length_append]; lia, by simp only [List.length_append]; lia, ?_, ?_⟩
  · intro v hv
    obtain ⟨y, _, rfl⟩ := List.mem_map.mp hv
    rfl
  have hget : ∀ x, dget (putD ((g.ns ++ g.ks ++ g.wn).zip (sl (g.bs.map g.f)))) x = if x ∈ g.ns ++ g.ks ++ g.wn then some (.str (g.f x)) else none := fun x => tab_dget (good_nd h) x
  have hlook : look (putD ((g.ns ++ g.ks ++ g.wn).zip (sl (g.bs.map g.f)))) = g.f := tab_look (good_nd h) fun x hx => f_off h hx
  have hdstr : DStr (putD ((g.ns ++ g.ks ++ g.wn).zip (sl (g.bs.map g.f)))) := tab_dstr (good_nd h)
  obtain ⟨tb, htb⟩ : ∃ tb, putD ((g.ns ++ g.ks ++ g.wn).zip (sl (g.bs.map g.f))) = tb := ⟨_, rfl⟩
  rw [htb] at hlook hdstr
  simp only [htb] at hget
  walk_at "gr"
  refine ⟨by rw [sl_len, sl_len]; lia, ?_⟩
  rw [← sl_app]
  walk_at "gr"
  walk_at "nl"
  refine forL_ind (I := fun q ρ H => ∃ l' x, q = sl l' ∧ ρ = [some (.d g.tree.enc), some (.d (.list (sl g.ns))), some (.d (.list (sl g.ks))), some (.d (.list (sl g.wn))), some (.d g.head.enc), x, some (.d (g.tree.ren g.f).enc), some (.d (.list (sl (g.bs.map g.f)))), some (.ref (H' ++ [supO m]).length)] ∧ H = H' ++ [supO m] ++ [O.dict tb] ∧ ∀ x ∈ l', x ∈ g.ns ++ g.wn) ?_ ?_ ⟨g.ns ++ g.wn, _, rfl, rfl, congrArg (fun t => H' ++ [supO m] ++ [O.dict t]) htb, fun x hx => hx⟩
  case' refine_1 =>
    rintro ρ H2 ⟨l', x5, e1, rfl, rfl, _⟩
    clear e1
  case' refine_2 =>
    rintro y q ρ H2 ⟨l', x5, e1, rfl, rfl, hl⟩ ih
    cases l' with
    | nil => cases e1
    | cons x l' =>
      cases e1
      have hxm := hl x (by simp)
      have hxb : x ∈ g.bs := by
        rcases List.mem_append.mp hxm with hx | hx
        · exact good_mem_ns h hx
        · exact good_mem_wn h hx
      obtain ⟨hx1, hx2, hx3⟩ := h.names x hxb
      obtain ⟨j, hj, ej⟩ := f_in h hxm
      have hgx : dget tb x = some (.str (hsh x j)) := by
        rw [hget, if_pos (by simp only [List.mem_append] at hxm ⊢; exact hxm.elim (fun h => .inl (.inl h)) .inr), ej]
      have hlx := hsh_len (x := x) (j := j) (by lia) hx2
      walk_at "gr"
      refine idxV_dict (one_a _ _) hgx ?_
      walk_at "gr"
      refine ⟨by lia, by have := parts_len (hsh x j); lia, ?_⟩
      have hs := split_hash (s := Str.ofString (toString ((j : Int) + 1))) hx1
      have hs' : (Txt.split (hsh x j) "#")[0]? = some x := hs
      rw [hs']
      walk_at "gr"
      refine dec_rec (fun h => ?_) (fun h => ?_)
      · walk_at "gr"
        refine idxV_dict (one_a _ _) hgx ?_
        walk_at "gr"
        refine dec_rec (fun h => ?_) (fun h => ?_)
        · walk_at "gr"
          exact ih _ _ ⟨l', _, rfl, rfl, rfl, fun z hz => hl z (by simp [hz])⟩
        · have h1 := in_hash (hsh x j)
          have h2 : 35 ∈ (hsh x j).cps.toList := Decidable.byContradiction (hsh_in x j)
          rw [decide_eq_true h2] at h1
          rw [h1] at h
          cases h
      · simp at h
  walk_at "gr"
  refine ⟨by rw [sl_len]; lia, ?_⟩
  refine comp_kept (i := (H' ++ [supO m]).length) (tb := tb) (ks := g.ks) (fun x hx => ?_) (one_a _ _) (fun _ => rfl) ?_
  case' refine_1 =>
    rw [hget, if_pos (by simp [hx]), f_ks h hx]
  walk_at "gr"
  refine ⟨by rw [sl_len, List.length_map]; lia, ?_⟩
  refine comp_pairs ?_
  refine ⟨_, rfl, by simp only [List.length_map]; lia, ?_, ?_⟩
  · intro p hp
    obtain ⟨y, _, rfl⟩ := List.mem_map.mp hp
    rfl
  walk_at "gr"
  walk_at "cw"
  rw [dict_at]
  have hpd : putD ((g.bs.map g.f).map fun x => (x, PyData.bool true)) = (g.bs.map g.f).map fun x => (x, PyData.bool true) := putD_nodup (by
    rw [List.map_map]
    have e : ((fun p : Str × PyData => p.1) ∘ fun x => (x, PyData.bool true)) = id := rfl
    rw [e, List.map_id]
    exact f_nodup h)
  rw [hpd]
  refine ⟨by simp only [List.length_map]; lia, ?_⟩
  walk_at "gr"
  refine ⟨by rw [sl_len, List.length_map]; lia, ?_⟩
  walk_at "gr"
  refine dec_rec (fun h' => ?_) (fun h' => absurd h' (by simp [sl_len]))
  walk_at "gr"
  refine (k_led (d := d + 75) hK hB hdstr 7 (good_dp h)).go (two_a _ _ _) ?_
  rw [hlook]
  have hlr := good_lay_ren h
  have hdr := good_depth_ren h
  walk_at "gr"
  rw [List.append_assoc, List.append_assoc]
  exact ret_app hc rfl hq
end

/-! ## L0 -/
theorem wd_ok : (∀ x ∈ ([ "x", "k", "u", "T" ] : List Str), nohash x ∧ x.length ≤ 1000 ∧ Ok1 x) := by unfold nohash; decide +kernel
/-- the tree at the law's head -/
noncomputable def gFix : Gd := { arrow := false, cl := .fn "f", b := false, ws := [], ks := [ "k" ], c := 1, As := [.nm "x"], ex := [] }
theorem gFix_good : gFix.Good where
  shape := .inl ⟨rfl, rfl⟩
  nodup := by decide +kernel
  names := fun x hx => wd_ok x (by
    have : x = "x" ∨ x = "k" := by simpa [gFix, Gd.bs, Gd.ns, Gd.wn, Cl.ns, arNs, Ar.ns] using hx
    rcases this with rfl | rfl <;> simp)
  callee := fun c hc => by
    obtain rfl : "f" = c := Cl.fn.inj hc
    exact ⟨by decide +kernel, sy_ok.2.2.2.2.2.2.2⟩
  oth := fun x hx => by
    obtain rfl : x = .nm "x" := by simpa [gFix] using hx
    trivial
  As_le := by decide
  ks_le := by decide
  ws_le := by decide
  ex_le := by decide
theorem nam_wd {j : Nat} (h : j < 60) : nohash (nam j) ∧ (nam j).length ≤ 1000 ∧ Ok1 (nam j) := by
  obtain ⟨h1, h2, h3, _⟩ := nam_facts j h
  exact ⟨h3, by lia, h1⟩
theorem ok_good {g : Gd} {k m : Nat} (h : g.Ok k m) (hk : k + m < 60) : g.Good := by
  have hmem : ∀ x ∈ g.ns ++ g.ks ++ g.wn, ∃ j, j < 60 ∧ x = nam j := fun x hx => by
    obtain ⟨j, h1, h2, e⟩ := nams_mem (h.perm.mem_iff.mp hx)
    exact ⟨j, by lia, e⟩
  have hex : ∀ x ∈ g.ex, x = "u" ∨ x = "T" := fun x hx => by
    rcases h.shape with ⟨_, _, e, _⟩ | ⟨_, _, _, _, e⟩
    · rw [e] at hx; simpa using hx
    · rw [e] at hx; exact .inl (by simpa using hx)
  have hexn : g.ex.Nodup := by
    rcases h.shape with ⟨_, _, e, _⟩ | ⟨_, _, _, _, e⟩
    · rw [e]; decide +kernel
    · rw [e]; decide +kernel
  have hexl : g.ex.length ≤ 2 := by
    rcases h.shape with ⟨_, _, e, _⟩ | ⟨_, _, _, _, e⟩
    · rw [e]; decide
    · rw [e]; decide
  refine ⟨?_, ?_, ?_, ?_, ?_, h.As_le, h.ks_le, h.ws_le, hexl⟩
  · rcases h.shape with ⟨h1, h2, _⟩ | ⟨h1, h2, h3, h4, _⟩
    · exact .inl ⟨h1, h2⟩
    · exact .inr ⟨h1, h2, h3, h4⟩
  · unfold Gd.bs
    refine List.nodup_append.mpr ⟨h.perm.nodup_iff.mpr (nams_nodup hk), hexn, fun a ha b hb e => ?_⟩
    obtain ⟨j, hj, rfl⟩ := hmem a ha
    obtain ⟨_, _, _, h1, h2, _⟩ := nam_facts j hj
    rcases hex b hb with rfl | rfl
    · exact h1 e
    · exact h2 e
  · intro x hx
    unfold Gd.bs at hx
    rcases List.mem_append.mp hx with hx | hx
    · obtain ⟨j, hj, rfl⟩ := hmem x hx
      exact nam_wd hj
    · rcases hex x hx with rfl | rfl
      · exact wd_ok _ (by simp)
      · exact wd_ok _ (by simp)
  · intro c hc
    rcases h.shape with ⟨_, _, _, h4⟩ | ⟨_, h2, _⟩
    · obtain rfl := h4 c hc
      refine ⟨fun hm => ?_, sy_ok.2.2.2.2.2.2.2⟩
      obtain ⟨j, hj, e⟩ := hmem _ hm
      obtain ⟨_, _, _, _, _, h3⟩ := nam_facts j hj
      exact h3 e.symm
    · rw [h2] at hc; cases hc
  · intro x hx
    have ho := h.oth x hx
    cases x with
    | df n o =>
      rcases ho with ho | rfl
      · obtain ⟨j, hj, rfl⟩ := hmem o (by unfold Gd.ns; simp [ho])
        exact (nam_wd hj).2.2
      · exact sy_ok.2.2.2.2.2.2.1
    | _ => trivial

theorem range_two {c : Int} (h : c ≤ 2) : ∀ y ∈ rangeItems c, ∃ t : Nat, t ≤ 1 ∧ y = .int (t : Int) := fun y hy => by
  obtain ⟨j, hj, e⟩ := List.mem_map.mp hy
  have := List.mem_range.mp hj
  exact ⟨j, by lia, e.symm⟩
theorem mm_two (n : Int) (h : 0 ≤ n) : -1000000 ≤ (if (if 2 < n then 2 else n) > 1 then (if 2 < n then 2 else n) else 1) ∧ (if (if 2 < n then 2 else n) > 1 then (if 2 < n then 2 else n) else 1) ≤ 2 := by
  by_cases h1 : 2 < n
  · rw [if_pos h1]; decide
  · rw [if_neg h1]
    by_cases h2 : n > 1
    · rw [if_pos h2]; lia
    · rw [if_neg h2]; decide

section
variable {W : Wd} {K : Frag} (hK : FK W K) (hB : Bu W)
include hK hB
theorem k_law {d : Nat} {l : List PyData} (hl : ∀ y ∈ l, ∃ j, y = .int j) (hlen : l.length ≤ 1000) {H : List O} {Q : V → List O → Prop} (hq : Q (.d (.bool true)) H) : CallW W 507 (d + 86) [.d (.list l)] H Q := by
  refine call_fn hK (i := 37) rfl (d_law hK hB) (n := 10) (by kernel_rfl) rfl (by kernel_rfl) ?_
  intro hc
  walk_at "gr"
  refine k_right hK hB (d := d + 1) gFix_good ?_
  walk_at "gr"
  refine ⟨by lia, ?_⟩
  walk_at "gr"
  have hmm := mm_two (l.length : Int) (by lia)
  refine ⟨hmm.1, Int.le_trans hmm.2 (by decide), ?_⟩
  refine forL_ind (I := fun r ρ H' => ∃ (G : List O) (x1 x2 x3 x4 x5 x6 x7 x8 x9 : Option V), (∀ y ∈ r, ∃ t : Nat, t ≤ 1 ∧ y = .int (t : Int)) ∧ ρ = [some (.d (.list l)), x1, x2, x3, x4, x5, x6, x7, x8, x9] ∧ H' = H ++ G) ?_ ?_ ⟨[], _, _, _, _, _, _, _, _, _, range_two hmm.2, rfl, (List.append_nil H).symm⟩
  · rintro ρ H' ⟨G, x1, x2, x3, x4, x5, x6, x7, x8, x9, hr, rfl, rfl⟩
    walk_at "gr"
    exact ret_app hc rfl hq
  · rintro y r ρ H' ⟨G, x1, x2, x3, x4, x5, x6, x7, x8, x9, hr, rfl, rfl⟩ ih
    obtain ⟨t, ht, rfl⟩ := hr y (by simp)
    walk_at "gr"
    refine k_tub hK hB hl hlen ht fun a b => ?_
    walk_at "gr"
    refine k_lfun (d := d + 80) hK hB (by decide) (one_a _ _) fun g a1 b1 m hg => ?_
    have hm := hg.m_le
    rw [one_s]
    walk_at "gr"
    refine k_right (d := d + 1) hK hB (ok_good hg (by lia)) ?_
    walk_at "gr"
    refine k_lfun (d := d + 80) hK hB (by lia) (one_a _ _) fun g2 a2 b2 m2 hg2 => ?_
    have hm2 := hg2.m_le
    rw [one_s]
    walk_at "gr"
    refine k_right (d := d + 1) hK hB (ok_good hg2 (by lia)) ?_
    walk_at "gr"
    exact ih _ _ ⟨G ++ [tubO a2 b2 (0 + m + m2)], _, _, _, _, _, _, _, _, _, fun y hy => hr y (by simp [hy]), rfl, by rw [List.append_assoc]⟩
end

set_option tactic.hygienic true
/-! ## Q0 -/
theorem hok_nil {W : Wd} {h : Heap} {Φ : Addr → Prop} : HOk W h Φ [] [] :=
  ⟨rfl, fun i j p q hp => by simp at hp, fun a ha => absurd ha FP.nil, fun i o ho => by simp at ho⟩
theorem caller_ok : OkA 86 callerA := ⟨rfl, by decide, by decide⟩
theorem bu_of {W : Wd} (h : ∀ x : Str, x ≠ "__name__" → W.mb x = bootBuiltins x) : Bu W :=
  ⟨(h _ (by decide)).trans (by kernel_rfl), (h _ (by decide)).trans (by kernel_rfl), (h _ (by decide)).trans (by kernel_rfl), (h _ (by decide)).trans (by kernel_rfl),
   (h _ (by decide)).trans (by kernel_rfl), (h _ (by decide)).trans (by kernel_rfl), (h _ (by decide)).trans (by kernel_rfl), (h _ (by decide)).trans (by kernel_rfl),
   (h _ (by decide)).trans (by kernel_rfl), (h _ (by decide)).trans (by kernel_rfl)⟩
/-- the law's call, from the state behind the top -/
theorem law_ends {prog : Program} {w : World} {s : Shared} {mg mb : Str → Option Value} {f a : Addr} {l : List Int} {as : List Addr} {Q E : Value → Shared → Prop} (hK : Known w s.heap)
    (hg : s.heap.Ns mainGlobals mg) (hb : s.heap.Ns builtinsNs mb) (hn : s.heap.NoLimit) (hu : ∀ x : Str, x ≠ "__name__" → mb x = bootBuiltins x) (hf : mg "law" = some (.ref f)) (hr : Reads s.heap (.ref a) (.list (l.map .int)) as) (hl : l.length ≤ 63)
    (hq : ∀ s' : Shared, (∀ b o, s.heap.get? b = some o → s'.heap.get? b = some o) → s'.os = s.os → s'.gens = s.gens → Q (.bool true) s') :
    wpAny (model prog w) callerA (call (.ref f) [.ref a]) Q E s := by
  obtain ⟨K, hK1, hK2⟩ := hK
  have hK : FK ⟨prog, w, s.heap, s.gens, s.os, mg, mb, hg, hb, hn⟩ K := ⟨hK1, hK2⟩
  have hB : Bu ⟨prog, w, s.heap, s.gens, s.os, mg, mb, hg, hb, hn⟩ := bu_of hu
  have hf' := (g_law (W := ⟨prog, w, s.heap, s.gens, s.os, mg, mb, hg, hb, hn⟩) hK).1
  obtain rfl : f = 507 := by
    have h1 : some (Value.ref f) = some (.ref 507) := hf.symm.trans hf'
    exact Value.ref.inj (Option.some.inj h1)
  have hc := k_law (W := ⟨prog, w, s.heap, s.gens, s.os, mg, mb, hg, hb, hn⟩) hK hB (d := 0) (l := l.map .int) (H := []) (Q := fun v H => v = .d (.bool true)) (fun y hy => by
    obtain ⟨j, _, rfl⟩ := List.mem_map.mp hy
    exact ⟨j, rfl⟩) (by rw [List.length_map]; omega) rfl
  refine wpAny_call (codeAny_mono (hc.go callerA E s (fun _ => False) [] [.ref a] caller_ok ⟨fun _ _ e => e, rfl, rfl, Nat.le_refl _⟩ (fun _ h => h.elim) hok_nil ⟨⟨as, hr, fun _ _ => ⟨id, FP.nil⟩⟩, trivial⟩) fun r s' h => ?_)
  match r, h with
  | .ok (.ret v), ⟨v', H', μ', I, x, K, hv, e⟩ =>
    subst e
    obtain ⟨bs, rb, _⟩ := hv
    cases rb
    exact hq s' I.keep I.os I.gens
  | .error e, h => exact h

end Mine

set_option tactic.hygienic true

theorem PySem.Challenge.cw_pc0212_01_holds : PySem.Challenge.rw_pc0212_01.Holds := by
  refine Mine.head ?_
  intro w s₀ s₁ mg mb G Y fa o pm cd doc dV kV ho hdt hcd hD hmg hg args vals as hpre hlay hrd hwl hlo
  refine PySem.W.Ground.open G ?_
  intro T B D TE TW
  have TG := T.g
  have TB := T.b
  have TN := T.nolimit
  have TU := T.builtins
  clear hdt hcd hD T B D TE TW G ho
  wrow_args hpre hlay hrd hwl hlo
  rename_i l _ _ _ _ _ as' _ a _ _ _ _ _ r0 _ _ hcond _
  refine Mine.law_ends Y TG TB TN TU hmg r0 (by omega) fun s' h1 h2 h3 => ?_
  refine PySem.W.GoodW.toG ⟨.inl ⟨_, .bool true, [], rfl, fun _ => rfl, ?_, ?_, ?_⟩, h1, h2, h3.trans hg⟩
  · exact PySem.W.ReadsW.bool _
  · kernel_rfl
  · exact fun _ => ⟨List.nodup_nil, fun a h => nomatch h⟩
