import PyProof.Rows.All
import Wide.All
import OpenK.AllK
import Wide.FinOn
import HandS.ForMost
import HandS.Walk
import HandS.AnyAll
import HandS.Lambda
import HandS.GenList
import KE.KMinKey
import KE.LtSeq
import HandS.SortKw
import HandS.SetFor
import HandS.TupAny
import KE.GoesEnum
import PyProof.ListStr
import KE.KStateDown
import HandS.Head0
import HandS.Head1
import HandS.Head2
import HandS.HeadEnd
import HandS.HeadHook1
import HandS.HeadHook2
import HandS.HeadHook3
import HandS.HeadHook4
import HandS.HeadWalk
import HandS.Strs
import HandS.Style
import HandS.ListItems
import HandS.SortRule
import HandS.More
import HandS.Wide
import HandS.TryMany
import HandS.Exc
import HandS.ExcOwn
import PySem.Challenge.RW_pairmart_k60_whole_any_days
/-! PM: many-to-one markets: asking, what it keeps, why its end is stable and the best. Plain Lean. -/
namespace PM
variable {α β : Type} [DecidableEq α] [DecidableEq β]

theorem nodup_sub_len {l₁ : List α} : ∀ {l₂ : List α}, l₁.Nodup → (∀ x ∈ l₁, x ∈ l₂) → l₁.length ≤ l₂.length := by
  induction l₁ with
  | nil => intro l₂ _ _; exact Nat.zero_le _
  | cons a t ih =>
    intro l₂ hn hs
    have ha : a ∈ l₂ := hs a List.mem_cons_self
    have hn' := List.nodup_cons.mp hn
    have h1 : t.length ≤ (l₂.erase a).length := ih hn'.2 fun x hx => by
      have hxa : x ≠ a := fun e => hn'.1 (e ▸ hx)
      exact (List.mem_erase_of_ne hxa).mpr (hs x (List.mem_cons_of_mem _ hx))
    have h2 : (l₂.erase a).length = l₂.length - 1 := List.length_erase_of_mem ha
    have h3 : 0 < l₂.length := List.length_pos_of_mem ha
    simp only [List.length_cons]
    omega
theorem nodup_same_len {l₁ l₂ : List α} (h1 : l₁.Nodup) (h2 : l₂.Nodup) (h : ∀ x, x ∈ l₁ ↔ x ∈ l₂) : l₁.length = l₂.length :=
  Nat.le_antisymm (nodup_sub_len h1 fun x hx => (h x).mp hx) (nodup_sub_len h2 fun x hx => (h x).mpr hx)

theorem idx_inj {l : List α} {x y : α} (hx : x ∈ l) (h : l.idxOf x = l.idxOf y) : x = y := by
  have h1 := List.idxOf_lt_length_of_mem hx
  have h2 : l.idxOf y < l.length := by rw [← h]; exact h1
  have e1 : l[l.idxOf x] = x := List.getElem_idxOf h1
  have e2 : l[l.idxOf y] = y := List.getElem_idxOf h2
  have : l[l.idxOf x] = l[l.idxOf y] := by simp only [h]
  rw [e1, e2] at this
  exact this
theorem idx_get {l : List α} (hn : l.Nodup) {i : Nat} (hi : i < l.length) : l.idxOf l[i] = i := by
  have hm : l[i] ∈ l := List.getElem_mem hi
  have h1 := List.idxOf_lt_length_of_mem hm
  have e1 : l[l.idxOf l[i]] = l[i] := List.getElem_idxOf h1
  exact (List.getElem_inj hn).mp e1
theorem idx_of_get? {l : List α} (hn : l.Nodup) {i : Nat} {x : α} (h : l[i]? = some x) : l.idxOf x = i ∧ i < l.length ∧ x ∈ l := by
  obtain ⟨hi, e⟩ := List.getElem?_eq_some_iff.mp h
  subst e
  exact ⟨idx_get hn hi, hi, List.getElem_mem hi⟩
theorem get?_idx {l : List α} {x : α} (hx : x ∈ l) : l[l.idxOf x]? = some x := by
  have h1 := List.idxOf_lt_length_of_mem hx
  rw [List.getElem?_eq_getElem h1, List.getElem_idxOf h1]
theorem mem_take_idx {l : List α} {n : Nat} {x : α} (hn : l.Nodup) : x ∈ l.take n ↔ x ∈ l ∧ l.idxOf x < n := by
  constructor
  · intro h
    obtain ⟨i, hi, e⟩ := List.getElem_of_mem h
    rw [List.length_take] at hi
    have hi' : i < l.length := by omega
    rw [List.getElem_take] at e
    subst e
    exact ⟨List.getElem_mem hi', by rw [idx_get hn hi']; omega⟩
  · intro ⟨h1, h2⟩
    have h3 := List.idxOf_lt_length_of_mem h1
    have e := List.getElem_idxOf h3
    have hl : l.idxOf x < (l.take n).length := by rw [List.length_take]; omega
    have e2 : (l.take n)[l.idxOf x] = x := by rw [List.getElem_take]; exact e
    rw [← e2]
    exact List.getElem_mem hl

def fset (f : α → γ) (a : α) (v : γ) : α → γ := fun x => if x = a then v else f x
theorem fset_same {f : α → γ} {a : α} {v : γ} : fset f a v a = v := if_pos rfl
theorem fset_ne {f : α → γ} {a b : α} {v : γ} (h : b ≠ a) : fset f a v b = f b := if_neg h

structure Mkt (α β : Type) where
  A : List α
  R : List β
  lst : α → List β
  ord : β → List α
  q : β → Nat
def Mkt.likes (M : Mkt α β) (a : α) (r : β) : Prop := a ∈ M.A ∧ r ∈ M.R ∧ r ∈ M.lst a ∧ a ∈ M.ord r
structure Mkt.WF (M : Mkt α β) : Prop where
  A : M.A.Nodup
  R : M.R.Nodup
  lst : ∀ a ∈ M.A, (M.lst a).Nodup
  ord : ∀ r ∈ M.R, (M.ord r).Nodup
/-- where a room, or nothing, stands in a list -/
def pl (l : List β) : Option β → Nat
  | none => l.length
  | some r => l.idxOf r
/-- who is in a room -/
def ins (M : Mkt α β) (μ : α → Option β) (r : β) : List α := M.A.filter fun b => decide (μ b = some r)
theorem mem_ins {M : Mkt α β} {μ : α → Option β} {r : β} {b : α} : b ∈ ins M μ r ↔ b ∈ M.A ∧ μ b = some r := by
  unfold ins; simp
theorem ins_nodup {M : Mkt α β} (w : M.WF) {μ : α → Option β} {r : β} : (ins M μ r).Nodup := w.A.sublist List.filter_sublist

abbrev better (M : Mkt α β) (r : β) (b a : α) : Prop := (M.ord r).idxOf b < (M.ord r).idxOf a
/-- full of better -/
def Full (M : Mkt α β) (μ : α → Option β) (a : α) (r : β) : Prop := M.q r ≤ (ins M μ r).length ∧ ∀ b ∈ ins M μ r, better M r b a
structure Stable (M : Mkt α β) (μ : α → Option β) : Prop where
  ir : ∀ a ∈ M.A, ∀ r, μ a = some r → M.likes a r
  cap : ∀ r, (ins M μ r).length ≤ M.q r
  nb : ∀ a r, M.likes a r → (M.lst a).idxOf r < pl (M.lst a) (μ a) → Full M μ a r
inductive Rej (M : Mkt α β) : α → β → Prop
  | mk (a : α) (r : β) (S : List α) (nd : S.Nodup) (len : S.length = M.q r) (by_ : ∀ b ∈ S, M.likes b r ∧ better M r b a)
      (up : ∀ b ∈ S, ∀ r', M.likes b r' → (M.lst b).idxOf r' < (M.lst b).idxOf r → Rej M b r') : Rej M a r

theorem rej_sound {M : Mkt α β} {μ : α → Option β} (hs : Stable M μ) {a : α} {r : β} (h : Rej M a r) : a ∈ M.A → μ a ≠ some r := by
  induction h with
  | mk a r S nd len by_ up ih =>
    intro haA hμ
    have aS : a ∉ S := fun z => Nat.lt_irrefl _ (by_ a z).2
    obtain ⟨b, hb, hbr⟩ : ∃ b ∈ S, μ b ≠ some r := by
      apply Classical.byContradiction
      intro hn
      have all : ∀ b ∈ S, μ b = some r := fun b hb => Classical.byContradiction fun z => hn ⟨b, hb, z⟩
      have h1 : (a :: S).length ≤ (ins M μ r).length := nodup_sub_len (List.nodup_cons.mpr ⟨aS, nd⟩) fun x hx => by
        rcases List.mem_cons.mp hx with rfl | hx
        · exact mem_ins.mpr ⟨haA, hμ⟩
        · exact mem_ins.mpr ⟨(by_ x hx).1.1, all x hx⟩
      have h2 := hs.cap r
      simp only [List.length_cons] at h1
      omega
    obtain ⟨lk, bt⟩ := by_ b hb
    have hlt : (M.lst b).idxOf r < pl (M.lst b) (μ b) := by
      cases e : μ b with
      | none => exact List.idxOf_lt_length_of_mem lk.2.2.1
      | some r2 =>
        show (M.lst b).idxOf r < (M.lst b).idxOf r2
        have l2 := hs.ir b lk.1 r2 e
        have ne : r2 ≠ r := fun z => hbr (by rw [e, z])
        have n1 : ¬ (M.lst b).idxOf r2 < (M.lst b).idxOf r := fun z => ih b hb r2 l2 z lk.1 e
        have n2 : (M.lst b).idxOf r2 ≠ (M.lst b).idxOf r := fun z => ne (idx_inj l2.2.2.1 z)
        omega
    have := (hs.nb b r lk hlt).2 a (mem_ins.mpr ⟨haA, hμ⟩)
    exact Nat.lt_asymm this bt

/-- what stands amid the asking -/
structure DA (M : Mkt α β) (held : α → Option β) (next : α → Nat) : Prop where
  hd : ∀ a ∈ M.A, ∀ r, held a = some r → M.likes a r ∧ next a = (M.lst a).idxOf r + 1
  nx : ∀ a ∈ M.A, next a ≤ (M.lst a).length
  cap : ∀ r, (ins M held r).length ≤ M.q r
  rj : ∀ a r, M.likes a r → (M.lst a).idxOf r < next a → held a ≠ some r → Rej M a r ∧ Full M held a r
/-- nobody wants to ask -/
def Settled (M : Mkt α β) (held : α → Option β) (next : α → Nat) : Prop := ∀ a ∈ M.A, held a = none → next a = (M.lst a).length
/-- what an ask does -/
inductive AskOut (M : Mkt α β) (held : α → Option β) (here : α) (r : β) : Option α → (α → Option β) → Prop
  | self : (M.likes here r → Full M held here r) → AskOut M held here r (some here) held
  | take : M.likes here r → (ins M held r).length < M.q r → AskOut M held here r none (fset held here (some r))
  | swap (w : α) : M.likes here r → w ≠ here → w ∈ ins M held r → M.q r ≤ (ins M held r).length → better M r here w → (∀ b ∈ ins M held r, b ≠ w → better M r b w) →
      AskOut M held here r (some w) (fset (fset held here (some r)) w none)

theorem ins_take {M : Mkt α β} (w : M.WF) {held : α → Option β} {here : α} {r : β} (hA : here ∈ M.A) (hn : held here = none) (r' : β) :
    (∀ b, b ∈ ins M (fset held here (some r)) r' ↔ b ∈ ins M held r' ∨ (b = here ∧ r' = r)) := by
  intro b
  rw [mem_ins, mem_ins]
  by_cases hb : b = here
  · subst hb
    rw [fset_same, hn]
    constructor
    · intro ⟨_, h⟩; exact .inr ⟨rfl, (Option.some.inj h).symm⟩
    · rintro (⟨_, h⟩ | ⟨_, h⟩)
      · cases h
      · exact ⟨hA, by rw [h]⟩
  · rw [fset_ne hb]
    constructor
    · intro h; exact .inl h
    · rintro (h | ⟨h, _⟩)
      · exact h
      · exact absurd h hb
theorem ins_take_len {M : Mkt α β} (w : M.WF) {held : α → Option β} {here : α} {r : β} (hA : here ∈ M.A) (hn : held here = none) :
    (ins M (fset held here (some r)) r).length = (ins M held r).length + 1 := by
  have h1 : here ∉ ins M held r := fun z => by
    have := (mem_ins.mp z).2
    rw [hn] at this
    cases this
  have := nodup_same_len (ins_nodup w (μ := fset held here (some r)) (r := r)) (List.nodup_cons.mpr ⟨h1, ins_nodup w⟩) fun x => by
    rw [ins_take w hA hn r x, List.mem_cons]
    constructor
    · rintro (h | ⟨h, _⟩)
      · exact .inr h
      · exact .inl h
    · rintro (h | h)
      · exact .inr ⟨h, rfl⟩
      · exact .inl h
  simpa using this
theorem ins_swap {M : Mkt α β} (w : M.WF) {held : α → Option β} {here v : α} {r : β} (hA : here ∈ M.A) (hn : held here = none) (hv : v ≠ here) (hvi : v ∈ ins M held r) (r' : β) :
    (∀ b, b ∈ ins M (fset (fset held here (some r)) v none) r' ↔ (b ∈ ins M held r' ∧ b ≠ v) ∨ (b = here ∧ r' = r)) := by
  intro b
  by_cases hb : b = v
  · subst hb
    rw [mem_ins, fset_same]
    constructor
    · intro ⟨_, h⟩; cases h
    · rintro (⟨_, h⟩ | ⟨h, _⟩)
      · exact absurd rfl h
      · exact absurd h hv
  · rw [show (b ∈ ins M (fset (fset held here (some r)) v none) r' ↔ b ∈ ins M (fset held here (some r)) r') by rw [mem_ins, mem_ins, fset_ne hb], ins_take w hA hn r' b]
    constructor
    · rintro (h | h)
      · exact .inl ⟨h, hb⟩
      · exact .inr h
    · rintro (⟨h, _⟩ | h)
      · exact .inl h
      · exact .inr h
theorem ins_swap_len {M : Mkt α β} (w : M.WF) {held : α → Option β} {here v : α} {r : β} (hA : here ∈ M.A) (hn : held here = none) (hv : v ≠ here) (hvi : v ∈ ins M held r) :
    (ins M (fset (fset held here (some r)) v none) r).length = (ins M held r).length := by
  have h1 : here ∉ (ins M held r).erase v := fun z => by
    have := (mem_ins.mp (List.mem_of_mem_erase z)).2
    rw [hn] at this
    cases this
  have nd : ((ins M held r).erase v).Nodup := (ins_nodup w).erase v
  have := nodup_same_len (ins_nodup w (μ := fset (fset held here (some r)) v none) (r := r)) (List.nodup_cons.mpr ⟨h1, nd⟩) fun x => by
    rw [ins_swap w hA hn hv hvi r x, List.mem_cons, (ins_nodup w).mem_erase_iff]
    constructor
    · rintro (⟨h, h2⟩ | ⟨h, _⟩)
      · exact .inr ⟨h2, h⟩
      · exact .inl h
    · rintro (h | ⟨h2, h⟩)
      · exact .inr ⟨h, rfl⟩
      · exact .inl ⟨h, h2⟩
  rw [this, List.length_cons, List.length_erase_of_mem hvi]
  have := List.length_pos_of_mem hvi
  omega

/-- an ask keeps it -/
theorem ask_da {M : Mkt α β} (w : M.WF) {held held' : α → Option β} {next : α → Nat} {here : α} {r : β} {out : Option α} (D : DA M held next) (hA : here ∈ M.A) (hn : held here = none)
    (hr : (M.lst here)[next here]? = some r) (O : AskOut M held here r out held') : DA M held' (fset next here (next here + 1)) := by
  obtain ⟨hidx, hlen, hrl⟩ := idx_of_get? (w.lst here hA) hr
  -- the refusals of here ahead of r
  have hereRej : ∀ r', M.likes here r' → (M.lst here).idxOf r' < (M.lst here).idxOf r → Rej M here r' := fun r' l z =>
    (D.rj here r' l (by omega) (by rw [hn]; simp)).1
  have oldRej : ∀ b ∈ ins M held r, ∀ r', M.likes b r' → (M.lst b).idxOf r' < (M.lst b).idxOf r → Rej M b r' := fun b hb r' l z => by
    obtain ⟨hbA, hbr⟩ := mem_ins.mp hb
    have h1 := (D.hd b hbA r hbr).2
    refine (D.rj b r' l (by omega) fun e => ?_).1
    rw [hbr] at e
    rw [Option.some.inj e] at z
    exact Nat.lt_irrefl _ z
  have nxt : ∀ a ∈ M.A, fset next here (next here + 1) a ≤ (M.lst a).length := fun a ha => by
    by_cases e : a = here
    · subst e; rw [fset_same]; omega
    · rw [fset_ne e]; exact D.nx a ha
  cases O with
  | self full =>
    refine ⟨fun a ha r' h => ?_, nxt, D.cap, fun a r' l z h => ?_⟩
    · have ne : a ≠ here := fun e => by rw [e, hn] at h; cases h
      rw [fset_ne ne]
      exact D.hd a ha r' h
    · by_cases e : a = here
      · subst e
        rw [fset_same] at z
        by_cases e2 : r' = r
        · subst e2
          have f := full l
          have cap := D.cap r'
          refine ⟨.mk a r' (ins M held r') (ins_nodup w) (Nat.le_antisymm cap f.1) (fun b hb => ⟨?_, f.2 b hb⟩) oldRej, f⟩
          obtain ⟨hbA, hbr⟩ := mem_ins.mp hb
          exact (D.hd b hbA r' hbr).1
        · have n2 : (M.lst a).idxOf r' ≠ (M.lst a).idxOf r := fun q => e2 (idx_inj l.2.2.1 q)
          exact D.rj a r' l (by omega) h
      · rw [fset_ne e] at z
        exact D.rj a r' l z h
  | take lk few =>
    have mem := ins_take w hA hn (r := r)
    refine ⟨fun a ha r' h => ?_, nxt, fun r' => ?_, fun a r' l z h => ?_⟩
    · by_cases e : a = here
      · subst e
        rw [fset_same] at h ⊢
        have e2 := Option.some.inj h
        subst e2
        exact ⟨lk, by omega⟩
      · rw [fset_ne e] at h ⊢
        exact D.hd a ha r' h
    · by_cases e : r' = r
      · subst e
        rw [ins_take_len w hA hn]
        omega
      · have : (ins M (fset held here (some r)) r').length = (ins M held r').length := nodup_same_len (ins_nodup w) (ins_nodup w) fun x => by
          rw [mem r' x]
          constructor
          · rintro (h | ⟨_, h⟩)
            · exact h
            · exact absurd h e
          · intro h; exact .inl h
        rw [this]
        exact D.cap r'
    · have old : M.likes a r' → (M.lst a).idxOf r' < next a → held a ≠ some r' → r' ≠ r → Rej M a r' ∧ Full M (fset held here (some r)) a r' := fun l z h ne => by
        obtain ⟨h1, h2, h3⟩ := D.rj a r' l z h
        refine ⟨h1, ?_, fun b hb => h3 b ?_⟩
        · refine Nat.le_trans h2 (nodup_sub_len (ins_nodup w) fun x hx => ?_)
          exact (mem r' x).mpr (.inl hx)
        · rcases (mem r' b).mp hb with q | ⟨_, q⟩
          · exact q
          · exact absurd q ne
      by_cases e : a = here
      · subst e
        rw [fset_same] at z h
        have ne : r' ≠ r := fun q => h (by rw [q])
        have n2 : (M.lst a).idxOf r' ≠ (M.lst a).idxOf r := fun q => ne (idx_inj l.2.2.1 q)
        exact old l (by omega) (by rw [hn]; simp) ne
      · rw [fset_ne e] at z h
        by_cases ne : r' = r
        · subst ne
          have := (D.rj a r' l z h).2.1
          omega
        · exact old l z h ne
  | swap v lk hv hvi fl bt best =>
    have mem := ins_swap w hA hn hv hvi
    have ln := ins_swap_len w hA hn hv hvi
    obtain ⟨hvA, hvr⟩ := mem_ins.mp hvi
    have cap := D.cap r
    have ins' : ∀ r', r' ≠ r → (ins M (fset (fset held here (some r)) v none) r').length = (ins M held r').length := fun r' ne => nodup_same_len (ins_nodup w) (ins_nodup w) fun x => by
      rw [mem r' x]
      constructor
      · rintro (⟨h, _⟩ | ⟨_, h⟩)
        · exact h
        · exact absurd h ne
      · intro h
        refine .inl ⟨h, fun z => ?_⟩
        rw [z] at h
        have := (mem_ins.mp h).2
        rw [hvr] at this
        exact ne (Option.some.inj this).symm
    refine ⟨fun a ha r' h => ?_, nxt, fun r' => ?_, fun a r' l z h => ?_⟩
    · by_cases e : a = v
      · subst e; rw [fset_same] at h; cases h
      · rw [fset_ne e] at h
        by_cases e2 : a = here
        · subst e2
          rw [fset_same] at h ⊢
          have e3 := Option.some.inj h
          subst e3
          exact ⟨lk, by omega⟩
        · rw [fset_ne e2] at h ⊢
          exact D.hd a ha r' h
    · by_cases e : r' = r
      · subst e; rw [ln]; exact cap
      · rw [ins' r' e]; exact D.cap r'
    · -- v at r; others
      by_cases e2 : r' = r
      · subst e2
        by_cases e : a = v
        · subst e
          have ful : Full M (fset (fset held here (some r')) a none) a r' := by
            refine ⟨by rw [ln]; exact fl, fun b hb => ?_⟩
            rcases (mem r' b).mp hb with ⟨q1, q2⟩ | ⟨q, _⟩
            · exact best b q1 q2
            · rw [q]; exact bt
          refine ⟨.mk a r' (ins M (fset (fset held here (some r')) a none) r') (ins_nodup w) (by rw [ln]; exact Nat.le_antisymm cap fl) (fun b hb => ⟨?_, ful.2 b hb⟩) (fun b hb r2 l2 z2 => ?_), ful⟩
          · rcases (mem r' b).mp hb with ⟨q1, q2⟩ | ⟨q, _⟩
            · obtain ⟨hbA, hbr⟩ := mem_ins.mp q1
              exact (D.hd b hbA r' hbr).1
            · rw [q]; exact lk
          · rcases (mem r' b).mp hb with ⟨q1, q2⟩ | ⟨q, _⟩
            · exact oldRej b q1 r2 l2 z2
            · subst q; exact hereRej r2 l2 z2
        · have e3 : a ≠ here := fun q => by
            subst q
            rw [fset_ne e, fset_same] at h
            exact h rfl
          rw [fset_ne e3] at z
          rw [fset_ne e, fset_ne e3] at h
          obtain ⟨h1, h2, h3⟩ := D.rj a r' l z h
          refine ⟨h1, by rw [ln]; exact h2, fun b hb => ?_⟩
          rcases (mem r' b).mp hb with ⟨q1, _⟩ | ⟨q, _⟩
          · exact h3 b q1
          · rw [q]
            exact Nat.lt_trans bt (h3 v hvi)
      · have old : (M.lst a).idxOf r' < next a → held a ≠ some r' → Rej M a r' ∧ Full M (fset (fset held here (some r)) v none) a r' := fun z h => by
          obtain ⟨h1, h2, h3⟩ := D.rj a r' l z h
          refine ⟨h1, by rw [ins' r' e2]; exact h2, fun b hb => h3 b ?_⟩
          rcases (mem r' b).mp hb with ⟨q1, _⟩ | ⟨_, q⟩
          · exact q1
          · exact absurd q e2
        by_cases e3 : a = here
        · subst e3
          rw [fset_same] at z
          have n2 : (M.lst a).idxOf r' ≠ (M.lst a).idxOf r := fun q => e2 (idx_inj l.2.2.1 q)
          exact old (by omega) (by rw [hn]; simp)
        · rw [fset_ne e3] at z
          by_cases e : a = v
          · subst e
            refine old z ?_
            rw [hvr]
            exact fun q => e2 (Option.some.inj q).symm
          · rw [fset_ne e, fset_ne e3] at h
            exact old z h

/-- behind it all -/
structure Fin (M : Mkt α β) (held : α → Option β) : Prop where
  hd : ∀ a ∈ M.A, ∀ r, held a = some r → M.likes a r
  cap : ∀ r, (ins M held r).length ≤ M.q r
  rj : ∀ a r, M.likes a r → (M.lst a).idxOf r < pl (M.lst a) (held a) → Rej M a r ∧ Full M held a r
theorem DA.pl_le {M : Mkt α β} {held : α → Option β} {next : α → Nat} (D : DA M held next) (S : Settled M held next) {a : α} (ha : a ∈ M.A) : pl (M.lst a) (held a) ≤ next a := by
  cases e : held a with
  | none => rw [S a ha e]; exact Nat.le_refl _
  | some r => rw [(D.hd a ha r e).2]; exact Nat.le_succ _
theorem pl_ne {l : List β} {x : Option β} {r : β} (h : l.idxOf r < pl l x) : x ≠ some r := fun e => by
  rw [e] at h
  exact Nat.lt_irrefl _ h
theorem DA.fin {M : Mkt α β} {held : α → Option β} {next : α → Nat} (D : DA M held next) (S : Settled M held next) : Fin M held :=
  ⟨fun a ha r h => (D.hd a ha r h).1, D.cap, fun a r l z => D.rj a r l (Nat.lt_of_lt_of_le z (D.pl_le S l.1)) (pl_ne z)⟩
theorem Fin.stable {M : Mkt α β} {held : α → Option β} (F : Fin M held) : Stable M held := ⟨F.hd, F.cap, fun a r l z => (F.rj a r l z).2⟩
theorem Fin.best {M : Mkt α β} {held μ : α → Option β} (F : Fin M held) (S : Stable M μ) {a : α} (ha : a ∈ M.A) : pl (M.lst a) (held a) ≤ pl (M.lst a) (μ a) := by
  apply Classical.byContradiction
  intro h
  have h : pl (M.lst a) (μ a) < pl (M.lst a) (held a) := Nat.lt_of_not_le h
  cases e : μ a with
  | none =>
    rw [e] at h
    cases e2 : held a with
    | none => rw [e2] at h; exact Nat.lt_irrefl _ h
    | some r =>
      rw [e2] at h
      have h2 : (M.lst a).length < (M.lst a).idxOf r := h
      have h3 : (M.lst a).idxOf r ≤ (M.lst a).length := List.idxOf_le_length
      omega
  | some r =>
    rw [e] at h
    exact rej_sound S (F.rj a r (S.ir a ha r e) h).1 ha e

/-! ### a deed -/
structure Deed (M M' : Mkt α β) (P : α → Prop) : Prop where
  c1 : ∀ a ∈ M'.A, ¬ P a → a ∈ M.A ∧ M'.lst a = M.lst a
  c2 : ∀ a ∈ M'.A, ¬ P a → ∀ r, M'.likes a r ↔ M.likes a r
  c3 : ∀ a ∈ M'.A, ¬ P a → ∀ r, M.likes a r → M'.ord r = M.ord r ∧ M'.q r = M.q r ∧ ∀ h, M.likes h r → h ∈ M'.A ∧ ¬ P h
theorem Deed.rej {M M' : Mkt α β} {P : α → Prop} (d : Deed M M' P) {a : α} {r : β} (h : Rej M a r) : M.likes a r → a ∈ M'.A → ¬ P a → Rej M' a r := by
  induction h with
  | mk a r S nd len by_ up ih =>
    intro l hA hP
    obtain ⟨e1, e2, e3⟩ := d.c3 a hA hP r l
    refine .mk a r S nd (by rw [e2]; exact len) (fun b hb => ?_) fun b hb r' l' z => ?_
    · obtain ⟨lb, bt⟩ := by_ b hb
      obtain ⟨hbA, hbP⟩ := e3 b lb
      refine ⟨(d.c2 b hbA hbP r).mpr lb, ?_⟩
      show (M'.ord r).idxOf b < (M'.ord r).idxOf a
      rw [e1]; exact bt
    · obtain ⟨lb, bt⟩ := by_ b hb
      obtain ⟨hbA, hbP⟩ := e3 b lb
      have l2 := (d.c2 b hbA hbP r').mp l'
      rw [(d.c1 b hbA hbP).2] at z
      exact ih b hb r' l2 z l2 hbA hbP
theorem deed_da {M M' : Mkt α β} {P : α → Prop} [DecidablePred P] (w : M.WF) (w' : M'.WF) (d : Deed M M' P) {held held' : α → Option β} {next next' : α → Nat} (D : DA M held next)
    (hh : ∀ a ∈ M'.A, held' a = if P a then none else held a) (hx : ∀ a ∈ M'.A, next' a = if P a then 0 else next a) : DA M' held' next' := by
  have mem : ∀ {b r}, b ∈ ins M' held' r → ¬ P b ∧ b ∈ ins M held r ∧ M.likes b r := fun {b r} h => by
    obtain ⟨h1, h2⟩ := mem_ins.mp h
    rw [hh b h1] at h2
    by_cases p : P b
    · rw [if_pos p] at h2; cases h2
    · rw [if_neg p] at h2
      have hbA := (d.c1 b h1 p).1
      exact ⟨p, mem_ins.mpr ⟨hbA, h2⟩, (D.hd b hbA r h2).1⟩
  have same : ∀ {a r}, a ∈ M'.A → ¬ P a → M.likes a r → ∀ b, b ∈ ins M' held' r ↔ b ∈ ins M held r := fun {a r} hA hP l b => by
    constructor
    · exact fun h => (mem h).2.1
    · intro h
      obtain ⟨h1, h2⟩ := mem_ins.mp h
      obtain ⟨q1, q2⟩ := (d.c3 a hA hP r l).2.2 b (D.hd b h1 r h2).1
      exact mem_ins.mpr ⟨q1, by rw [hh b q1, if_neg q2]; exact h2⟩
  refine ⟨fun a ha r h => ?_, fun a ha => ?_, fun r => ?_, fun a r l z h => ?_⟩
  · rw [hh a ha] at h
    by_cases p : P a
    · rw [if_pos p] at h; cases h
    · rw [if_neg p] at h
      obtain ⟨h1, h2⟩ := d.c1 a ha p
      obtain ⟨q1, q2⟩ := D.hd a h1 r h
      exact ⟨(d.c2 a ha p r).mpr q1, by rw [hx a ha, if_neg p, h2]; exact q2⟩
  · rw [hx a ha]
    by_cases p : P a
    · rw [if_pos p]; exact Nat.zero_le _
    · rw [if_neg p]
      obtain ⟨h1, h2⟩ := d.c1 a ha p
      rw [h2]; exact D.nx a h1
  · cases e : ins M' held' r with
    | nil => exact Nat.zero_le _
    | cons b t =>
      have hb : b ∈ ins M' held' r := by rw [e]; exact List.mem_cons_self
      have hbA := (mem_ins.mp hb).1
      obtain ⟨p, q1, q2⟩ := mem hb
      rw [← e, nodup_same_len (ins_nodup w') (ins_nodup w) (same hbA p q2), (d.c3 b hbA p r q2).2.1]
      exact D.cap r
  · have hA := l.1
    by_cases p : P a
    · rw [hx a hA, if_pos p] at z
      exact absurd z (Nat.not_lt_zero _)
    · rw [hx a hA, if_neg p, (d.c1 a hA p).2] at z
      rw [hh a hA, if_neg p] at h
      have l2 := (d.c2 a hA p r).mp l
      obtain ⟨h1, h2, h3⟩ := D.rj a r l2 z h
      obtain ⟨e1, e2, _⟩ := d.c3 a hA p r l2
      refine ⟨d.rej h1 l2 hA p, ?_, fun b hb => ?_⟩
      · rw [e2, nodup_same_len (ins_nodup w') (ins_nodup w) (same hA p l2)]
        exact h2
      · show (M'.ord r).idxOf b < (M'.ord r).idxOf a
        rw [e1]
        exact h3 b ((same hA p l2 b).mp hb)

/-! ### a wish that is the same up to what is held -/
theorem idx_take {l l' : List β} {n : Nat} {r : β} (h : l'.take n = l.take n) (hr : l.idxOf r < n) (hrl : r ∈ l) : r ∈ l' ∧ l'.idxOf r = l.idxOf r := by
  have e : ∀ (l : List β), r ∈ l.take n → l.idxOf r = (l.take n).idxOf r := fun l hm => by
    conv => lhs; rw [← List.take_append_drop n l]
    rw [List.idxOf_append, if_pos hm]
  have hm : r ∈ l.take n := by
    have h3 := List.idxOf_lt_length_of_mem hrl
    have e1 : (l.take n)[l.idxOf r]'(by rw [List.length_take]; omega) = r := by rw [List.getElem_take]; exact List.getElem_idxOf h3
    rw [← e1]; exact List.getElem_mem _
  have hm' : r ∈ l'.take n := by rw [h]; exact hm
  exact ⟨List.mem_of_mem_take hm', by rw [e l' hm', e l hm, h]⟩
theorem idx_take_lt {l l' : List β} {n : Nat} {r r' : β} (h : l'.take n = l.take n) (hr : l.idxOf r < n) (hrl : r ∈ l) (hr' : r' ∈ l') (hz : l'.idxOf r' < l'.idxOf r) : r' ∈ l ∧ l.idxOf r' = l'.idxOf r' := by
  have h1 := (idx_take h hr hrl).2
  have := idx_take (l := l') (l' := l) h.symm (r := r') (by omega) hr'
  exact this
theorem wish_da {M M' : Mkt α β} (w : M.WF) (w' : M'.WF) {held : α → Option β} {next : α → Nat} (D : DA M held next) (S : Settled M held next) {z : α} {r0 : β} (hz : z ∈ M.A) (hr0 : held z = some r0)
    (eA : M'.A = M.A) (eR : M'.R = M.R) (eo : M'.ord = M.ord) (eq : M'.q = M.q) (el : ∀ a ∈ M.A, a ≠ z → M'.lst a = M.lst a) (ez : (M'.lst z).take (next z) = (M.lst z).take (next z)) : DA M' held next ∧ Settled M' held next := by
  have st := (D.fin S).stable
  have hnz := (D.hd z hz r0 hr0).2
  have lz0 := (D.hd z hz r0 hr0).1
  have lk : ∀ a r, a ≠ z → (M'.likes a r ↔ M.likes a r) := fun a r ne => by
    unfold Mkt.likes
    rw [eA, eR, eo]
    constructor
    · rintro ⟨h1, h2, h3, h4⟩; rw [el a h1 ne] at h3; exact ⟨h1, h2, h3, h4⟩
    · rintro ⟨h1, h2, h3, h4⟩; exact ⟨h1, h2, by rw [el a h1 ne]; exact h3, h4⟩
  -- of z: what stands up to r0
  have lkz : ∀ r, M.likes z r → (M.lst z).idxOf r < next z → M'.likes z r ∧ (M'.lst z).idxOf r = (M.lst z).idxOf r := fun r l h => by
    obtain ⟨h1, h2⟩ := idx_take ez h l.2.2.1
    exact ⟨⟨by rw [eA]; exact l.1, by rw [eR]; exact l.2.1, h1, by rw [eo]; exact l.2.2.2⟩, h2⟩
  have lkz' : ∀ r, M'.likes z r → (M'.lst z).idxOf r < next z → M.likes z r ∧ (M.lst z).idxOf r = (M'.lst z).idxOf r := fun r l h => by
    obtain ⟨h1, h2⟩ := idx_take (l := M'.lst z) (l' := M.lst z) ez.symm h l.2.2.1
    exact ⟨⟨by rw [← eA]; exact l.1, by rw [← eR]; exact l.2.1, h1, by rw [← eo]; exact l.2.2.2⟩, h2⟩
  have rej : ∀ a r, Rej M a r → Rej M' a r := by
    intro a r h
    induction h with
    | mk a r S nd len by_ up ih =>
      -- z as a holder: r stands no further than r0
      have hzS : z ∈ S → (M.lst z).idxOf r < next z := fun hS => by
        apply Classical.byContradiction
        intro hc
        have := up z hS r0 lz0 (by omega)
        exact rej_sound st this hz hr0
      have hb' : ∀ b ∈ S, M'.likes b r := fun b hb => by
        by_cases e : b = z
        · subst e; exact (lkz r (by_ b hb).1 (hzS hb)).1
        · exact (lk b r e).mpr (by_ b hb).1
      refine .mk a r S nd (by rw [eq]; exact len) (fun b hb => ⟨hb' b hb, ?_⟩) fun b hb r' l' z' => ?_
      · show (M'.ord r).idxOf b < (M'.ord r).idxOf a
        rw [eo]; exact (by_ b hb).2
      · by_cases e : b = z
        · subst e
          have h1 := hzS hb
          have h2 := (lkz r (by_ b hb).1 h1).2
          obtain ⟨h3, h4⟩ := lkz' r' l' (by omega)
          exact ih b hb r' h3 (by omega)
        · rw [el b (by_ b hb).1.1 e] at z'
          exact ih b hb r' ((lk b r' e).mp l') z'
  have ei : ∀ r, ins M' held r = ins M held r := fun r => by unfold ins; rw [eA]
  refine ⟨⟨fun a ha r h => ?_, fun a ha => ?_, fun r => by rw [ei, eq]; exact D.cap r, fun a r l h1 h2 => ?_⟩, fun a ha h => ?_⟩
  · rw [eA] at ha
    obtain ⟨q1, q2⟩ := D.hd a ha r h
    by_cases e : a = z
    · subst e
      obtain ⟨h1, h2⟩ := lkz r q1 (by omega)
      exact ⟨h1, by omega⟩
    · exact ⟨(lk a r e).mpr q1, by rw [el a ha e]; exact q2⟩
  · rw [eA] at ha
    by_cases e : a = z
    · subst e
      obtain ⟨h1, h2⟩ := lkz r0 lz0 (by omega)
      have := List.idxOf_lt_length_of_mem h1.2.2.1
      omega
    · rw [el a ha e]; exact D.nx a ha
  · have fin : M.likes a r → (M.lst a).idxOf r < next a → Rej M' a r ∧ Full M' held a r := fun l h => by
      obtain ⟨q1, q2, q3⟩ := D.rj a r l h h2
      refine ⟨rej a r q1, by rw [ei, eq]; exact q2, fun b hb => ?_⟩
      rw [ei] at hb
      show (M'.ord r).idxOf b < (M'.ord r).idxOf a
      rw [eo]; exact q3 b hb
    by_cases e : a = z
    · subst e
      obtain ⟨h3, h4⟩ := lkz' r l h1
      exact fin h3 (by omega)
    · have hA : a ∈ M.A := by rw [← eA]; exact l.1
      rw [el a hA e] at h1
      exact fin ((lk a r e).mp l) h1
  · rw [eA] at ha
    have e : a ≠ z := fun q => by rw [q, hr0] at h; cases h
    rw [el a ha e]; exact S a ha h
end PM

/-! M2: asking by numbers: runs, their papers. Plain Lean. -/
namespace PM
theorem getD_set {α : Type} {l : List α} {k : Nat} {v d : α} (h : k < l.length) : (fun j => (l.set k v).getD j d) = fset (fun j => l.getD j d) k v := by
  funext j
  simp only [List.getD_eq_getElem?_getD, List.getElem?_set]
  by_cases e : j = k
  · subst e; simp [h, fset_same]
  · rw [if_neg (Ne.symm e), fset_ne e]
theorem sum_lt {α : Type} {f g : α → Nat} : ∀ {l : List α}, (∀ i ∈ l, g i ≤ f i) → (∃ i ∈ l, g i < f i) → (l.map g).sum < (l.map f).sum
  | [], _, h => by obtain ⟨i, hi, _⟩ := h; cases hi
  | a :: r, h1, h2 => by
    simp only [List.map_cons, List.sum_cons]
    have ha := h1 a List.mem_cons_self
    have hr : (r.map g).sum ≤ (r.map f).sum := by
      have : ∀ l : List α, (∀ i ∈ l, g i ≤ f i) → (l.map g).sum ≤ (l.map f).sum := by
        intro l
        induction l with
        | nil => intro _; exact Nat.le_refl _
        | cons b t ih =>
          intro h
          simp only [List.map_cons, List.sum_cons]
          have := h b List.mem_cons_self
          have := ih fun i hi => h i (List.mem_cons_of_mem _ hi)
          omega
      exact this r fun i hi => h1 i (List.mem_cons_of_mem _ hi)
    obtain ⟨i, hi, hlt⟩ := h2
    rcases List.mem_cons.mp hi with rfl | hi
    · omega
    · have := sum_lt (l := r) (fun i hi => h1 i (List.mem_cons_of_mem _ hi)) ⟨i, hi, hlt⟩
      omega
theorem snoc_ind {α : Type} {P : List α → Prop} (h0 : P []) (hs : ∀ l a, P l → P (l ++ [a])) (l : List α) : P l := by
  have : ∀ r : List α, P r.reverse := by
    intro r
    induction r with
    | nil => exact h0
    | cons a r ih => rw [List.reverse_cons]; exact hs _ _ ih
  have h := this l.reverse
  rwa [List.reverse_reverse] at h
end PM

set_option Elab.async false
set_option linter.all false
set_option maxRecDepth 100000
set_option maxHeartbeats 2000000
/-! GX: any, all of a generator expression over anything that is walked; the element may call. -/
namespace GX
open PySem PySem.Spec PyProof.Rows L2 GenW GxR

theorem over_comp {A : Around} {elt : Expr} {gens : List Comprehension} {sc : Scope} {pos : Pos} {it acc : Value} {env : Env} : A.over (.compLoop (.GeneratorExp elt gens sc pos) 0 it acc env) [] = A.deeper env := by
  first
    | rfl
    | (obtain ⟨hd, d, fr, gs, u⟩ := A; simp [Around.over, Around.deeper, marksOver, frameCount, unitsOf, envsOf, guardsOf, pushEnvs, pushGuards, Code.envs, Code.env?, Code.isFrame, Code.guards, Code.isGuard, Code.weight, Code.frames, Code.isCreation, Code.isCaller, Code.cUnits])
theorem over_start {A : Around} {elt : Expr} {gens : List Comprehension} {sc : Scope} {pos : Pos} {it acc : Value} {env : Env} : A.over (.compStart (.GeneratorExp elt gens sc pos) 0 it acc env) [] = A.deeper env := by
  first
    | rfl
    | (obtain ⟨hd, d, fr, gs, u⟩ := A; simp [Around.over, Around.deeper, marksOver, frameCount, unitsOf, envsOf, guardsOf, pushEnvs, pushGuards, Code.envs, Code.env?, Code.isFrame, Code.guards, Code.isGuard, Code.weight, Code.frames, Code.isCreation, Code.isCaller, Code.cUnits])

/-- the same heap, other generators -/
theorem Inv.regen {X : Cx} {pins : List (Addr × Obj)} {σ : L2.St} {H : Hp} {s s' : Shared} (I : Inv X pins σ H s) (hh : s'.heap = s.heap) (ho : s'.os = s.os) (hb : AllBare s'.gens) : Inv X pins σ H s' := by
  refine ⟨I.ok, ho.trans I.os, hb, ?_, ?_, ?_, I.free, I.freeC, ?_, ?_, I.len⟩
  · rw [hh]; exact I.base
  · rw [hh]; exact I.loc
  · rw [hh]; exact I.cell
  · rw [hh]; exact I.pin
  · rw [hh]; exact I.hok

/-- the generator expression's own names: x, «.0»; captured ones that the def has -/
structure GSc (N : List Str) (sc scope : Scope) (x : Str) (ix : Nat) : Prop where
  kind : scope.kind = .function
  co : scope.isCoroutine = false
  cell : ∀ y ∈ scope.names, y.2 ≠ .cell
  dot : scope.names.lookup (".0" : Str) = some NameKind.local
  loc : scope.names.lookup x = some .local
  own : ∀ y ∈ scope.names, y.2 = .local → y.1 = x ∨ y.1 = ".0"
  free : ∀ y ∈ scope.names, y.2 = .free → sc.names.lookup y.1 = some .cell ∨ sc.names.lookup y.1 = some .free
  nd : N.Nodup
  ix : N[ix]? = some x
  nodot : (".0" : Str) ∉ N
def gScB (N : List Str) (sc scope : Scope) (x : Str) (ix : Nat) : Bool :=
  decide (scope.kind = .function) && !scope.isCoroutine && decide (scope.names.lookup (".0" : Str) = some NameKind.local) && decide (scope.names.lookup x = some .local) &&
  (scope.names.all fun y => !decide (y.2 = .cell) && (!decide (y.2 = .local) || decide (y.1 = x) || decide (y.1 = ".0")) && (!decide (y.2 = .free) || decide (sc.names.lookup y.1 = some .cell) || decide (sc.names.lookup y.1 = some .free))) &&
  decide N.Nodup && decide (N[ix]? = some x) && decide ((".0" : Str) ∉ N)
theorem gsc_by {N : List Str} {sc scope : Scope} {x : Str} {ix : Nat} (h : gScB N sc scope x ix = true) : GSc N sc scope x ix := by
  unfold gScB at h
  simp only [Bool.and_eq_true, Bool.or_eq_true, Bool.not_eq_true', decide_eq_true_eq, decide_eq_false_iff_not, List.all_eq_true] at h
  obtain ⟨⟨⟨⟨⟨⟨⟨h1, h2⟩, h3⟩, h4⟩, h5⟩, h6⟩, h7⟩, h8⟩ := h
  refine ⟨h1, h2, fun y hy => (h5 y hy).1.1, h3, h4, fun y hy e => ?_, fun y hy e => ?_, h6, h7, h8⟩
  · rcases (h5 y hy).1.2 with (z | z) | z
    · exact absurd e z
    · exact .inl z
    · exact .inr z
  · rcases (h5 y hy).2 with (z | z) | z
    · exact absurd e z
    · exact .inl z
    · exact .inr z

abbrev gEnv (X : Cx) (scope : Scope) (C : Addr) (code : Value) : Env := genEnv scope (cloFrom X.env.cells scope.names []) C code builtinsNs X.env
/-- the generator's frame, woken from the def -/
def genCx (X : Cx) (A : Around) (cenv : Env) (s : Shared) (H : Hp) (fp : List Addr) : Cx :=
  { X with A := A.deeper cenv, s_0 := s, H_0 := H, env := cenv, outer := X.stack, stack := cenv :: X.stack, ex := fp, fn := fun _ => false, calm := true, pn := [], xe := fun _ _ => False }

section
variable {X : Cx} {pins : List (Addr × Obj)} {σ : L2.St} {H : Hp} {s : Shared}
theorem GSc.has {scope : Scope} {x : Str} {ix : Nat} (S : GSc X.N X.env.scope scope x ix) (ok : X.Ok) : ∀ y ∈ scope.names, y.2 = .free → ∃ c, X.env.cells.lookup y.1 = some c := fun y hy e => by
  rcases S.free y hy e with k | k
  · exact ok.has _ (.inl k)
  · exact ok.has _ (.inr k)
/-- the frame as it is made: the generator's object at a -/
theorem gen_start {scope : Scope} {x : Str} {ix : Nat} {code : Value} {fp : List Addr} {A : Around} {h5 : Heap} {a : Addr} {go : Obj} {it : Value} {gs : Array GenState} {tk : Nat} (I : Inv X pins σ H s) (S : GSc X.N X.env.scope scope x ix) (hd : A.handled = none) (hfr : A.frames = some X.stack)
    (hfp : ∀ b ∈ fp, FpOk X pins H b ∧ b < s.heap.objs.size) (hns : h5.Ns s.heap.objs.size fun y => if y = ".0" then some it else none) (kp : ∀ b o, s.heap.get? b = some o → h5.get? b = some o)
    (ha : s.heap.objs.size < a) (hga : h5.get? a = some go) (hgc : ∀ v, go.data ≠ .cell v) (hb : AllBare gs) :
    Inv (genCx X A (gEnv X scope s.heap.objs.size code) s H fp) [(a, go)] (σ.set ix none) H { s with gens := gs, heap := h5, toks := tk } := by
  have hfree := S.has I.ok
  have cm : ∀ {y c}, (cloFrom X.env.cells scope.names []).lookup y = some c → X.env.cells.lookup y = some c := fun {y c} e => by
    rcases cloFrom_mem (PySem.mem_of_lookup e) with hm | ⟨h1, h2⟩
    · cases hm
    · obtain ⟨c1, hc⟩ := hfree _ h1 rfl
      have hc : X.env.cells.lookup y = some c1 := hc
      have e2 : c = c1 := by
        rw [h2, hc] <;> rfl
      rw [e2]
      exact hc
  have look : ∀ {y}, scope.names.lookup y = some .free → ∃ c, (cloFrom X.env.cells scope.names []).lookup y = some c := fun {y} hl => by
    have hy : (y, NameKind.free) ∈ scope.names := PySem.mem_of_lookup hl
    exact mem_lookup (cloFrom_has (cells := X.env.cells) (acc := []) hy)
  have cellK : ∀ {c : Addr} {v : Option Value}, s.heap.IsCell c v → h5.IsCell c v := fun {c v} ⟨o, ho, hd⟩ => ⟨o, kp _ _ ho, hd⟩
  refine ⟨⟨I.ok.mod, S.kind, I.ok.glob, rfl, Nat.le_refl _, fun y z c e1 e2 => I.ok.inj y z c (cm e1) (cm e2), fun y hy => ?_, fun y c z _ => ?_, fun _ => hd, Around.frames_deeper hfr, .inr ⟨rfl, rfl⟩, fun b hb => ⟨?_, fun y c e z => ?_⟩, I.bs, Nat.le_trans I.ok.bsz I.sz, fun b o e hb => ?_,
      fun b hb z => ?_, I.stack, I.stkFree⟩,
    rfl, hb, Un.kept kp, ⟨_, hns, fun i y v e1 e2 e3 => ?_⟩, fun y c e => ?_, I.hok.fresh (Nat.le_refl _), fun y c e => ?_, fun q hq => ?_, I.hok.kept kp, by rw [List.length_set]; exact I.len⟩
  · have hy : scope.names.lookup y = some .cell ∨ scope.names.lookup y = some .free := hy
    rcases hy with hy | hy
    · exact absurd rfl (S.cell _ (PySem.mem_of_lookup hy))
    · exact look hy
  · have z : false = true := z
    cases z
  · exact Nat.ne_of_lt (hfp b hb).2
  · exact (hfp b hb).1.2.2.2.2.1 y c (cm e) z
  · rcases (hfp b hb).1.2.2.2.1 with z | z
    · exact I.ok.noex b o e z
    · exact absurd (Nat.lt_of_lt_of_le (Nat.lt_of_lt_of_le (Heap.lt_size e) I.ok.bsz) z) (Nat.lt_irrefl _)
  · have z : b ∈ frs X.stack := z
    rcases List.mem_cons.mp (I.stkSub b z) with q | q
    · exact (hfp b hb).1.2.1 q
    · exact (hfp b hb).1.2.2.1 q
  · have e3 : Vis scope y := e3
    by_cases hix : ix = i
    · subst hix
      by_cases hl : ix < σ.length
      · rw [List.getElem?_set_self hl] at e2; cases e2
      · rw [List.getElem?_eq_none (by rw [List.length_set]; omega)] at e2; cases e2
    · rw [List.getElem?_set_ne hix] at e2
      rcases e3 with k | k | k
      · rcases S.own _ (PySem.mem_of_lookup k) rfl with z | z
        · have z : y = x := z
          rw [z] at e1
          exact absurd (nodup_ix S.nd S.ix e1) hix
        · have z : y = ".0" := z
          rw [z] at e1
          exact absurd (List.mem_of_getElem? e1) S.nodot
      · exact absurd rfl (S.cell _ (PySem.mem_of_lookup k))
      · obtain ⟨m, hn, hl⟩ := I.loc
        have hvis : Vis X.env.scope y := (S.free _ (PySem.mem_of_lookup k) rfl).elim (fun k => .inr (.inl k)) (fun k => .inr (.inr k))
        obtain ⟨w', r, q⟩ := hl i y v e1 e2 hvis
        obtain ⟨c2, h2⟩ := look k
        refine ⟨w', r, .inr ⟨.inr k, c2, h2, ?_⟩⟩
        have c1 := cm h2
        rcases q with ⟨k', _⟩ | ⟨_, c3, e', z⟩
        · have k' : X.env.scope.names.lookup y = some .local := k'
          rcases S.free _ (PySem.mem_of_lookup k) rfl with k2 | k2 <;> rw [show X.env.scope.names.lookup y = _ from k2] at k' <;> cases k'
        · rw [c1] at e'
          cases e'
          exact cellK z
  · obtain ⟨w', z⟩ := I.cell y c (cm e)
    exact ⟨w', cellK z⟩
  · exact I.freeC y c (cm e)
  · have hq : q ∈ ([] : List (Addr × Obj)) ++ [(a, go)] := hq
    have hq' : q = (a, go) := by simpa using hq
    rw [hq']
    refine ⟨hga, I.hok.fresh (Nat.le_of_lt ha), Nat.ne_of_gt ha, fun z => ?_, hgc⟩
    have z : a ∈ frs X.stack := z
    have hnone := I.stkFree
    obtain ⟨_, o, ho, _⟩ := I.stack.mem z
    exact absurd (Nat.lt_trans (Heap.lt_size ho) ha) (Nat.lt_irrefl _)
end

section
variable {X : Cx} {s4 : Shared} {H4 : Hp} {scope gsc : Scope} {code : Value} {fp : List Addr} {A : Around} {a it : Addr} {go : Obj} {σ : L2.St} {ix k n : Nat} {x : Str} {px gpos : Pos} {elt iter : Expr} {te : TE} {J : It} {G : Hp → Prop} {Y : Nat → Hp → V → Hp → Prop}
  {tn : Nat → Heap → Prop} {Pv : Nat → Hp → Prop} {stop : Bool} {Qs : Hp → Prop}

def yP (Z : Cx) (a : Addr) (go : Obj) (σ : L2.St) (ix n : Nat) (fp : List Addr) (tn : Nat → Heap → Prop) (Pv : Nat → Hp → Prop) (stop : Bool) (Qs : Hp → Prop) : Protocol := fun m s₀ v s kap =>
  ∃ (i : Nat) (b : Bool) (o : Option V) (H' : Hp), m + i = n ∧ i < n ∧ v = .bool b ∧ Inv Z [(a, go)] (σ.set ix o) H' s ∧ tn (i + 1) s.heap ∧ (∀ b ∈ fp, H' b = none) ∧ (if b = stop then Qs H' else Pv (i + 1) H') ∧
    ∀ s'' : Shared, s''.heap = s.heap → s''.os = s.os → AllBare s''.gens → b ≠ stop → kap (.send .none) s''
def rP (Z : Cx) (a : Addr) (go : Obj) (σ : L2.St) (ix n : Nat) (fp : List Addr) (Pv : Nat → Hp → Prop) : Nat → Shared → Shared → Prop := fun m s₀ s =>
  m = 1 ∧ ∃ (o : Option V) (H' : Hp), Inv Z [(a, go)] (σ.set ix o) H' s ∧ (∀ b ∈ fp, H' b = none) ∧ Pv n H'

theorem seg_loopG (S : GSc X.N X.env.scope scope x ix) (hh : A.handled = none) (hW : Walk J n G Y) (T : Turn X.prog X.w X.K (.Name x px) J fp it tn)
    (hfp : ∀ b ∈ fp, b ≠ s4.heap.objs.size ∧ b ∉ frs X.stack ∧ (∀ y c, (cloFrom X.env.cells scope.names []).lookup y = some c → c ≠ b) ∧ b ≠ a)
    (hel : PE (genCx X A (gEnv X scope s4.heap.objs.size code) s4 H4 fp) elt te)
    (hG : ∀ i H, i ≤ n → Pv i H → G H)
    (hs : ∀ i y H H', i < n → Pv i H → Y i H y H' → te (σ.set ix (some y)) H' fun v H'' => ∃ b, v = .bl b ∧ if b = stop then Qs H'' else Pv (i + 1) H'') :
    ∀ (k i : Nat) (s₀ s : Shared) (o : Option V) (H : Hp), n - i = k → i ≤ n → Inv (genCx X A (gEnv X scope s4.heap.objs.size code) s4 H4 fp) [(a, go)] (σ.set ix o) H s → tn i s.heap → (∀ b ∈ fp, H b = none) → Pv i H →
      Seg (model X.prog X.w) A (fun m s₀ r s => r = .ok .next ∧ rP (genCx X A (gEnv X scope s4.heap.objs.size code) s4 H4 fp) a go σ ix n fp Pv m s₀ s)
        (yP (genCx X A (gEnv X scope s4.heap.objs.size code) s4 H4 fp) a go σ ix n fp tn Pv stop Qs) (n - i + 1) s₀
        (.compLoop (.GeneratorExp elt [⟨.Name x px, iter, [], 0⟩] gsc gpos) 0 (.ref it) .none (gEnv X scope s4.heap.objs.size code))
        ((model X.prog X.w).den (.compLoop (.GeneratorExp elt [⟨.Name x px, iter, [], 0⟩] gsc gpos) 0 (.ref it) .none (gEnv X scope s4.heap.objs.size code))) [] s := by
  intro k
  have hov : ∀ {g : Code → Prop}, True := trivial
  have fpk : ∀ {H : Hp} {ps : List (Addr × Obj)}, (∀ p ∈ ps, p.1 = a) → (∀ b ∈ fp, H b = none) → ∀ b ∈ fp, FpOk (genCx X A (gEnv X scope s4.heap.objs.size code) s4 H4 fp) ps H b := fun {H ps} hps hn b hb => by
    obtain ⟨h1, h2, h3, h4⟩ := hfp b hb
    refine ⟨hn b hb, h1, h2, .inl hb, h3, fun p hp => ?_⟩
    have hp : p ∈ ([] : List (Addr × Obj)) ++ ps := hp
    rw [hps p (by simpa using hp)]
    exact Ne.symm h4
  induction k with
  | zero =>
    intro i s₀ s o H hk hi I ht hn hp
    have hin : i = n := by omega
    subst hin
    show Seg _ A _ _ _ s₀ _ ((compTurn (.GeneratorExp elt [⟨.Name x px, iter, [], 0⟩] gsc gpos) 0 (.ref it) .none (gEnv X scope s4.heap.objs.size code)).onRaise (leaving (gEnv X scope s4.heap.objs.size code))) [] s
    rw [compTurn_gen, Sem.onRaise_eq_wrap]
    refine seg_bind_wrap (wpAny_standAt ?_)
    refine seg_bind_wrap ?_
    rw [over_comp]
    refine wpAny_mono (T.done (genCx X A (gEnv X scope s4.heap.objs.size code) s4 H4 fp) rfl rfl rfl rfl i [(a, go)] s (σ.set ix o) H (fun _ _ => False) I (fpk (by simp) hn) ht (hW.stops H (hG i H hi hp))) (fun r s' hr => ?_) (fun _ _ z => z.elim)
    obtain ⟨rfl, I'⟩ := hr
    exact seg_end (.ok .next) ⟨rfl, by rw [Nat.sub_self], o, H, I', hn, hp⟩
  | succ k ih =>
    intro i s₀ s o H hk hi I ht hn hp
    have hlt : i < n := by omega
    obtain ⟨m, hm⟩ : ∃ m, n - i = m := ⟨n - i, rfl⟩
    have hm' : n - (i + 1) + 1 = m := by omega
    rw [hm]
    show Seg _ A _ _ _ s₀ _ ((compTurn (.GeneratorExp elt [⟨.Name x px, iter, [], 0⟩] gsc gpos) 0 (.ref it) .none (gEnv X scope s4.heap.objs.size code)).onRaise (leaving (gEnv X scope s4.heap.objs.size code))) [] s
    rw [compTurn_gen, Sem.onRaise_eq_wrap]
    refine seg_bind_wrap (wpAny_standAt ?_)
    refine seg_bind_wrap ?_
    rw [over_comp]
    refine wpAny_mono (T.item (genCx X A (gEnv X scope s4.heap.objs.size code) s4 H4 fp) rfl rfl rfl rfl i [(a, go)] s (σ.set ix o) H (fun _ _ => False) I (fpk (by simp) hn) ht (hW.goes i H hlt (hG i H hi hp))) (fun r s1 hr => ?_) (fun _ _ z => z.elim)
    obtain ⟨u, rfl, hr⟩ := hr
    refine seg_bind_wrap ?_
    rw [over_comp]
    refine wpAny_mono hr (fun _ s2 hr2 => ?_) (fun _ _ z => z.elim)
    obtain ⟨y, H', I2, ru, hy, ht2, hn2⟩ := hr2
    have hY := hW.yields i H y H' hlt (hG i H hi hp) hy
    have step := hs i y H H' hlt hp hY
    refine seg_bind_wrap ?_
    rw [over_comp]
    have hix : (genCx X A (gEnv X scope s4.heap.objs.size code) s4 H4 fp).N[ix]? = some x := S.ix
    refine wpAny_assign_Name (store_ok2 I2 S.nd hix (Or.inl S.loc) ru (fun s3 I3 hsb => ?_) (Or.inr S.loc))
    obtain ⟨b0, hsb, hb0⟩ := hsb
    have nb0 : ∀ b ∈ fp, b ≠ b0 := fun b hb z => by
      obtain ⟨h1, h2, h3, h4⟩ := hfp b hb
      rcases hb0 with q | q
      · exact h1 (z.trans q)
      · exact h3 x b0 q z.symm
    have ht3 : tn (i + 1) s3.heap := T.keep _ _ _ ht2 fun b hb ob e => (hsb.2 b (nb0 b hb)).trans e
    have eset : (σ.set ix o).set ix (some y) = σ.set ix (some y) := by simp
    rw [eset] at I3
    refine seg_bind_wrap ?_
    simp only [List.forIn_nil]
    refine wpAny_pure ?_
    simp only [if_true]
    have hyo : ∀ v, yieldOut (gEnv X scope s4.heap.objs.size code) v = yieldValue v := fun v => by
      have hco : (gEnv X scope s4.heap.objs.size code).scope.isCoroutine = false := S.co
      simp only [yieldOut, hco, Bool.false_eq_true, if_false]
    simp only [hyo]
    rw [Sem.bind_eq_wrap', Sem.bind_eq_wrap', Sem.wrap_wrap, Sem.wrap_wrap]
    refine seg_wrap ?_
    rw [over_comp]
    -- the iterator's records are pinned while the element is reckoned
    have I4 : Inv (genCx X A (gEnv X scope s4.heap.objs.size code) s4 H4 fp) ((a, go) :: pinsAt fp s3.heap) (σ.set ix (some y)) H' s3 := I3.pins_of fun p hp => by
      rcases List.mem_cons.mp hp with z | z
      · rw [z]
        exact I3.pin (a, go) (List.mem_append_right _ (List.mem_cons_self))
      · obtain ⟨hb, he⟩ := of_pinsAt z
        obtain ⟨h1, h2, h3, h4⟩ := hfp _ hb
        obtain ⟨o', e', nc⟩ := T.obj _ _ ht3 _ hb
        rw [he] at e'
        cases e'
        exact ⟨he, hn2 _ hb, h1, h2, nc⟩
    refine wpAny_mono (hel.run _ s3 _ H' _ I4 step) (fun v s5 hv => ?_) (fun _ _ z => z.elim)
    obtain ⟨vv, H'', I5, rv, b, rfl, hq⟩ := hv
    obtain rfl : v = Value.bool b := rv
    have pin5 : ∀ c ∈ fp, ∀ oc, s3.heap.get? c = some oc → s5.heap.get? c = some oc ∧ H'' c = none := fun c hc oc e => by
      obtain ⟨q1, q2, _⟩ := I5.pin (c, oc) (List.mem_append_right _ (List.mem_cons_of_mem _ (mem_pinsAt hc e)))
      exact ⟨q1, q2⟩
    have ht5 : tn (i + 1) s5.heap := T.keep _ _ _ ht3 fun c hc oc e => (pin5 c hc oc e).1
    have hn5 : ∀ c ∈ fp, H'' c = none := fun c hc => by
      obtain ⟨oc, e, _⟩ := T.obj _ _ ht3 c hc
      exact (pin5 c hc oc e).2
    have I6 : Inv (genCx X A (gEnv X scope s4.heap.objs.size code) s4 H4 fp) [(a, go)] (σ.set ix (some y)) H'' s5 := I5.pins_of fun p hp => by
      rw [List.mem_singleton.mp hp]
      exact I5.pin (a, go) (List.mem_append_right _ (List.mem_cons_self))
    refine seg_at (seg_yield rfl rfl rfl ?_)
    refine ⟨i, b, some y, H'', by omega, hlt, rfl, I6, ht5, hn5, hq, fun s'' e1 e2 e3 hb => ?_⟩
    rw [if_neg hb] at hq
    have loop := ih (i + 1) s'' s'' (some y) H'' (by omega) hlt (Inv.regen I6 e1 e2 e3) (by rw [e1]; exact ht5) hn5 hq
    rw [hm'] at loop
    exact seg_again rfl loop

theorem seg_startG (S : GSc X.N X.env.scope scope x ix) (hh : A.handled = none) (hW : Walk J n G Y) (T : Turn X.prog X.w X.K (.Name x px) J fp it tn)
    (hfp : ∀ b ∈ fp, b ≠ s4.heap.objs.size ∧ b ∉ frs X.stack ∧ (∀ y c, (cloFrom X.env.cells scope.names []).lookup y = some c → c ≠ b) ∧ b ≠ a)
    (hel : PE (genCx X A (gEnv X scope s4.heap.objs.size code) s4 H4 fp) elt te)
    (hG : ∀ i H, i ≤ n → Pv i H → G H)
    (hs : ∀ i y H H', i < n → Pv i H → Y i H y H' → te (σ.set ix (some y)) H' fun v H'' => ∃ b, v = .bl b ∧ if b = stop then Qs H'' else Pv (i + 1) H'')
    (s₀ s : Shared) (H : Hp) (o : Option V) (I : Inv (genCx X A (gEnv X scope s4.heap.objs.size code) s4 H4 fp) [(a, go)] (σ.set ix o) H s) (ht : tn 0 s.heap) (hn : ∀ b ∈ fp, H b = none) (hp : Pv 0 H) :
      Seg (model X.prog X.w) A (fun m s₀ r s => r = .ok .next ∧ rP (genCx X A (gEnv X scope s4.heap.objs.size code) s4 H4 fp) a go σ ix n fp Pv m s₀ s)
        (yP (genCx X A (gEnv X scope s4.heap.objs.size code) s4 H4 fp) a go σ ix n fp tn Pv stop Qs) (n + 1) s₀
        (.compStart (.GeneratorExp elt [⟨.Name x px, iter, [], 0⟩] gsc gpos) 0 (.ref it) .none (gEnv X scope s4.heap.objs.size code))
        ((model X.prog X.w).den (.compStart (.GeneratorExp elt [⟨.Name x px, iter, [], 0⟩] gsc gpos) 0 (.ref it) .none (gEnv X scope s4.heap.objs.size code))) [] s := by
  have loop := seg_loopG (iter := iter) (gsc := gsc) (gpos := gpos) (stop := stop) (Qs := Qs) S hh hW T hfp hel hG hs n 0 s₀ s o H (Nat.sub_zero _) (Nat.zero_le _) I ht hn hp
  rw [Nat.sub_zero] at loop
  show Seg _ A _ _ _ s₀ _ ((compStart (.GeneratorExp elt [⟨.Name x px, iter, [], 0⟩] gsc gpos) 0 (.ref it) .none (gEnv X scope s4.heap.objs.size code)).onRaise (leaving (gEnv X scope s4.heap.objs.size code))) [] s
  unfold compStart
  rw [Sem.onRaise_eq_wrap]
  show Seg _ A _ _ _ s₀ _ ((ask >>= _).wrap _ _ _ _) [] s
  refine seg_bind_wrap (wpAny_askSetting ?_)
  split
  · exact seg_again rfl loop
  · first
      | exact seg_bind_wrap (wpAny_rule (seg_bind_wrap (wpAny_standAt (seg_bind_wrap (T.self _ 0 s _ _ ht (seg_again rfl loop))))))
      | (refine seg_bind_wrap (wpAny_rule ?_); show Seg _ A _ _ _ s₀ _ ((standAt iter.pos >>= _).wrap _ _ _ _) [] s; exact seg_bind_wrap (wpAny_standAt (seg_bind_wrap (T.self _ 0 s _ _ ht (seg_again rfl loop)))))

/-- the generator sleeps before turn i -/
def Asleep (P : Program) (w : World) (Z : Cx) (B : Around) (a : Addr) (go : Obj) (g : Nat) (σ : L2.St) (ix n : Nat) (fp : List Addr) (tn : Nat → Heap → Prop) (Pv : Nat → Hp → Prop) (stop : Bool) (Qs : Hp → Prop) (i : Nat) (s : Shared) : Prop :=
  (∃ o H, Inv Z [(a, go)] (σ.set ix o) H s) ∧ ∃ gs, s.gens[g]? = some gs ∧ ∀ s'' : Shared, s''.heap = s.heap → s''.os = s.os → AllBare s''.gens →
    gs.Goes (model P w) B (fun m s₀ r s => r = .ok .next ∧ rP Z a go σ ix n fp Pv m s₀ s) (yP Z a go σ ix n fp tn Pv stop Qs) (n - i + 1) (.send .none) s''

/-- the consumer's turns: any (stop = true), all (stop = false) -/
theorem loop_any {P : Program} {w : World} {Z : Cx} {A : Around} {g : Nat} {R : Result → Shared → Prop} (hh : A.handled = none) (hroom : A.depth < recursionLimit) (hgo : ∀ h : Heap, h.get? a = some go → h.IsGen a g)
    (hstop : ∀ o H' s', Inv Z [(a, go)] (σ.set ix o) H' s' → Qs H' → R (.ok (.ret (.bool true))) s')
    (hend : ∀ o H' s', Inv Z [(a, go)] (σ.set ix o) H' s' → Pv n H' → R (.ok (.ret (.bool false))) s') :
    ∀ (k i : Nat) (s : Shared), n - i = k → i ≤ n → Asleep P w Z A.in1.in1 a go g σ ix n fp tn Pv true Qs i s → codeAny (model P w) A (.builtin "any.loop" ⟨[.ref a], []⟩) R s := by
  intro k
  induction k with
  | zero =>
    intro i s hk hi hs
    have hin : i = n := by omega
    subst hin
    obtain ⟨⟨o, H, I⟩, gs, hgs, hgo2⟩ := hs
    rw [Nat.sub_self] at hgo2
    have hg := hgo _ (I.pin (a, go) (List.mem_append_right _ List.mem_cons_self)).1
    refine codeAny_builtin F.entry_any_loop ?_
    rw [Around.under_plainId F.plain_any_loop _]
    show wpAny _ A.in1 (pyNext (.ref a) >>= _) _ _ s
    refine wpAny_bind (wpAny_pyNext_genexpQ (P := rP Z a go σ ix i fp Pv) hh I.nolimit hroom hg hgs (hgo2 _ rfl rfl (allBare_setGen I.bare rfl)) (fun v s₁ gs' hb hv => ?_) (fun s₁ hp h' hk' => ?_))
    · obtain ⟨j, b, o, H', q1, q2, _⟩ := hv
      omega
    · obtain ⟨_, o', H', I', _, hp⟩ := hp
      refine wpAny_bind (wpAny_rule (wpAny_pure ?_))
      have I2 : Inv Z [(a, go)] (σ.set ix o') H' (s₁.setGen g .finished) := Inv.regen I' rfl rfl (allBare_setGen I'.bare rfl)
      exact hend o' H' _ (I2.kept (t' := (s₁.setGen g .finished).toks) hk') hp
  | succ k ih =>
    intro i s hk hi hs
    have hlt : i < n := by omega
    obtain ⟨⟨o, H, I⟩, gs, hgs, hgo2⟩ := hs
    obtain ⟨m, hm⟩ : ∃ m, n - i + 1 = m + 1 := ⟨n - i, rfl⟩
    rw [hm] at hgo2
    have hg := hgo _ (I.pin (a, go) (List.mem_append_right _ List.mem_cons_self)).1
    have hgl : g + 1 ≤ s.gens.size := (Array.getElem?_eq_some_iff.mp hgs).1
    refine codeAny_builtin F.entry_any_loop ?_
    rw [Around.under_plainId F.plain_any_loop _]
    show wpAny _ A.in1 (pyNext (.ref a) >>= _) _ _ s
    refine wpAny_bind (wpAny_gsz hgl (wpAny_pyNext_genexpQ (P := rP Z a go σ ix n fp Pv) hh I.nolimit hroom hg hgs (hgo2 _ rfl rfl (allBare_setGen I.bare rfl)) (fun v s₁ gs' hb hv hsz => ?_) (fun s₁ hp h' hk' => ?_)))
    · obtain ⟨j, b, o', H', hj, hjn, rfl, I', ht, hn, hq, hkap⟩ := hv
      have hji : j = i := by omega
      subst hji
      rw [setGen_size] at hsz
      have I2 : Inv Z [(a, go)] (σ.set ix o') H' (s₁.setGen g gs') := Inv.regen I' rfl rfl (allBare_setGen I'.bare hb)
      refine wpAny_bind (wpAny_holding (wpAny_truthy_bool ?_))
      refine wpAny_bind (wpAny_letGo ?_)
      cases b with
      | false =>
        simp only [Bool.false_eq_true, if_false] at hq ⊢
        refine wpAny_pure ⟨plainId_quiet F.plain_any_loop _, ih (j + 1) _ (by omega) hlt ⟨⟨o', H', I2⟩, gs', setGen_at hsz, fun s'' e1 e2 e3 => ?_⟩⟩
        have e : n - (j + 1) + 1 = m := by omega
        rw [e]
        exact hkap s'' e1 e2 e3 (by simp)
      | true =>
        simp only [if_true] at hq ⊢
        exact wpAny_bind (wpAny_rule (wpAny_pure (hstop o' H' _ I2 hq)))
    · obtain ⟨hp, _⟩ := hp
      omega
theorem loop_all {P : Program} {w : World} {Z : Cx} {A : Around} {g : Nat} {R : Result → Shared → Prop} (hh : A.handled = none) (hroom : A.depth < recursionLimit) (hgo : ∀ h : Heap, h.get? a = some go → h.IsGen a g)
    (hstop : ∀ o H' s', Inv Z [(a, go)] (σ.set ix o) H' s' → Qs H' → R (.ok (.ret (.bool false))) s')
    (hend : ∀ o H' s', Inv Z [(a, go)] (σ.set ix o) H' s' → Pv n H' → R (.ok (.ret (.bool true))) s') :
    ∀ (k i : Nat) (s : Shared), n - i = k → i ≤ n → Asleep P w Z A.in1.in1 a go g σ ix n fp tn Pv false Qs i s → codeAny (model P w) A (.builtin "all.loop" ⟨[.ref a], []⟩) R s := by
  intro k
  induction k with
  | zero =>
    intro i s hk hi hs
    have hin : i = n := by omega
    subst hin
    obtain ⟨⟨o, H, I⟩, gs, hgs, hgo2⟩ := hs
    rw [Nat.sub_self] at hgo2
    have hg := hgo _ (I.pin (a, go) (List.mem_append_right _ List.mem_cons_self)).1
    refine codeAny_builtin F.entry_all_loop ?_
    rw [Around.under_plainId F.plain_all_loop _]
    show wpAny _ A.in1 (pyNext (.ref a) >>= _) _ _ s
    refine wpAny_bind (wpAny_pyNext_genexpQ (P := rP Z a go σ ix i fp Pv) hh I.nolimit hroom hg hgs (hgo2 _ rfl rfl (allBare_setGen I.bare rfl)) (fun v s₁ gs' hb hv => ?_) (fun s₁ hp h' hk' => ?_))
    · obtain ⟨j, b, o, H', q1, q2, _⟩ := hv
      omega
    · obtain ⟨_, o', H', I', _, hp⟩ := hp
      refine wpAny_bind (wpAny_rule (wpAny_pure ?_))
      have I2 : Inv Z [(a, go)] (σ.set ix o') H' (s₁.setGen g .finished) := Inv.regen I' rfl rfl (allBare_setGen I'.bare rfl)
      exact hend o' H' _ (I2.kept (t' := (s₁.setGen g .finished).toks) hk') hp
  | succ k ih =>
    intro i s hk hi hs
    have hlt : i < n := by omega
    obtain ⟨⟨o, H, I⟩, gs, hgs, hgo2⟩ := hs
    obtain ⟨m, hm⟩ : ∃ m, n - i + 1 = m + 1 := ⟨n - i, rfl⟩
    rw [hm] at hgo2
    have hg := hgo _ (I.pin (a, go) (List.mem_append_right _ List.mem_cons_self)).1
    have hgl : g + 1 ≤ s.gens.size := (Array.getElem?_eq_some_iff.mp hgs).1
    refine codeAny_builtin F.entry_all_loop ?_
    rw [Around.under_plainId F.plain_all_loop _]
    show wpAny _ A.in1 (pyNext (.ref a) >>= _) _ _ s
    refine wpAny_bind (wpAny_gsz hgl (wpAny_pyNext_genexpQ (P := rP Z a go σ ix n fp Pv) hh I.nolimit hroom hg hgs (hgo2 _ rfl rfl (allBare_setGen I.bare rfl)) (fun v s₁ gs' hb hv hsz => ?_) (fun s₁ hp h' hk' => ?_)))
    · obtain ⟨j, b, o', H', hj, hjn, rfl, I', ht, hn, hq, hkap⟩ := hv
      have hji : j = i := by omega
      subst hji
      rw [setGen_size] at hsz
      have I2 : Inv Z [(a, go)] (σ.set ix o') H' (s₁.setGen g gs') := Inv.regen I' rfl rfl (allBare_setGen I'.bare hb)
      refine wpAny_bind (wpAny_holding (wpAny_truthy_bool ?_))
      refine wpAny_bind (wpAny_letGo ?_)
      cases b with
      | true =>
        simp only [Bool.true_eq_false, if_false, if_true] at hq ⊢
        refine wpAny_pure ⟨plainId_quiet F.plain_all_loop _, ih (j + 1) _ (by omega) hlt ⟨⟨o', H', I2⟩, gs', setGen_at hsz, fun s'' e1 e2 e3 => ?_⟩⟩
        have e : n - (j + 1) + 1 = m := by omega
        rw [e]
        exact hkap s'' e1 e2 e3 (by simp)
      | false =>
        simp only [Bool.false_eq_true, if_true, if_false] at hq ⊢
        exact wpAny_bind (wpAny_rule (wpAny_pure (hstop o' H' _ I2 hq)))
    · obtain ⟨hp, _⟩ := hp
      omega
end

/-- the reading behind the walked thing's making: n turns, Pv by the turn; at an element that is stop it ends with stop -/
def RdG (stop : Bool) (ix : Nat) (te : TE) (σ : L2.St) (Q : VK) (J : It) (H2 : Hp) : Prop :=
  ∃ (n : Nat) (G : Hp → Prop) (Y : Nat → Hp → V → Hp → Prop) (Pv : Nat → Hp → Prop), Walk J n G Y ∧ Pv 0 H2 ∧ (∀ i H, i ≤ n → Pv i H → G H) ∧
    (∀ i y H H', i < n → Pv i H → Y i H y H' → te (σ.set ix (some y)) H' fun v H'' => ∃ b, v = .bl b ∧ if b = stop then Q (.bl stop) H'' else Pv (i + 1) H'') ∧ ∀ H, Pv n H → Q (.bl (!stop)) H
/-- any (stop = true), all (stop = false) of a generator expression; the def's table may have grown -/
def tAG (stop : Bool) (T : List (Addr × Str)) (ix : Nat) (wi : TI) (te : TE) : TE := fun σ H Q => wi σ H fun J H1 => LamX.Tabs T H1 ∧ ∀ H2, LamX.ExtN H1 H2 → LamX.Tabs T H2 → RdG stop ix te σ Q J H2
section
variable {X : Cx} {pins : List (Addr × Obj)} {σ : L2.St} {H : Hp} {s : Shared}
theorem gen_evalG {T : List (Addr × Str)} {c P : Addr} {elt iter : Expr} {x : Str} {px gpos : Pos} {scope : Scope} {ix k : Nat} {wi : TI} {te : TE} {stop : Bool} {Q : VK} {Q' : Value → Shared → Prop}
    (hr : Room (k + 3) X.A) (hc : X.calm = true) (TB : LamX.TabB X.base X.mg c P) (hcode : X.env.code = .ref c) (hmT : (P, X.env.qual ++ "<genexpr>") ∈ T) (hu : ∀ p ∈ T, p.1 = P → p.2 = X.env.qual ++ "<genexpr>") (S : GSc X.N X.env.scope scope x ix) (hi : PI X (.Name x px) iter wi)
    (hel : ∀ (A : Around) (C : Addr) (code : Value) (s : Shared) (H : Hp) (fp : List Addr), Room k (A.deeper (gEnv X scope C code)) → PE (genCx X A (gEnv X scope C code) s H fp) elt te)
    (hs : ∀ v, genFold iter X.env v = pure v) (I : Inv X pins σ H s) (h : tAG stop T ix wi te σ H Q)
    (hQ : ∀ (Z : Cx) (a : Addr) (go : Obj) (g n : Nat) (fp : List Addr) (tn : Nat → Heap → Prop) (Pv : Nat → Hp → Prop) (s' : Shared), (∀ h : Heap, h.get? a = some go → h.IsGen a g) →
      Asleep X.prog X.w Z X.A.in1.in1 a go g σ ix n fp tn Pv stop (fun H' => Q (.bl stop) H') 0 s' → (∀ H', Pv n H' → Q (.bl (!stop)) H') →
      (∀ o H' s'', Inv Z [(a, go)] (σ.set ix o) H' s'' → Inv X pins σ H' s'') → Q' (.ref a) s') :
    wpAny (model X.prog X.w) X.A (eval (.GeneratorExp elt [⟨.Name x px, iter, [], 0⟩] scope gpos) X.env) Q' X.xe s := by
  refine wpAny_GeneratorExp_make S.co (closure_ok (S.has I.ok)) S.cell S.dot S.kind (by have := hr.dp; omega) ?_ hs
  refine wpAny_mono (hi.run pins s σ H _ I h) (fun xv s1 h1 => wpAny_mono h1 (fun itv s2 h2 => ?_) fun _ _ e => e) fun _ _ e => e
  obtain ⟨it, fp, tn, J, H1, rfl, I2, Tn, ht, hf, hTab, hR⟩ := h2
  refine ⟨I2.nolimit, ?_⟩
  obtain ⟨ps, hP, htr, ha⟩ := hTab _ hmT
  have hPs : s2.heap.get? P = some { cls := .none, data := .fields ps } := I2.hok P _ hP
  have cd : PySem.W.CodeHd s2.heap c P := TB.code.keeps I2.bk
  have cont : ∀ (code : Value) (h3 : Heap) (tk : Nat) (H2 : Hp), Inv X pins σ H2 { s2 with heap := h3, toks := tk } → Heap.ExtBut P s2.heap h3 → s2.heap.objs.size ≤ h3.objs.size → LamX.ExtN H1 H2 → LamX.Tabs T H2 → (∀ b ∈ fp, H2 b = none) →
      wpAny (model X.prog X.w) X.A (builtinsFor X.env.globals X.env.builtins) (fun bi s₄ =>
        ∀ h', h'.Ns s₄.heap.objs.size (fun y => if y = ".0" then some (.ref it) else none) → Heap.SameBut s₄.heap.objs.size (s₄.heap.push { cls := .type "frame", data := .dict #[] }) h' →
          Q' (.ref h'.objs.size) { s₄ with
            gens := s₄.gens.push (.fresh (.compStart (.GeneratorExp elt [⟨.Name x px, iter, [], 0⟩] scope gpos) 0 (.ref it) .none (genEnv scope (cloFrom X.env.cells scope.names []) s₄.heap.objs.size code bi X.env))),
            toks := s₄.toks + 1 + 1 + 1,
            heap := h'.push { cls := .type "generator", data := .fields #[.int s₄.gens.size 0, .str "<genexpr>" (s₄.toks + 1), .str (X.env.qual ++ "<genexpr>") (s₄.toks + 1 + 1)] } }) X.xe { s2 with heap := h3, toks := tk } := by
    intro code h3 tk H2 I3 hx hsz hE hT2 hfn
    obtain ⟨bm, ob, e1, e2, e3, e4, e5, e6, e7, e8⟩ := TB.bm
    have nP : ∀ b ∈ fp, b ≠ P := fun b hb z => by
      have q := (hf b hb).1
      rw [z, hP] at q
      cases q
    have hf3 : ∀ b ∈ fp, FpOk X pins H2 b ∧ b < h3.objs.size := fun b hb => by
      obtain ⟨f1, f2⟩ := hf b hb
      obtain ⟨o', e', _⟩ := Tn.obj _ _ ht b hb
      exact ⟨⟨hfn b hb, f2⟩, Nat.lt_of_lt_of_le (Heap.lt_size e') hsz⟩
    have htn3 : tn 0 h3 := Tn.keep _ _ _ ht fun b hb o e => hx b o (nP b hb) e
    refine wpAny_builtinsFor (m := X.mg) (by rw [I3.ok.glob]; exact I3.mod.glob.keeps I3.bk) e1 e2 (I3.bk _ _ e5) e6 e7 e8 ?_
    intro h' hns hsb
    show Q' (.ref h'.objs.size) { s2 with
            gens := s2.gens.push (.fresh (.compStart (.GeneratorExp elt [⟨.Name x px, iter, [], 0⟩] scope gpos) 0 (.ref it) .none (gEnv X scope h3.objs.size code))),
            toks := tk + 1 + 1 + 1,
            heap := h'.push { cls := .type "generator", data := .fields #[.int s2.gens.size 0, .str "<genexpr>" (tk + 1), .str (X.env.qual ++ "<genexpr>") (tk + 1 + 1)] } }
    obtain ⟨n, G, Y, Pv, hW, p0, hG, hst, hend⟩ := hR _ hE hT2
    have hsz' : h'.objs.size = h3.objs.size + 1 := by rw [hsb.1, Heap.size_push]
    have kp : ∀ b o, h3.get? b = some o → (h'.push { cls := .type "generator", data := .fields #[.int s2.gens.size 0, .str "<genexpr>" (tk + 1), .str (X.env.qual ++ "<genexpr>") (tk + 1 + 1)] }).get? b = some o := fun b o e =>
      Heap.get?_push_of_some _ (hsb.extBut b o (Nat.ne_of_lt (Heap.lt_size e)) (Heap.get?_push_of_some _ e))
    have hA : X.A.in1.in1.handled = none := hr.hd
    have hFr : X.A.in1.in1.frames = some X.stack := I.ok.frames
    have hga : (h'.push { cls := .type "generator", data := .fields #[.int s2.gens.size 0, .str "<genexpr>" (tk + 1), .str (X.env.qual ++ "<genexpr>") (tk + 1 + 1)] }).get? h'.objs.size = some { cls := .type "generator", data := .fields #[.int s2.gens.size 0, .str "<genexpr>" (tk + 1), .str (X.env.qual ++ "<genexpr>") (tk + 1 + 1)] } := Heap.get?_push_size _ rfl
    have haC : h3.objs.size < h'.objs.size := by rw [hsz']; exact Nat.lt_succ_self _
    have IZ := gen_start (s := { s2 with heap := h3, toks := tk }) (it := .ref it) (code := code) (A := X.A.in1.in1) (gs := s2.gens.push (.fresh (.compStart (.GeneratorExp elt [⟨.Name x px, iter, [], 0⟩] scope gpos) 0 (.ref it) .none (gEnv X scope h3.objs.size code)))) (tk := tk + 1 + 1 + 1)
      I3 S hA hFr hf3 (hns.push _) kp haC hga (fun v q => by cases q) (I2.bare.push rfl)
    have hfpS : ∀ b ∈ fp, b ≠ h3.objs.size ∧ b ∉ frs X.stack ∧ (∀ y c, (cloFrom X.env.cells scope.names []).lookup y = some c → c ≠ b) ∧ b ≠ h'.objs.size := fun b hb => by
      obtain ⟨⟨f1, f2, f3, f4, f5, f6⟩, f7⟩ := hf3 b hb
      refine ⟨Nat.ne_of_lt f7, fun z => ?_, fun y c e z => ?_, Nat.ne_of_lt (Nat.lt_trans f7 haC)⟩
      · rcases List.mem_cons.mp (I3.stkSub b z) with q | q
        · exact f2 q
        · exact f3 q
      · rcases cloFrom_mem (PySem.mem_of_lookup e) with hm | ⟨h1, h2⟩
        · cases hm
        · obtain ⟨c1, hc1⟩ := S.has I.ok _ h1 rfl
          have hc1 : X.env.cells.lookup y = some c1 := hc1
          have e2 : c = c1 := by
            rw [h2, hc1] <;> rfl
          exact f5 y c (by rw [e2]; exact hc1) z
    have hroomZ : Room k (X.A.in1.in1.deeper (gEnv X scope h3.objs.size code)) := hr.in1.in1.deeper _
    refine hQ (genCx X X.A.in1.in1 (gEnv X scope h3.objs.size code) { s2 with heap := h3, toks := tk } H2 fp) h'.objs.size _ s2.gens.size n fp tn Pv _ (fun hh e => ⟨_, _, _, e, rfl, rfl, rfl⟩) ⟨⟨none, _, IZ⟩, _, Array.getElem?_push_size .., fun s'' z1 z2 z3 => ⟨rfl, ?_⟩⟩ hend ?_
    · exact seg_startG (s4 := { s2 with heap := h3, toks := tk }) (H4 := H2) (A := X.A.in1.in1) (gsc := scope) (gpos := gpos) (iter := iter) S hA hW Tn hfpS (hel _ _ _ _ _ _ hroomZ) hG hst s'' s'' _ none (Inv.regen IZ z1 z2 z3) (by
        rw [z1]
        exact Tn.keep _ _ _ htn3 fun b hb o e => kp b o e) (fun b hb => (hf3 b hb).1.1) p0
    · intro o H' s'' Z
      refine I3.call' (ch := fp) Z.os Z.base Z.hok Z.bare fun b hb => ?_
      obtain ⟨⟨f1, f2, f3, f4, f5, f6⟩, f7⟩ := hf3 b hb
      exact ⟨f4, f2, f5, f6⟩
  cases hfc : codeAmong gpos ps.toList with
  | none =>
    refine wpAny_genexprCodeX hcode (cd.code hPs htr) (cd.tab hPs) hfc fun c' h' tk hx hge hlt hco' hrec htab' _ => ?_
    obtain ⟨c2, oc, vs, t, e2, hoc, hd, hv⟩ := hrec
    cases e2
    have nC : H1 c' = none := I2.hok.fresh hge
    have I3 := LamX.inv_table (q := X.env.qual ++ "<genexpr>") (t' := tk) (more := #[rawInt gpos.line, rawInt gpos.col, .ref c']) (h' := h') I2 hP (fun b o hb e => hx b o hb e) htab'.2 hge ⟨oc, vs, t, hoc, hd, hv⟩
    have hE : LamX.ExtN H1 (upd (upd H1 P (.tbl (ps ++ #[rawInt gpos.line, rawInt gpos.col, .ref c']))) c' (LamX.CodeO c' (X.env.qual ++ "<genexpr>"))) := fun b o e n => by
      rw [upd_ne (ne_of_none e nC), upd_ne (fun z => n ps (Option.some.inj (e.symm.trans (by rw [z]; exact hP))))]
      exact e
    have eL : (ps ++ #[rawInt gpos.line, rawInt gpos.col, .ref c']).toList = ps.toList ++ [rawInt gpos.line, rawInt gpos.col, .ref c'] := by simp
    refine cont _ h' tk _ I3 hx (Nat.le_trans hge (Nat.le_of_lt hlt)) hE (fun p hp => ?_) fun b hb => ?_
    · by_cases hb : p.1 = P
      · rw [hu p hp hb, hb]
        refine ⟨_, by rw [upd_ne (ne_of_none hP nC), upd_same], by rw [eL]; exact PySem.TriplesOk_snoc _ _ _ _ htr, fun p' cv hcv => ?_⟩
        rw [eL] at hcv
        rcases LamX.among_app _ htr hcv with z | z
        · obtain ⟨c0, e1, e2⟩ := ha p' cv z
          exact ⟨c0, e1, hE _ _ e2 LamX.codeO_ne⟩
        · exact ⟨c', z, upd_same⟩
      · obtain ⟨ps', a1, a2, a3⟩ := hTab p hp
        refine ⟨ps', by rw [upd_ne (ne_of_none a1 nC), upd_ne hb]; exact a1, a2, fun p' cv hcv => ?_⟩
        obtain ⟨c0, e1, e2⟩ := a3 p' cv hcv
        exact ⟨c0, e1, hE _ _ e2 LamX.codeO_ne⟩
    · have f1 := (hf b hb).1
      obtain ⟨o', e', _⟩ := Tn.obj _ _ ht b hb
      rw [upd_ne (Nat.ne_of_lt (Nat.lt_of_lt_of_le (Heap.lt_size e') hge)), upd_ne (fun z => by rw [z, hP] at f1; cases f1)]
      exact f1
  | some cv =>
    refine wpAny_genexprCode_hit hcode (cd.code hPs htr) hfc ?_
    exact cont cv s2.heap s2.toks H1 I2 (Heap.ExtBut.refl _ _) (Nat.le_refl _) (LamX.ExtN.refl _) hTab fun b hb => (hf b hb).1

theorem pe_anyG {T : List (Addr × Str)} {c P : Addr} {elt iter : Expr} {x : Str} {px p pos gpos : Pos} {scope : Scope} {ix k : Nat} {wi : TI} {te : TE}
    (hr : Room (k + 3) X.A) (hc : X.calm = true) (hg : Gl X "any") (hm : X.mg "any" = none) (TB : LamX.TabB X.base X.mg c P) (hcode : X.env.code = .ref c) (hmT : (P, X.env.qual ++ "<genexpr>") ∈ T) (hu : ∀ p ∈ T, p.1 = P → p.2 = X.env.qual ++ "<genexpr>") (S : GSc X.N X.env.scope scope x ix) (hi : PI X (.Name x px) iter wi)
    (hel : ∀ (A : Around) (C : Addr) (code : Value) (s : Shared) (H : Hp) (fp : List Addr), Room k (A.deeper (gEnv X scope C code)) → PE (genCx X A (gEnv X scope C code) s H fp) elt te)
    (hs : ∀ v, genFold iter X.env v = pure v := by intro _; rfl)
    (he : starEach [.GeneratorExp elt [⟨.Name x px, iter, [], 0⟩] scope gpos] X.env = (false, eval (.GeneratorExp elt [⟨.Name x px, iter, [], 0⟩] scope gpos) X.env) :: starEach [] X.env := by rfl) :
    PE X (.Call (.Name "any" p) [.GeneratorExp elt [⟨.Name x px, iter, [], 0⟩] scope gpos] [] pos) (tAG true T ix wi te) := by
  refine ⟨fun pins s σ H Q I h => ?_⟩
  refine wpAny_Call_Name_kw (ld_blt I hg hm boot_any ?_)
  refine PyProof.Rows.callWith_builtin1 ?_ he (by rfl)
  rw [he]
  show wpAny _ _ (spliced ((false, eval (.GeneratorExp elt [⟨.Name x px, iter, [], 0⟩] scope gpos) X.env) :: backTo pos (starEach [] X.env))) _ _ s
  refine Calls.spliced_cons (gen_evalG (Q := Q) hr hc TB hcode hmT hu S hi hel hs I h fun Z a go g n fp tn Pv s' hgo hsl hend back => ?_)
  refine Calls.spliced_nil ?_
  have hg := hgo _ (hsl.1.choose_spec.choose_spec.pin (a, go) (List.mem_append_right _ List.mem_cons_self)).1
  refine call_function_tree F.kind_any F.plain_any F.entry_any (F.args_any1 _) ?_
  unfold Builtin.«any»
  refine wpAny_bind (m := oneArg "any" _) (wpAny_pure ?_)
  refine wpAny_bind (wpAny_pyIter_gen hg ?_)
  refine wpAny_pure ⟨plainId_quiet F.plain_any_loop _, loop_any (n := n) (σ := σ) (ix := ix) hr.hd (by have := hr.dp; show X.A.depth < _; omega) hgo (fun o H' s'' Z' hq => ?_) (fun o H' s'' Z' hq => ?_) n 0 s' (Nat.sub_zero _) (Nat.zero_le _) hsl⟩
  · exact ⟨.bl true, H', back o H' s'' Z', rfl, hq⟩
  · exact ⟨.bl false, H', back o H' s'' Z', rfl, hend H' hq⟩
theorem pe_allG {T : List (Addr × Str)} {c P : Addr} {elt iter : Expr} {x : Str} {px p pos gpos : Pos} {scope : Scope} {ix k : Nat} {wi : TI} {te : TE}
    (hr : Room (k + 3) X.A) (hc : X.calm = true) (hg : Gl X "all") (hm : X.mg "all" = none) (TB : LamX.TabB X.base X.mg c P) (hcode : X.env.code = .ref c) (hmT : (P, X.env.qual ++ "<genexpr>") ∈ T) (hu : ∀ p ∈ T, p.1 = P → p.2 = X.env.qual ++ "<genexpr>") (S : GSc X.N X.env.scope scope x ix) (hi : PI X (.Name x px) iter wi)
    (hel : ∀ (A : Around) (C : Addr) (code : Value) (s : Shared) (H : Hp) (fp : List Addr), Room k (A.deeper (gEnv X scope C code)) → PE (genCx X A (gEnv X scope C code) s H fp) elt te)
    (hs : ∀ v, genFold iter X.env v = pure v := by intro _; rfl) (hb : bootBuiltins "all" = some (.builtin "all") := by decide +kernel)
    (he : starEach [.GeneratorExp elt [⟨.Name x px, iter, [], 0⟩] scope gpos] X.env = (false, eval (.GeneratorExp elt [⟨.Name x px, iter, [], 0⟩] scope gpos) X.env) :: starEach [] X.env := by rfl) :
    PE X (.Call (.Name "all" p) [.GeneratorExp elt [⟨.Name x px, iter, [], 0⟩] scope gpos] [] pos) (tAG false T ix wi te) := by
  refine ⟨fun pins s σ H Q I h => ?_⟩
  refine wpAny_Call_Name_kw (ld_blt I hg hm hb ?_)
  refine PyProof.Rows.callWith_builtin1 ?_ he (by rfl)
  rw [he]
  show wpAny _ _ (spliced ((false, eval (.GeneratorExp elt [⟨.Name x px, iter, [], 0⟩] scope gpos) X.env) :: backTo pos (starEach [] X.env))) _ _ s
  refine Calls.spliced_cons (gen_evalG (Q := Q) hr hc TB hcode hmT hu S hi hel hs I h fun Z a go g n fp tn Pv s' hgo hsl hend back => ?_)
  refine Calls.spliced_nil ?_
  have hg := hgo _ (hsl.1.choose_spec.choose_spec.pin (a, go) (List.mem_append_right _ List.mem_cons_self)).1
  refine call_function_tree F.kind_all F.plain_all F.entry_all (F.args_all1 _) ?_
  unfold Builtin.«all»
  refine wpAny_bind (m := oneArg "all" _) (wpAny_pure ?_)
  refine wpAny_bind (wpAny_pyIter_gen hg ?_)
  refine wpAny_pure ⟨plainId_quiet F.plain_all_loop _, loop_all (n := n) (σ := σ) (ix := ix) hr.hd (by have := hr.dp; show X.A.depth < _; omega) hgo (fun o H' s'' Z' hq => ?_) (fun o H' s'' Z' hq => ?_) n 0 s' (Nat.sub_zero _) (Nat.zero_le _) hsl⟩
  · exact ⟨.bl false, H', back o H' s'' Z', rfl, hq⟩
  · exact ⟨.bl true, H', back o H' s'' Z', rfl, hend H' hq⟩
end
end GX

set_option Elab.async false
set_option linter.all false
set_option maxRecDepth 100000
set_option maxHeartbeats 2000000
/-! LX: max(xs, key=lambda x: ..), min of a list of tuples. -/
namespace LX
open PySem PySem.Spec PyProof.Rows L2 GenW GX LamX

/-- the lambda's names: its one parameter x; captured ones -/
structure L1S (N : List Str) (sc scope : Scope) (x : Str) (ix : Nat) : Prop where
  kind : scope.kind = .function
  co : scope.isCoroutine = false
  gen : scope.isGenerator = false
  cell : ∀ y ∈ scope.names, y.2 ≠ .cell
  loc : scope.names.lookup x = some .local
  own : ∀ y ∈ scope.names, y.2 = .local → y.1 = x
  free : ∀ y ∈ scope.names, y.2 = .free → sc.names.lookup y.1 = some .cell ∨ sc.names.lookup y.1 = some .free
  nd : N.Nodup
  ix : N[ix]? = some x
def l1SB (N : List Str) (sc scope : Scope) (x : Str) (ix : Nat) : Bool :=
  decide (scope.kind = .function) && !scope.isCoroutine && !scope.isGenerator && decide (scope.names.lookup x = some .local) &&
  (scope.names.all fun y => !decide (y.2 = .cell) && (!decide (y.2 = .local) || decide (y.1 = x)) && (!decide (y.2 = .free) || decide (sc.names.lookup y.1 = some .cell) || decide (sc.names.lookup y.1 = some .free))) &&
  decide N.Nodup && decide (N[ix]? = some x)
theorem l1s_by {N : List Str} {sc scope : Scope} {x : Str} {ix : Nat} (h : l1SB N sc scope x ix = true) : L1S N sc scope x ix := by
  unfold l1SB at h
  simp only [Bool.and_eq_true, Bool.or_eq_true, Bool.not_eq_true', decide_eq_true_eq, decide_eq_false_iff_not, List.all_eq_true] at h
  obtain ⟨⟨⟨⟨⟨⟨h1, h2⟩, h3⟩, h4⟩, h5⟩, h6⟩, h7⟩ := h
  refine ⟨h1, h2, h3, fun y hy => (h5 y hy).1.1, h4, fun y hy e => ?_, fun y hy e => ?_, h6, h7⟩
  · rcases (h5 y hy).1.2 with z | z
    · exact absurd e z
    · exact z
  · rcases (h5 y hy).2 with (z | z) | z
    · exact absurd e z
    · exact .inl z
    · exact .inr z
section
variable {X : Cx} {pins : List (Addr × Obj)} {σ : L2.St} {H : Hp} {s : Shared}
theorem L1S.has {scope : Scope} {x : Str} {ix : Nat} (S : L1S X.N X.env.scope scope x ix) (ok : X.Ok) : ∀ y ∈ scope.names, y.2 = .free → ∃ c, X.env.cells.lookup y.1 = some c := fun y hy e => by
  rcases S.free y hy e with k | k
  · exact ok.has _ (.inl k)
  · exact ok.has _ (.inr k)
theorem lam1_start {scope : Scope} {x : Str} {ix : Nat} {f c' : Addr} {A : Around} {h5 : Heap} {u : Value} {y : V} {tk : Nat} (I : Inv X pins σ H s) (S : L1S X.N X.env.scope scope x ix) (hd : A.handled = none) (hfr : A.frames = some X.stack) (ru : RelV y u)
    (hns : h5.Ns s.heap.objs.size fun z => ([(x, u)] : List (Str × Value)).reverse.lookup z) (kp : ∀ b o, s.heap.get? b = some o → h5.get? b = some o) :
    Inv (genCx X A (lamEnv X scope s.heap.objs.size f c') s H []) [] (σ.set ix (some y)) H { s with heap := h5, toks := tk } := by
  have hfree := S.has I.ok
  have cm : ∀ {y c}, (cloFrom X.env.cells scope.names []).lookup y = some c → X.env.cells.lookup y = some c := fun {y c} e => by
    rcases cloFrom_mem (PySem.mem_of_lookup e) with hm | ⟨h1, h2⟩
    · cases hm
    · obtain ⟨c1, hc⟩ := hfree _ h1 rfl
      have hc : X.env.cells.lookup y = some c1 := hc
      have e2 : c = c1 := by
        rw [h2, hc] <;> rfl
      rw [e2]
      exact hc
  have look : ∀ {y}, scope.names.lookup y = some .free → ∃ c, (cloFrom X.env.cells scope.names []).lookup y = some c := fun {y} hl => by
    have hy : (y, NameKind.free) ∈ scope.names := PySem.mem_of_lookup hl
    exact mem_lookup (cloFrom_has (cells := X.env.cells) (acc := []) hy)
  have cellK : ∀ {c : Addr} {v : Option Value}, s.heap.IsCell c v → h5.IsCell c v := fun {c v} ⟨o, ho, hd⟩ => ⟨o, kp _ _ ho, hd⟩
  have noE : ∀ b : Addr, b ∉ ([] : List Addr) := fun b z => absurd z (by simp)
  refine ⟨⟨I.ok.mod, S.kind, rfl, rfl, Nat.le_refl _, fun y z c e1 e2 => I.ok.inj y z c (cm e1) (cm e2), fun y hy => ?_, fun y c z _ => ?_, fun _ => hd, Around.frames_deeper hfr, .inr ⟨rfl, rfl⟩, fun b hb => absurd hb (noE b), I.bs, Nat.le_trans I.ok.bsz I.sz, fun b o e => noE b,
      fun b hb => absurd hb (noE b), I.stack, I.stkFree⟩,
    rfl, I.bare, Un.kept kp, ⟨_, hns, fun i z v e1 e2 e3 => ?_⟩, fun y c e => ?_, I.hok.fresh (Nat.le_refl _), fun y c e => ?_, fun q hq => absurd (show q ∈ ([] : List (Addr × Obj)) ++ [] from hq) (by simp), I.hok.kept kp, by rw [List.length_set]; exact I.len⟩
  · have hy : scope.names.lookup y = some .cell ∨ scope.names.lookup y = some .free := hy
    rcases hy with hy | hy
    · exact absurd rfl (S.cell _ (PySem.mem_of_lookup hy))
    · exact look hy
  · have z : false = true := z
    cases z
  · have e3 : Vis scope z := e3
    by_cases hix : ix = i
    · subst hix
      have hl : ix < σ.length := by rw [I.len]; exact (List.getElem?_eq_some_iff.mp S.ix).1
      rw [List.getElem?_set_self hl] at e2
      cases e2
      have ez : z = x := by
        have q := S.ix
        rw [show X.N[ix]? = some z from e1] at q
        exact Option.some.inj q
      subst ez
      exact ⟨u, ru, .inl ⟨S.loc, by simp [List.lookup]⟩⟩
    · rw [List.getElem?_set_ne hix] at e2
      rcases e3 with k | k | k
      · have ez : z = x := S.own _ (PySem.mem_of_lookup k) rfl
        rw [ez] at e1
        exact absurd (nodup_ix S.nd S.ix e1) hix
      · exact absurd rfl (S.cell _ (PySem.mem_of_lookup k))
      · obtain ⟨m, hn, hl⟩ := I.loc
        have hvis : Vis X.env.scope z := (S.free _ (PySem.mem_of_lookup k) rfl).elim (fun k => .inr (.inl k)) (fun k => .inr (.inr k))
        obtain ⟨w', r, q⟩ := hl i z v e1 e2 hvis
        obtain ⟨c2, h2⟩ := look k
        refine ⟨w', r, .inr ⟨.inr k, c2, h2, ?_⟩⟩
        have c1 := cm h2
        rcases q with ⟨k', _⟩ | ⟨_, c3, e', zz⟩
        · have k' : X.env.scope.names.lookup z = some .local := k'
          rcases S.free _ (PySem.mem_of_lookup k) rfl with k2 | k2 <;> rw [show X.env.scope.names.lookup z = _ from k2] at k' <;> cases k'
        · rw [c1] at e'
          cases e'
          exact cellK zz
  · obtain ⟨w', z⟩ := I.cell y c (cm e)
    exact ⟨w', cellK z⟩
  · exact I.freeC y c (cm e)
/-- the lambda called from the def that made it (within a built-in) -/
theorem lam1_call {scope : Scope} {x : Str} {ix k : Nat} {f c' : Addr} {A : Around} {params : Arguments} {body : Expr} {pm ctv : Value} {u : Value} {y : V} {tb : TE} {Q : VK} {E : Value → Shared → Prop} (I : Inv X pins σ H s) (S : L1S X.N X.env.scope scope x ix)
    (hr : Room (k + 1) A) (hfr : A.frames = some X.stack) (hf : s.heap.get? f = some (PySem.W.kla_obj "<lambda>" (X.env.qual ++ "<lambda>") params body scope (cloFrom X.env.cells scope.names []) pm c' ctv)) (hc : H c' = some (CodeO c' (X.env.qual ++ "<lambda>")))
    (hbind : bindArgs (PySem.W.kla_fn "<lambda>" (X.env.qual ++ "<lambda>") params body scope (cloFrom X.env.cells scope.names []) pm (.ref c') ctv) ⟨[u], []⟩ = pure [(x, u)])
    (hbody : ∀ (L : Addr) (s : Shared), Room k (A.deeper (lamEnv X scope L f c')) → PE (genCx X A (lamEnv X scope L f c') s H []) body tb) (ru : RelV y u) (h : tb (σ.set ix (some y)) H Q) :
    wpAny (model X.prog X.w) A (call (.ref f) [u]) (EP X pins σ Q) E s := by
  obtain ⟨⟨oc, vs, t, hoc, hdc, hvc⟩, _, _⟩ := I.hok c' _ hc
  have rc : codeAny (model X.prog X.w) A (.call (.ref f) ⟨[u], []⟩) (fun r s' => match r with | .ok (.ret v) => EP X pins σ Q v s' | _ => False) s := by
    refine PySem.W.kla_callFunE hr.depth hf rfl S.co S.gen rfl ⟨c', oc, vs, t, rfl, hoc, hdc, hvc⟩ ?_
    rw [hbind]
    refine wpAny_pure (wpAny_newFunctionEnv S.cell (fun z hz => ?_) (fun h₁ hns hsb => ⟨I.nolimit.fresh _ hsb, ?_⟩) S.kind)
    · rw [List.mem_singleton.mp hz]
      exact S.loc
    show codeAny _ _ (.expr body (lamEnv X scope s.heap.objs.size f c')) _ _
    have kp : ∀ b o, s.heap.get? b = some o → h₁.get? b = some o := fun b o e => hsb.extBut b o (Nat.ne_of_lt (Heap.lt_size e)) (Heap.get?_push_of_some _ e)
    have J := lam1_start (f := f) (c' := c') (A := A) (tk := s.toks + ([(x, u)] : List (Str × Value)).length) I S hr.hd hfr ru hns kp
    refine PySem.W.kla_codeExpr (wpAny_mono ((hbody s.heap.objs.size s (hr.deeper _)).run [] _ _ H Q J h) (fun v s' hq => ?_) fun e s' hq => (show False from hq).elim)
    obtain ⟨w', H', J', rv, q⟩ := hq
    exact ⟨w', H', I.call' (ch := []) J'.os J'.base J'.hok J'.bare (fun b z => absurd z (by simp)), rv, q⟩
  refine wpAny_call (codeAny_mono rc fun r s' hq => ?_)
  cases r with
  | error e => exact (show False from hq).elim
  | ok fl =>
    cases fl with
    | ret v => exact hq
    | next => exact (show False from hq).elim
    | brk => exact (show False from hq).elim
    | cont => exact (show False from hq).elim
end

section
variable {X : Cx} {pins : List (Addr × Obj)} {σ : L2.St} {H : Hp} {s : Shared}
theorem pin_cons {b : Addr} {o : Obj} (I : Inv X pins σ H s) (h : s.heap.get? b = some o) (hf : FpOk X pins H b) (hc : ∀ v, o.data ≠ .cell v) : Inv X ((b, o) :: pins) σ H s := I.pins_of fun p hp => by
  rcases List.mem_cons.mp hp with z | z
  · rw [z]
    exact ⟨h, hf.1, hf.2.1, hf.2.2.1, hc⟩
  · exact I.pin p (List.mem_append_right _ z)
theorem pin_tail {b : Addr} {o : Obj} (I : Inv X ((b, o) :: pins) σ H s) : Inv X pins σ H s := I.pins_of fun p hp => I.pin p (List.mem_append_right _ (List.mem_cons_of_mem _ hp))
theorem pin_head {b : Addr} {o : Obj} (I : Inv X ((b, o) :: pins) σ H s) : s.heap.get? b = some o := (I.pin (b, o) (List.mem_append_right _ List.mem_cons_self)).1
theorem fp_cons {b c : Addr} {o : Obj} (hf : FpOk X pins H b) (h : c ≠ b) : FpOk X ((c, o) :: pins) H b := ⟨hf.1, hf.2.1, hf.2.2.1, hf.2.2.2.1, hf.2.2.2.2.1, fun p hp => by
  rcases List.mem_append.mp hp with z | z
  · exact hf.2.2.2.2.2 p (List.mem_append_left _ z)
  · rcases List.mem_cons.mp z with z | z
    · rw [z]; exact h
    · exact hf.2.2.2.2.2 p (List.mem_append_right _ z)⟩
theorem turn_at {b : Addr} {h' : Heap} {tk : Nat} (I : Inv X pins σ H s) (hf : FpOk X pins H b) (k : ∀ c o, c ≠ b → s.heap.get? c = some o → h'.get? c = some o) : Inv X pins σ H { s with heap := h', toks := tk } :=
  I.turned k hf.1 hf.2.1 hf.2.2.2.1 hf.2.2.2.2.1 hf.2.2.2.2.2

theorem max_loop {A : Around} {R : Result → Shared → Prop} {l It S f : Addr} {xs : List V} {kf : V → Int} (hh : A.handled = none) (hq : SqL X.K H l xs) (hI : FpOk X pins H It) (hS : FpOk X pins H S) (hIS : It ≠ S)
    (hcall : ∀ (pins' : List (Addr × Obj)) (s' : Shared) (y : V) (u : Value), y ∈ xs → RelV y u → (∀ p ∈ pins, p ∈ pins') → Inv X pins' σ H s' → wpAny (model X.prog X.w) A.in1 (call (.ref f) [u]) (EP X pins' σ fun v H' => H' = H ∧ v = .int (kf y)) (fun _ _ => False) s')
    (hR : ∀ y u s', y ∈ xs → (∀ z ∈ xs, kf z ≤ kf y) → RelV y u → Inv X pins σ H s' → R (.ok (.ret u)) s') :
    ∀ (r j : Nat) (s : Shared) (yb : V) (vb : Value) (tb : Tok) (c : Nat), xs.length - (j + 1) = r → j + 1 ≤ xs.length → Inv X ((S, seqObj "list" #[vb, .int (kf yb) tb] c) :: pins) σ H s → s.heap.IsListIter It l (j + 1) → yb ∈ xs → RelV yb vb → (∀ i z, i ≤ j → xs[i]? = some z → kf z ≤ kf yb) →
      codeAny (model X.prog X.w) A (.builtin "max.loop" ⟨[.ref It, .ref f, .ref S], []⟩) R s := by
  have hname : (toString "max" ++ toString ".loop" : String) = "max.loop" := by decide
  intro r
  induction r with
  | zero =>
    intro j s yb vb tb c hr hj I hit hyb rb hbest
    obtain ⟨its, rv, pl, hz⟩ := I.list hq
    have hl := rv.length
    refine codeAny_builtin PySem.F.entry_max_loop ?_
    rw [Around.under_plainId PySem.F.plain_max_loop _]
    show wpAny _ A.in1 (seqItems? (.ref S) >>= _) _ _ _
    refine wpAny_bind (wpAny_seqItems (pin_head I) rfl ?_)
    show wpAny _ A.in1 (tryCatch (pyNext (.ref It)) _ >>= _) _ _ _
    refine wpAny_bind (wpAny_tryCatch (wpAny_pyNext_list_end hh hit pl.isList (by simp; omega) fun h' eb => ?_))
    have I1 : Inv X ((S, seqObj "list" #[vb, .int (kf yb) tb] c) :: pins) σ H { s with heap := h' } := turn_at (tk := s.toks) I (fp_cons hI (Ne.symm hIS)) fun b o hb e => eb b o hb e
    have s1 := Heap.SameBut.update h' S (Obj.mapSeq fun _ => (#[] : Array Value))
    show wpAny _ A.in1 (updateSeq S (fun _ => #[]) >>= _) _ _ _
    refine wpAny_bind ?_
    refine wpAny_updateSeq (pin_head I1) rfl (wpAny_bind (wpAny_letGo (wpAny_pure ?_)))
    refine hR yb vb _ hyb (fun z hz' => ?_) rb (turn_at (tk := s.toks) (pin_tail I1) hS fun b o hb e => (s1.2 b hb).trans e)
    obtain ⟨i, hi, e⟩ := List.getElem_of_mem hz'
    exact hbest i z (by omega) (by rw [List.getElem?_eq_getElem hi, e])
  | succ r ih =>
    intro j s yb vb tb c hr hj I hit hyb rb hbest
    have hlt : j + 1 < xs.length := by omega
    obtain ⟨its, rv, pl, hz⟩ := I.list hq
    obtain ⟨u, hu, ru⟩ := rv.get (List.getElem?_eq_getElem hlt)
    have hym : xs[j + 1] ∈ xs := List.getElem_mem hlt
    refine codeAny_builtin PySem.F.entry_max_loop ?_
    rw [Around.under_plainId PySem.F.plain_max_loop _]
    show wpAny _ A.in1 (seqItems? (.ref S) >>= _) _ _ _
    refine wpAny_bind (wpAny_seqItems (pin_head I) rfl ?_)
    show wpAny _ A.in1 (tryCatch (pyNext (.ref It)) _ >>= _) _ _ _
    refine wpAny_bind (wpAny_tryCatch (wpAny_pyNext_list_item hit pl.isList (x := u) (by simpa using hu) fun h' st' sb => ?_))
    have I1 : Inv X ((S, seqObj "list" #[vb, .int (kf yb) tb] c) :: pins) σ H { s with heap := h' } := turn_at (tk := s.toks) I (fp_cons hI (Ne.symm hIS)) fun b o hb e => (sb.2 b hb).trans e
    obtain ⟨oI, hoI, hoc, hod⟩ := id st'
    have I2 : Inv X ((It, oI) :: (S, seqObj "list" #[vb, .int (kf yb) tb] c) :: pins) σ H { s with heap := h' } := pin_cons I1 hoI (fp_cons hI (Ne.symm hIS)) fun v z => by rw [hod] at z; cases z
    show wpAny _ A.in1 (tryCatch (holding [u] (call (.ref f) [u])) _ >>= _) _ _ _
    refine wpAny_bind (wpAny_tryCatch (wpAny_holding (wpAny_mono (hcall _ _ _ u hym ru (fun p hp => List.mem_cons_of_mem _ (List.mem_cons_of_mem _ hp)) I2) (fun x s'' he => ?_) fun _ _ hF => hF.elim)))
    obtain ⟨v, H', I3, rx, eH, ev⟩ := he
    subst eH
    subst ev
    obtain ⟨t2, rfl⟩ := rx
    have hit3 : s''.heap.IsListIter It l (j + 1 + 1) := ⟨oI, pin_head I3, hoc, hod⟩
    have I4 := pin_tail I3
    show wpAny _ A.in1 (tryCatch (holding [u, .int (kf xs[j + 1]) t2] (richCompare .Gt (.int (kf xs[j + 1]) t2) (.int (kf yb) tb) >>= _)) _ >>= _) _ _ _
    refine wpAny_bind (wpAny_tryCatch (wpAny_holding (wpAny_bind (CmpOf.ints_gt (prog := X.prog) (w := X.w) (A := A.in1) (P := fun (i : Nat) v => ∃ t, v = .int (if i = 0 then kf xs[j + 1] else kf yb) t) (fun i => if i = 0 then kf xs[j + 1] else kf yb) (fun i v h => h) 0 1 _ _ _ _ _ ⟨t2, rfl⟩ ⟨tb, rfl⟩ ?_))))
    refine wpAny_bind (wpAny_holding (wpAny_truthy_bool ?_))
    refine wpAny_bind (wpAny_letGo (wpAny_pure ?_))
    simp only [if_true, Nat.one_ne_zero, if_false]
    by_cases hb' : kf xs[j + 1] > kf yb
    · have s1 := Heap.SameBut.update s''.heap S (Obj.mapSeq fun _ => #[u, .int (kf xs[j + 1]) t2])
      obtain ⟨c2, hc2⟩ : ∃ c2, (s''.heap.update S (Obj.mapSeq fun _ => #[u, .int (kf xs[j + 1]) t2])).get? S = some (seqObj "list" #[u, .int (kf xs[j + 1]) t2] c2) := ⟨_, get?_update_seq (pin_head I4) fun _ => #[u, .int (kf xs[j + 1]) t2]⟩
      simp only [hb', decide_true, if_true]
      refine wpAny_bind ?_
      refine wpAny_updateSeq (pin_head I4) rfl (wpAny_bind (wpAny_letGo ?_))
      rw [hname]
      have I5 := turn_at (tk := s''.toks) (pin_tail I4) hS fun b o hb e => (s1.2 b hb).trans e
      refine wpAny_pure ⟨plainId_quiet PySem.F.plain_max_loop _, ih (j + 1) _ xs[j + 1] u t2 c2 (by omega) hlt (pin_cons I5 hc2 hS fun v z => by cases z) ⟨oI, (s1.2 It hIS).trans (pin_head I3), hoc, hod⟩ hym ru fun i z hi hz' => ?_⟩
      by_cases e : i = j + 1
      · subst e
        rw [List.getElem?_eq_getElem hlt] at hz'
        rw [Option.some.inj hz']
        exact Int.le_refl _
      · have := hbest i z (by omega) hz'
        omega
    · simp only [hb', decide_false, Bool.false_eq_true, if_false]
      refine wpAny_bind (wpAny_letGo ?_)
      rw [hname]
      refine wpAny_pure ⟨plainId_quiet PySem.F.plain_max_loop _, ih (j + 1) _ yb vb tb c (by omega) hlt I4 hit3 hyb rb fun i z hi hz' => ?_⟩
      by_cases e : i = j + 1
      · subst e
        rw [List.getElem?_eq_getElem hlt] at hz'
        rw [← Option.some.inj hz']
        omega
      · exact hbest i z (by omega) hz'

theorem max_run {A : Around} {E : Value → Shared → Prop} {Q' : Value → Shared → Prop} {l f : Addr} {xs : List V} {kf : V → Int} (hh : A.handled = none) (hq : SqL X.K H l xs) (hne : 0 < xs.length) (I : Inv X pins σ H s)
    (hcall : ∀ (pins' : List (Addr × Obj)) (s' : Shared) (y : V) (u : Value), y ∈ xs → RelV y u → (∀ p ∈ pins, p ∈ pins') → Inv X pins' σ H s' → wpAny (model X.prog X.w) A.in1 (call (.ref f) [u]) (EP X pins' σ fun v H' => H' = H ∧ v = .int (kf y)) (fun _ _ => False) s')
    (hR : ∀ y u s', y ∈ xs → (∀ z ∈ xs, kf z ≤ kf y) → RelV y u → Inv X pins σ H s' → Q' u s') : wpAny (model X.prog X.w) A (call (.builtin "max") [.ref l] [(Str.ofString "key", .ref f)]) Q' E s := by
  have hname : (toString "max" ++ toString ".loop" : String) = "max.loop" := by decide
  obtain ⟨its, rv, pl, hz⟩ := I.list hq
  have hl := rv.length
  refine kmk_tree PySem.F.kind_max PySem.F.plain_max PySem.F.entry_max (kmk_max_key _ _) ?_
  show wpAny _ A.in1 (Builtin.Builtins.bindParams "max" ["key", "default"] 0 ⟨[], [(Str.ofString "key", .ref f)]⟩ >>= _) _ _ s
  refine wpAny_bind (wpAny_of_eq (show Builtin.Builtins.bindParams "max" ["key", "default"] 0 ⟨[], [(Str.ofString "key", .ref f)]⟩ = pure [some (.ref f), none] from rfl) ?_)
  refine wpAny_bind (wpAny_pure ?_)
  refine wpAny_bind (wpAny_pyIter_list pl.isList ?_)
  refine wpAny_bind (wpAny_newList ?_ (Nat.zero_le _))
  rw [hname]
  have hS : (s.heap.push { cls := .type "list_iterator", data := .fields #[.ref l, .int 0 0] }).objs.size = s.heap.objs.size + 1 := Heap.size_push ..
  have hSI : s.heap.objs.size ≠ (s.heap.push { cls := .type "list_iterator", data := .fields #[.ref l, .int 0 0] }).objs.size := by rw [hS]; exact Nat.ne_of_lt (Nat.lt_succ_self _)
  have I0 : Inv X pins σ H { s with heap := (s.heap.push { cls := .type "list_iterator", data := .fields #[.ref l, .int 0 0] }).push (seqObj "list" #[] 0) } := I.kept (t' := s.toks) fun b o e => Heap.get?_push_of_some _ (Heap.get?_push_of_some _ e)
  have hI : FpOk X pins H s.heap.objs.size := I.fpOk (Nat.le_refl _) (I.hok.fresh (Nat.le_refl _))
  have hSp : FpOk X pins H (s.heap.push { cls := .type "list_iterator", data := .fields #[.ref l, .int 0 0] }).objs.size := I.fpOk (by rw [hS]; exact Nat.le_succ _) (I.hok.fresh (by rw [hS]; exact Nat.le_succ _))
  have gI : ((s.heap.push { cls := .type "list_iterator", data := .fields #[.ref l, .int 0 0] }).push (seqObj "list" #[] 0)).get? s.heap.objs.size = some { cls := .type "list_iterator", data := .fields #[.ref l, .int 0 0] } :=
    Heap.get?_push_of_some _ (Heap.get?_push_size _ rfl)
  have gS : ((s.heap.push { cls := .type "list_iterator", data := .fields #[.ref l, .int 0 0] }).push (seqObj "list" #[] 0)).get? (s.heap.push { cls := .type "list_iterator", data := .fields #[.ref l, .int 0 0] }).objs.size = some (seqObj "list" #[] 0) := Heap.get?_push_size _ rfl
  refine wpAny_pure ⟨plainId_quiet PySem.F.plain_max_loop _, ?_⟩
  refine codeAny_builtin PySem.F.entry_max_loop ?_
  rw [Around.under_plainId PySem.F.plain_max_loop _]
  show wpAny _ A.in1 (seqItems? (.ref _) >>= _) _ _ _
  refine wpAny_bind (wpAny_seqItems gS rfl ?_)
  show wpAny _ A.in1 (tryCatch (pyNext (.ref s.heap.objs.size)) _ >>= _) _ _ _
  obtain ⟨u, hu, ru⟩ := rv.get (List.getElem?_eq_getElem hne)
  have hym : xs[0] ∈ xs := List.getElem_mem hne
  have I0S := pin_cons I0 gS hSp fun v z => by cases z
  obtain ⟨its0, rv0, pl0, _⟩ := I0.list hq
  have hu0 := rv0.get (List.getElem?_eq_getElem hne)
  obtain ⟨u0, hu0, ru0⟩ := hu0
  refine wpAny_bind (wpAny_tryCatch (wpAny_pyNext_list_item (i := 0) ⟨_, gI, rfl, rfl⟩ pl0.isList (x := u0) (by simpa using hu0) fun h' st' sb => ?_))
  have I1 := turn_at (tk := s.toks) (h' := h') I0S (fp_cons hI (Ne.symm hSI)) fun b o hb e => (sb.2 b hb).trans e
  obtain ⟨oI, hoI, hoc, hod⟩ := id st'
  have I2 := pin_cons (b := s.heap.objs.size) (o := oI) I1 hoI (fp_cons hI (Ne.symm hSI)) fun v z => by rw [hod] at z; cases z
  show wpAny _ A.in1 (tryCatch (holding [u0] (call (.ref f) [u0])) _ >>= _) _ _ _
  refine wpAny_bind (wpAny_tryCatch (wpAny_holding (wpAny_mono (hcall _ _ _ u0 hym ru0 (fun p hp => List.mem_cons_of_mem _ (List.mem_cons_of_mem _ hp)) I2) (fun x s'' he => ?_) fun _ _ hF => hF.elim)))
  obtain ⟨v, H', I3, rx, eH, ev⟩ := he
  subst eH
  subst ev
  obtain ⟨t2, rfl⟩ := rx
  have I4 := pin_tail I3
  have s1 := Heap.SameBut.update s''.heap (s.heap.push { cls := .type "list_iterator", data := .fields #[.ref l, .int 0 0] }).objs.size (Obj.mapSeq fun _ => #[u0, .int (kf xs[0]) t2])
  obtain ⟨c2, hc2⟩ : ∃ c2, (s''.heap.update (s.heap.push { cls := .type "list_iterator", data := .fields #[.ref l, .int 0 0] }).objs.size (Obj.mapSeq fun _ => #[u0, .int (kf xs[0]) t2])).get? (s.heap.push { cls := .type "list_iterator", data := .fields #[.ref l, .int 0 0] }).objs.size = some (seqObj "list" #[u0, .int (kf xs[0]) t2] c2) := ⟨_, get?_update_seq (pin_head I4) fun _ => #[u0, .int (kf xs[0]) t2]⟩
  show wpAny _ A.in1 (updateSeq (s.heap.push { cls := .type "list_iterator", data := .fields #[.ref l, .int 0 0] }).objs.size (fun _ => #[u0, .int (kf xs[0]) t2]) >>= _) _ _ _
  refine wpAny_bind ?_
  refine wpAny_updateSeq (pin_head I4) rfl ?_
  rw [hname]
  have I5 := turn_at (tk := s''.toks) (pin_tail I4) hSp fun b o hb e => (s1.2 b hb).trans e
  refine wpAny_pure ⟨plainId_quiet PySem.F.plain_max_loop _, max_loop hh hq hI hSp hSI hcall (fun y u s' a b c d => hR y u s' a b c d) _ 0 _ xs[0] u0 t2 c2 rfl hne (pin_cons I5 hc2 hSp fun v z => by cases z) ⟨oI, (s1.2 _ hSI).trans (pin_head I3), hoc, hod⟩ hym ru0 fun i z hi hz' => ?_⟩
  have e : i = 0 := by omega
  subst e
  rw [List.getElem?_eq_getElem hne] at hz'
  rw [Option.some.inj hz']
  exact Int.le_refl _
end
/-- max(e, key=lambda x: body) -/
def tMaxLam (K : PySem.W.Frag) (T : List (Addr × Str)) (ix : Nat) (te tb : TE) : TE := fun σ H Q => te σ H fun v H1 => ∃ (l : Addr) (xs : List V) (kf : V → Int), v = .ref l ∧ SqL K H1 l xs ∧ 0 < xs.length ∧ Tabs T H1 ∧
  ∀ H2, ExtN H1 H2 → Tabs T H2 → (∀ y ∈ xs, tb (σ.set ix (some y)) H2 fun v H' => H' = H2 ∧ v = .int (kf y)) ∧ ∀ y ∈ xs, (∀ z ∈ xs, kf z ≤ kf y) → Q y H2
section
variable {X : Cx}
theorem pe_maxLam {T : List (Addr × Str)} {c P : Addr} {e : Expr} {x : Str} {ix k : Nat} {params : Arguments} {body : Expr} {scope : Scope} {te tb : TE} {p lpos kpos pos : Pos} (hs : X.stack = X.env :: X.outer) (hfm : X.env.frame = some X.env.locals)
    (hg : Gl X "max") (hm : X.mg "max" = none) (he : PE X e te) (TB : LamX.TabB X.base X.mg c P) (hcode : X.env.code = .ref c) (hmT : (P, X.env.qual ++ "<lambda>") ∈ T) (hu : ∀ p ∈ T, p.1 = P → p.2 = X.env.qual ++ "<lambda>") (hr : Room (k + 3) X.A)
    (S : L1S X.N X.env.scope scope x ix) (hdef : defaultsOf params X.env = ([], []))
    (hbind : ∀ (q : Str) (cl : List (Str × Addr)) (pm cv ctv u : Value), bindArgs (PySem.W.kla_fn "<lambda>" q params body scope cl pm cv ctv) ⟨[u], []⟩ = pure [(x, u)])
    (hbody : ∀ (A : Around) (L f c' : Addr) (s : Shared) (H : Hp), Room k (A.deeper (lamEnv X scope L f c')) → PE (genCx X A (lamEnv X scope L f c') s H []) body tb) (hv : bootBuiltins "max" = some (.builtin "max") := by decide +kernel)
    (h1 : backTo pos (starEach [e] X.env) = (false, eval e X.env) :: backTo pos (starEach [] X.env) := by rfl) :
    PE X (.Call (.Name "max" p) [e] [⟨some "key", .Lambda params body scope lpos, kpos⟩] pos) (tMaxLam X.K T ix te tb) := by
  refine ⟨fun pins s σ H Q I h => ?_⟩
  refine wpAny_Call_Name_kw (ld_blt I hg hm hv ?_)
  refine PyProof.Rows.callWith_kw ?_ h1 (by rw [h1]; rfl) (by rfl) (by rfl)
  rw [h1]
  show wpAny _ _ (spliced ((false, eval e X.env) :: backTo pos (starEach [] X.env))) _ _ s
  refine Calls.spliced_cons (thn (he.run pins s σ H _ I h) fun v s1 hv1 => ?_)
  obtain ⟨vv, H1, I1, rv, l, xs, kf, ev, hq, hne, hT, hk⟩ := hv1
  subst ev
  obtain rfl : v = Value.ref l := rv
  refine Calls.spliced_nil ?_
  refine PyProof.Rows.kws_cons (lam_make2 I1 TB hcode hmT hu hT hdef (S.has I1.ok) fun f c' pm ctv H2 s2 I2 eN T2 hf hfn hfr hco => ?_)
  refine PyProof.Rows.kws_nil ?_
  obtain ⟨hb, hQ⟩ := hk H2 eN T2
  have fL : f ≠ X.env.locals ∧ f ∉ X.fs := by
    have e1 : frs X.stack = X.env.locals :: X.fs := by
      rw [hs]
      show frs (X.env :: X.outer) = _
      unfold frs
      rw [List.filterMap_cons, hfm] <;> rfl
    rw [e1] at hfr
    exact ⟨fun z => hfr (by rw [z]; exact List.mem_cons_self), fun z => hfr (List.mem_cons_of_mem _ z)⟩
  have hq2 : SqL X.K H2 l xs := by
    rcases hq with (q | ⟨o, q⟩) | q
    · exact .inl (.inl (eN _ _ q (fun ps z => by cases z)))
    · exact .inl (.inr ⟨o, eN _ _ q (fun ps z => by cases z)⟩)
    · exact .inr q
  have I3 : Inv X ((f, PySem.W.kla_obj "<lambda>" (X.env.qual ++ "<lambda>") params body scope (cloFrom X.env.cells scope.names []) pm c' ctv) :: pins) σ H2 s2 := I2.pins_of fun p hp => by
    rcases List.mem_cons.mp hp with z | z
    · rw [z]
      exact ⟨hf, hfn, fL.1, fL.2, fun v q => by cases q⟩
    · exact I2.pin p (List.mem_append_right _ z)
  show wpAny _ _ (call (.builtin "max") [.ref l] [(Str.ofString "key", .ref f)]) _ _ s2
  refine max_run (kf := kf) hr.hd hq2 hne I3 (fun pins' s' y u hy ru hp I' => ?_) fun y u s' hy hbest ru I' => ⟨y, H2, pin_tail I', ru, hQ y hy hbest⟩
  have hf' : s'.heap.get? f = some (PySem.W.kla_obj "<lambda>" (X.env.qual ++ "<lambda>") params body scope (cloFrom X.env.cells scope.names []) pm c' ctv) := (I'.pin (f, _) (List.mem_append_right _ (hp _ List.mem_cons_self))).1
  exact lam1_call (k := k + 1) I' S (hr.in1) I'.ok.frames hf' hco (hbind _ _ _ _ _ _) (fun L s3 hr3 => hbody _ _ _ _ _ _ (hr3.mono (Nat.le_succ _))) ru (hb y hy)
end

section
variable {X : Cx} {pins : List (Addr × Obj)} {σ : L2.St} {H : Hp} {s : Shared}
theorem min_loop {A : Around} {R : Result → Shared → Prop} {l It S : Addr} {xs : List V} {kf : V → Int} (hh : A.handled = none) (hq : SqL X.K H l xs) (hI : FpOk X pins H It) (hS : FpOk X pins H S) (hIS : It ≠ S)
    (hcmp : ∀ (pins' : List (Addr × Obj)) (s' : Shared) (y1 y2 : V) (u1 u2 : Value), y1 ∈ xs → y2 ∈ xs → RelV y1 u1 → RelV y2 u2 → Inv X pins' σ H s' → SeqAt.RcLt A.in1 s' u1 u2 (decide (kf y1 < kf y2)))
    (hR : ∀ y u s', y ∈ xs → (∀ z ∈ xs, kf y ≤ kf z) → RelV y u → Inv X pins σ H s' → R (.ok (.ret u)) s') :
    ∀ (r j : Nat) (s : Shared) (yb : V) (vb : Value) (c : Nat), xs.length - (j + 1) = r → j + 1 ≤ xs.length → Inv X ((S, seqObj "list" #[vb, vb] c) :: pins) σ H s → s.heap.IsListIter It l (j + 1) → yb ∈ xs → RelV yb vb → (∀ i z, i ≤ j → xs[i]? = some z → kf yb ≤ kf z) →
      codeAny (model X.prog X.w) A (.builtin "min.loop" ⟨[.ref It, .none, .ref S], []⟩) R s := by
  have hname : (toString "min" ++ toString ".loop" : String) = "min.loop" := by decide
  intro r
  induction r with
  | zero =>
    intro j s yb vb c hr hj I hit hyb rb hbest
    obtain ⟨its, rv, pl, hz⟩ := I.list hq
    have hl := rv.length
    refine codeAny_builtin PySem.F.entry_min_loop ?_
    rw [Around.under_plainId PySem.F.plain_min_loop _]
    show wpAny _ A.in1 (seqItems? (.ref S) >>= _) _ _ _
    refine wpAny_bind (wpAny_seqItems (pin_head I) rfl ?_)
    show wpAny _ A.in1 (tryCatch (pyNext (.ref It)) _ >>= _) _ _ _
    refine wpAny_bind (wpAny_tryCatch (wpAny_pyNext_list_end hh hit pl.isList (by simp; omega) fun h' eb => ?_))
    have I1 : Inv X ((S, seqObj "list" #[vb, vb] c) :: pins) σ H { s with heap := h' } := turn_at (tk := s.toks) I (fp_cons hI (Ne.symm hIS)) fun b o hb e => eb b o hb e
    have s1 := Heap.SameBut.update h' S (Obj.mapSeq fun _ => (#[] : Array Value))
    show wpAny _ A.in1 (updateSeq S (fun _ => #[]) >>= _) _ _ _
    refine wpAny_bind ?_
    refine wpAny_updateSeq (pin_head I1) rfl (wpAny_bind (wpAny_letGo (wpAny_pure ?_)))
    refine hR yb vb _ hyb (fun z hz' => ?_) rb (turn_at (tk := s.toks) (pin_tail I1) hS fun b o hb e => (s1.2 b hb).trans e)
    obtain ⟨i, hi, e⟩ := List.getElem_of_mem hz'
    exact hbest i z (by omega) (by rw [List.getElem?_eq_getElem hi, e])
  | succ r ih =>
    intro j s yb vb c hr hj I hit hyb rb hbest
    have hlt : j + 1 < xs.length := by omega
    obtain ⟨its, rv, pl, hz⟩ := I.list hq
    obtain ⟨u, hu, ru⟩ := rv.get (List.getElem?_eq_getElem hlt)
    have hym : xs[j + 1] ∈ xs := List.getElem_mem hlt
    refine codeAny_builtin PySem.F.entry_min_loop ?_
    rw [Around.under_plainId PySem.F.plain_min_loop _]
    show wpAny _ A.in1 (seqItems? (.ref S) >>= _) _ _ _
    refine wpAny_bind (wpAny_seqItems (pin_head I) rfl ?_)
    show wpAny _ A.in1 (tryCatch (pyNext (.ref It)) _ >>= _) _ _ _
    refine wpAny_bind (wpAny_tryCatch (wpAny_pyNext_list_item hit pl.isList (x := u) (by simpa using hu) fun h' st' sb => ?_))
    have I1 : Inv X ((S, seqObj "list" #[vb, vb] c) :: pins) σ H { s with heap := h' } := turn_at (tk := s.toks) I (fp_cons hI (Ne.symm hIS)) fun b o hb e => (sb.2 b hb).trans e
    refine wpAny_bind (wpAny_pure ?_)
    show wpAny _ A.in1 (tryCatch (holding [u, u] (richCompare .Lt u vb >>= _)) _ >>= _) _ _ _
    refine wpAny_bind (wpAny_tryCatch (wpAny_holding (wpAny_bind (hcmp _ _ _ _ u vb hym hyb ru rb I1 X.prog X.w _ _ ?_))))
    refine wpAny_bind (wpAny_holding (wpAny_truthy_bool ?_))
    refine wpAny_bind (wpAny_letGo (wpAny_pure ?_))
    by_cases hb' : kf xs[j + 1] < kf yb
    · have s1 := Heap.SameBut.update h' S (Obj.mapSeq fun _ => #[u, u])
      obtain ⟨c2, hc2⟩ : ∃ c2, (h'.update S (Obj.mapSeq fun _ => #[u, u])).get? S = some (seqObj "list" #[u, u] c2) := ⟨_, get?_update_seq (pin_head I1) fun _ => #[u, u]⟩
      simp only [hb', decide_true, if_true]
      refine wpAny_bind ?_
      refine wpAny_updateSeq (pin_head I1) rfl (wpAny_bind (wpAny_letGo ?_))
      rw [hname]
      have I5 := turn_at (tk := s.toks) (pin_tail I1) hS fun b o hb e => (s1.2 b hb).trans e
      obtain ⟨oI, hoI, hoc, hod⟩ := id st'
      refine wpAny_pure ⟨plainId_quiet PySem.F.plain_min_loop _, ih (j + 1) _ xs[j + 1] u c2 (by omega) hlt (pin_cons I5 hc2 hS fun v z => by cases z) ⟨oI, (s1.2 It hIS).trans hoI, hoc, hod⟩ hym ru fun i z hi hz' => ?_⟩
      by_cases e : i = j + 1
      · subst e
        rw [List.getElem?_eq_getElem hlt] at hz'
        rw [Option.some.inj hz']
        exact Int.le_refl _
      · have := hbest i z (by omega) hz'
        omega
    · simp only [hb', decide_false, Bool.false_eq_true, if_false]
      refine wpAny_bind (wpAny_letGo ?_)
      rw [hname]
      refine wpAny_pure ⟨plainId_quiet PySem.F.plain_min_loop _, ih (j + 1) _ yb vb c (by omega) hlt I1 st' hyb rb fun i z hi hz' => ?_⟩
      by_cases e : i = j + 1
      · subst e
        rw [List.getElem?_eq_getElem hlt] at hz'
        rw [← Option.some.inj hz']
        omega
      · exact hbest i z (by omega) hz'
theorem min_run {A : Around} {E : Value → Shared → Prop} {Q' : Value → Shared → Prop} {l : Addr} {xs : List V} {kf : V → Int} (hh : A.handled = none) (hq : SqL X.K H l xs) (hne : 0 < xs.length) (I : Inv X pins σ H s)
    (hcmp : ∀ (pins' : List (Addr × Obj)) (s' : Shared) (y1 y2 : V) (u1 u2 : Value), y1 ∈ xs → y2 ∈ xs → RelV y1 u1 → RelV y2 u2 → Inv X pins' σ H s' → SeqAt.RcLt A.in1 s' u1 u2 (decide (kf y1 < kf y2)))
    (hR : ∀ y u s', y ∈ xs → (∀ z ∈ xs, kf y ≤ kf z) → RelV y u → Inv X pins σ H s' → Q' u s') : wpAny (model X.prog X.w) A (call (.builtin "min") [.ref l]) Q' E s := by
  have hname : (toString "min" ++ toString ".loop" : String) = "min.loop" := by decide
  obtain ⟨its, rv, pl, hz⟩ := I.list hq
  have hl := rv.length
  refine call_function_tree PySem.F.kind_min PySem.F.plain_min PySem.F.entry_min (PySem.F.args_min1 _) ?_
  show wpAny _ A.in1 (Builtin.Builtins.bindParams "min" ["key", "default"] 0 ⟨[], []⟩ >>= _) _ _ s
  refine wpAny_bind (wpAny_of_eq (show Builtin.Builtins.bindParams "min" ["key", "default"] 0 ⟨[], []⟩ = pure [none, none] from rfl) ?_)
  refine wpAny_bind (wpAny_pure ?_)
  refine wpAny_bind (wpAny_pyIter_list pl.isList ?_)
  refine wpAny_bind (wpAny_newList ?_ (Nat.zero_le _))
  rw [hname]
  have hS : (s.heap.push { cls := .type "list_iterator", data := .fields #[.ref l, .int 0 0] }).objs.size = s.heap.objs.size + 1 := Heap.size_push ..
  have hSI : s.heap.objs.size ≠ (s.heap.push { cls := .type "list_iterator", data := .fields #[.ref l, .int 0 0] }).objs.size := by rw [hS]; exact Nat.ne_of_lt (Nat.lt_succ_self _)
  have I0 : Inv X pins σ H { s with heap := (s.heap.push { cls := .type "list_iterator", data := .fields #[.ref l, .int 0 0] }).push (seqObj "list" #[] 0) } := I.kept (t' := s.toks) fun b o e => Heap.get?_push_of_some _ (Heap.get?_push_of_some _ e)
  have hI : FpOk X pins H s.heap.objs.size := I.fpOk (Nat.le_refl _) (I.hok.fresh (Nat.le_refl _))
  have hSp : FpOk X pins H (s.heap.push { cls := .type "list_iterator", data := .fields #[.ref l, .int 0 0] }).objs.size := I.fpOk (by rw [hS]; exact Nat.le_succ _) (I.hok.fresh (by rw [hS]; exact Nat.le_succ _))
  have gI : ((s.heap.push { cls := .type "list_iterator", data := .fields #[.ref l, .int 0 0] }).push (seqObj "list" #[] 0)).get? s.heap.objs.size = some { cls := .type "list_iterator", data := .fields #[.ref l, .int 0 0] } :=
    Heap.get?_push_of_some _ (Heap.get?_push_size _ rfl)
  have gS : ((s.heap.push { cls := .type "list_iterator", data := .fields #[.ref l, .int 0 0] }).push (seqObj "list" #[] 0)).get? (s.heap.push { cls := .type "list_iterator", data := .fields #[.ref l, .int 0 0] }).objs.size = some (seqObj "list" #[] 0) := Heap.get?_push_size _ rfl
  refine wpAny_pure ⟨plainId_quiet PySem.F.plain_min_loop _, ?_⟩
  refine codeAny_builtin PySem.F.entry_min_loop ?_
  rw [Around.under_plainId PySem.F.plain_min_loop _]
  show wpAny _ A.in1 (seqItems? (.ref _) >>= _) _ _ _
  refine wpAny_bind (wpAny_seqItems gS rfl ?_)
  show wpAny _ A.in1 (tryCatch (pyNext (.ref s.heap.objs.size)) _ >>= _) _ _ _
  have hym : xs[0] ∈ xs := List.getElem_mem hne
  have I0S := pin_cons I0 gS hSp fun v z => by cases z
  obtain ⟨its0, rv0, pl0, _⟩ := I0.list hq
  obtain ⟨u0, hu0, ru0⟩ := rv0.get (List.getElem?_eq_getElem hne)
  refine wpAny_bind (wpAny_tryCatch (wpAny_pyNext_list_item (i := 0) ⟨_, gI, rfl, rfl⟩ pl0.isList (x := u0) (by simpa using hu0) fun h' st' sb => ?_))
  have I1 := turn_at (tk := s.toks) (h' := h') I0S (fp_cons hI (Ne.symm hSI)) fun b o hb e => (sb.2 b hb).trans e
  obtain ⟨oI, hoI, hoc, hod⟩ := id st'
  refine wpAny_bind (wpAny_pure ?_)
  have s1 := Heap.SameBut.update h' (s.heap.push { cls := .type "list_iterator", data := .fields #[.ref l, .int 0 0] }).objs.size (Obj.mapSeq fun _ => #[u0, u0])
  obtain ⟨c2, hc2⟩ : ∃ c2, (h'.update (s.heap.push { cls := .type "list_iterator", data := .fields #[.ref l, .int 0 0] }).objs.size (Obj.mapSeq fun _ => #[u0, u0])).get? (s.heap.push { cls := .type "list_iterator", data := .fields #[.ref l, .int 0 0] }).objs.size = some (seqObj "list" #[u0, u0] c2) := ⟨_, get?_update_seq (pin_head I1) fun _ => #[u0, u0]⟩
  show wpAny _ A.in1 (updateSeq (s.heap.push { cls := .type "list_iterator", data := .fields #[.ref l, .int 0 0] }).objs.size (fun _ => #[u0, u0]) >>= _) _ _ _
  refine wpAny_bind ?_
  refine wpAny_updateSeq (pin_head I1) rfl ?_
  rw [hname]
  have I5 := turn_at (tk := s.toks) (pin_tail I1) hSp fun b o hb e => (s1.2 b hb).trans e
  refine wpAny_pure ⟨plainId_quiet PySem.F.plain_min_loop _, min_loop hh hq hI hSp hSI hcmp (fun y u s' a b c d => hR y u s' a b c d) _ 0 _ xs[0] u0 c2 rfl hne (pin_cons I5 hc2 hSp fun v z => by cases z) ⟨oI, (s1.2 _ hSI).trans hoI, hoc, hod⟩ hym ru0 fun i z hi hz' => ?_⟩
  have e : i = 0 := by omega
  subst e
  rw [List.getElem?_eq_getElem hne] at hz'
  rw [Option.some.inj hz']
  exact Int.le_refl _
end

/-! ### tuples whose first items differ -/
open AutoSeq1 (wpAny_loadPart') in
open MeetsSeq MeetsSeq2 MeetsSeq3 SeqRoads2 SeqAt in
theorem tuple_lt0 (l b : Addr) (items items2 : Array Value) (n n2 : Nat) (dd dd2 : Option Addr) (sl sl2 : Array (Option Value)) (k : Bool) (h01 : 0 < items.size) (h02 : 0 < items2.size) :
    Meets (Builtin.«tuple.__lt__» ⟨[.ref l, .ref b], []⟩)
      (fun A R s => s.heap.get? l = some { cls := .type "tuple", dict := dd, data := .seq items n, slots := sl } ∧ s.heap.get? b = some { cls := .type "tuple", dict := dd2, data := .seq items2 n2, slots := sl2 } ∧
        SeqAt.EqAt A.in1 s items[0] items2[0] false ∧ SeqAt.RcLt A.in1 s items[0] items2[0] k ∧
        R (.ok (.ret (.bool k))) s) :=
  .of_wp fun prog w A R s h => by
    obtain ⟨hp, g, d, tk, os⟩ := s; obtain ⟨hl, hb, he, hr, h⟩ := h
    have f2 := AutoSeq1.sub_tuple_tuple
    have hZ : (items.toList.zip items2.toList).length = min items.size items2.size := by simp
    have h0 : 0 < (items.toList.zip items2.toList).length := by rw [hZ]; exact Nat.lt_min.mpr ⟨h01, h02⟩
    wp_walk using wpAny_loadPart' hl, wpAny_loadPart' hb, wpAny_forIn_list _ (fun rest b s' => b.1 = none ∧ s' = ⟨hp, g, d, tk, os⟩ ∧ rest = items.toList.zip items2.toList) _
    case turn =>
      rintro ⟨y, x⟩ rest b s' ⟨hb', rfl, hz⟩
      have hz2 : (y, x) :: rest = (items.toList.zip items2.toList).drop 0 := by rw [List.drop_zero]; exact hz
      rw [List.drop_eq_getElem_cons h0] at hz2
      injection hz2 with hyx hrest
      have hy : y = items[0] := by have := congrArg Prod.fst hyx; simpa using this
      have hx : x = items2[0] := by have := congrArg Prod.snd hyx; simpa using this
      subst hy hx
      refine wpAny_bind (he prog w _ _ ?_)
      obtain ⟨m, hm⟩ : ∃ m, m = PySem.richCompare CmpOp.Lt items[0] items2[0] := ⟨_, rfl⟩
      have hr2 : ∀ Q E, Q (Value.bool k) ⟨hp, g, d, tk, os⟩ → wpAny (model prog w) A.in1 m Q E ⟨hp, g, d, tk, os⟩ := by rw [hm]; exact fun Q E => hr prog w E Q
      simp only [← hm]
      wp_walk
      refine hr2 _ _ ?_
      wp_walk
      exact ⟨_, rfl, h⟩
    case fin =>
      rintro ⟨b1, b2⟩ s' ⟨hb', rfl, hz⟩
      rw [← hz] at h0
      exact absurd h0 (by simp)
    case h =>
      exact ⟨rfl, rfl, rfl⟩
theorem rcLt_first {A : Around} {s : Shared} {l b : Addr} {items items2 : Array Value} {k : Bool} (hl : s.heap.IsTuple l items) (hb : s.heap.IsTuple b items2) (hu : A.units < cLine) (h01 : 0 < items.size) (h02 : 0 < items2.size)
    (he : SeqAt.EqAt A.in1 s items[0] items2[0] false) (hr : SeqAt.RcLt A.in1 s items[0] items2[0] k) : SeqAt.RcLt A s (.ref l) (.ref b) k := fun prog w E Q h => by
  obtain ⟨⟨cls, dd, data, sl⟩, ho, hc, n, hd⟩ := id hl
  obtain ⟨⟨cls2, dd2, data2, sl2⟩, ho2, hc2, n2, hd2⟩ := id hb
  simp only at hc hd hc2 hd2
  subst hc hd hc2 hd2
  exact PySem.richCompare_meets_room (op := .Lt) ⟨_, ho, rfl⟩ ⟨_, ho2, rfl⟩ F.slot_tuple_lt F.entry_tuple_lt (F.args_tuple_lt_2 _ _) (tuple_lt0 l b items items2 n n2 dd dd2 sl sl2 k h01 h02)
    ⟨ho, ho2, he, hr, show Value.bool k ≠ Value.notImplemented ∧ Q (.bool k) s from ⟨(fun x => nomatch x), h⟩⟩ hu
/-- min(xs), xs a list of tuples (int, text, None or int), equal where their first items are -/
def rMinT (K : PySem.W.Frag) : List V → Hp → VK → Prop := fun vs H Q => ∃ (l : Addr) (xs : List V) (kf : V → Int) (st : V → Str) (w : V → V), vs = [.ref l] ∧ SqL K H l xs ∧ 0 < xs.length ∧
  (∀ y ∈ xs, ∃ a, y = .ref a ∧ SqT K H a [.int (kf y), .str (st y), w y] ∧ (w y = .non ∨ ∃ i, w y = .int i)) ∧ (∀ y ∈ xs, ∀ z ∈ xs, kf y = kf z → st y = st z ∧ w y = w z) ∧ ∀ y ∈ xs, (∀ z ∈ xs, kf y ≤ kf z) → Q y H
theorem vals3 {x y z : V} {us : List Value} (r : Vals [x, y, z] us) : ∃ u v w, us = [u, v, w] ∧ RelV x u ∧ RelV y v ∧ RelV z w := by
  cases r with
  | cons r1 r =>
    cases r with
    | cons r2 r =>
      cases r with
      | cons r3 r =>
        cases r
        exact ⟨_, _, _, rfl, r1, r2, r3⟩
theorem rcLt_int {A : Around} {s : Shared} (i j : Int) (t u : Tok) : SeqAt.RcLt A s (.int i t) (.int j u) (decide (i < j)) := fun prog w E Q h => by
  have e : decide (i < j) = (fun a b : Nat => decide ((if a = 0 then i else j) < (if b = 0 then i else j))) 0 1 := by simp
  refine CmpOf.ints_lt (prog := prog) (w := w) (A := A) (P := fun (n : Nat) v => ∃ t, v = .int (if n = 0 then i else j) t) (fun n => if n = 0 then i else j) (fun i v h => h) 0 1 _ _ _ _ _ ⟨t, rfl⟩ ⟨u, rfl⟩ ?_
  simpa using h
theorem cr_minT {X : Cx} {k : Nat} (hc : X.calm = true) (hr : Room k X.A) : CallR X (.builtin "min") (rMinT X.K) := by
  intro pins s σ H vs us Q I r h
  obtain ⟨l, xs, kf, st, w, rfl, hq, hne, ht, heq, hQ⟩ := h
  obtain ⟨u, rfl, ru⟩ := vals1 r
  obtain rfl : u = Value.ref l := ru
  refine min_run (kf := kf) hr.hd hq hne I (fun pins' s' y1 y2 u1 u2 h1 h2 r1 r2 I' => ?_) fun y u s' hy hb ru I' => ⟨y, H, I', ru, hQ y hy hb⟩
  obtain ⟨a1, e1, t1, w1⟩ := ht y1 h1
  obtain ⟨a2, e2, t2, w2⟩ := ht y2 h2
  rw [e1] at r1
  rw [e2] at r2
  obtain rfl : u1 = Value.ref a1 := r1
  obtain rfl : u2 = Value.ref a2 := r2
  obtain ⟨its1, rv1, p1, _⟩ := I'.tuple t1
  obtain ⟨its2, rv2, p2, _⟩ := I'.tuple t2
  obtain ⟨x1, x2, x3, rfl, q1, q2, q3⟩ := vals3 rv1
  obtain ⟨z1, z2, z3, rfl, q4, q5, q6⟩ := vals3 rv2
  obtain ⟨tk1, rfl⟩ := q1
  obtain ⟨tk2, rfl⟩ := q2
  obtain ⟨tk4, rfl⟩ := q4
  obtain ⟨tk5, rfl⟩ := q5
  have hu : X.A.in1.units < cLine := by
    have := hr.un
    show X.A.units + 1 < cLine
    omega
  by_cases e : kf y1 = kf y2
  · obtain ⟨es, ew⟩ := heq y1 h1 y2 h2 e
    have e9 : decide (kf y1 < kf y2) = false := by simp [e]
    rw [e9]
    have key := SeqAt.RcLt.tuples (A := X.A.in1) (s := s') (items := [Value.int (kf y1) tk1, Value.str (st y1) tk2, x3].toArray) (items2 := [Value.int (kf y2) tk4, Value.str (st y2) tk5, z3].toArray) (e := fun _ => true) (r := fun _ => false) p1 p2 hu
      (fun j hj1 hj2 => ?_) (fun j hj1 hj2 z => by cases z)
    · simpa [SeqAt.firstLt, List.range, List.range.loop] using key
    · have hj : j < 3 := by simpa using hj1
      rcases j with _ | _ | _ | j
      · simpa [e] using SeqAt.EqAt.int_int (A := X.A.in1.in1) (s := s') (kf y1) tk1 (kf y2) tk4
      · simpa [es] using SeqAt.EqAt.str_str (A := X.A.in1.in1) (s := s') (st y1) tk2 (st y2) tk5
      · rw [← ew] at q6
        rcases w1 with w1 | ⟨i, w1⟩
        · rw [w1] at q3 q6
          obtain rfl : x3 = Value.none := q3
          obtain rfl : z3 = Value.none := q6
          exact SeqAt.EqAt.same Value.none
        · rw [w1] at q3 q6
          obtain ⟨a, rfl⟩ := q3
          obtain ⟨b, rfl⟩ := q6
          simpa using SeqAt.EqAt.int_int (A := X.A.in1.in1) (s := s') i a i b
      · omega
  · refine rcLt_first p1 p2 hu (by simp) (by simp) ?_ ?_
    · have := SeqAt.EqAt.int_int (A := X.A.in1.in1) (s := s') (kf y1) tk1 (kf y2) tk4
      have e8 : (kf y1 == kf y2) = false := by simpa using e
      rw [e8] at this
      exact this
    · exact rcLt_int _ _ _ _
end LX

set_option Elab.async false
set_option linter.all false
set_option maxRecDepth 100000
set_option maxHeartbeats 2000000
/-! RX: enumerate over a tuple, tuple.count and list.remove of flat items, list(text), str(None). -/
namespace RX
open PySem PySem.Spec PyProof.Rows L2
open AutoSeq1 (wpAny_loadPart')
theorem meets_enumerate_newT (l : Addr) (items : Array Value) :
    Meets (Builtin.«enumerate.__new__» ⟨[.type "enumerate", .ref l], []⟩) (fun _ R s => s.heap.IsTuple l items ∧
      R (.ok (.ret (.ref (s.heap.push { cls := .type "tuple_iterator", data := .fields #[.ref l, .int 0 0] }).objs.size)))
        { s with heap := (s.heap.push { cls := .type "tuple_iterator", data := .fields #[.ref l, .int 0 0] }).push { cls := .type "enumerate", data := .fields #[.none, .bool false, .ref s.heap.objs.size, rawInt 0, .none, .none] } }) :=
  .of_wp fun prog w A R s h => by
    obtain ⟨hp, g, d, tk, os⟩ := s; obtain ⟨hl, h⟩ := h
    have hsub := sub_enumerate
    have q1 : ∀ {A' : Around} {E : Value → Shared → Prop} {Q : Value → Shared → Prop}, Q (.ref hp.objs.size) ⟨hp.push { cls := .type "tuple_iterator", data := .fields #[.ref l, .int 0 0] }, g, d, tk, os⟩ → wpAny (model prog w) A' (pyIter (.ref l)) Q E ⟨hp, g, d, tk, os⟩ :=
      fun q => wpAny_pyIter_tuple hl q
    wp_walk using q1
    refine wpAny_stack_any fun st => wpAny_pure ?_
    split
    · rename_i c _ _ _ _ _
      cases (c == Value.type "enumerate")
      · wp_walk using q1
        exact ⟨_, rfl, h⟩
      · wp_walk using q1
        exact ⟨_, rfl, h⟩
    · wp_walk using q1
      exact ⟨_, rfl, h⟩
section
variable {prog : Program} {w : World} {A : Around} {E : Value → Shared → Prop} {s : Shared}
theorem call_enumerate_tuple {l : Addr} {items : Array Value} {Q : Value → Shared → Prop} (hL : s.heap.IsTuple l items)
    (h : ∀ h', IsEnum h' (s.heap.objs.size + 1) s.heap.objs.size 0 .none → h'.IsTupleIter s.heap.objs.size l 0 → h'.objs.size = s.heap.objs.size + 2 →
      (∀ b o, s.heap.get? b = some o → h'.get? b = some o) → Q (.ref (s.heap.objs.size + 1)) { s with heap := h' }) :
    wpAny (model prog w) A (call (.type "enumerate") [.ref l]) Q E s := by
  refine callType_new F.called_enumerate (by decide) (F.typeCall_enumerate_1 _) (F.newCall_enumerate_1 _) (fun obj => F.args_object_init_2 obj _) F.entry_enumerate_new
    (meets_enumerate_newT l items) ⟨hL, ?_⟩
  have hz : (s.heap.push { cls := .type "tuple_iterator", data := .fields #[.ref l, .int 0 0] }).objs.size = s.heap.objs.size + 1 := Heap.size_push ..
  show _ ∧ _
  rw [hz]
  have he : IsEnum ((s.heap.push { cls := .type "tuple_iterator", data := .fields #[.ref l, .int 0 0] }).push
      { cls := .type "enumerate", data := .fields #[.none, .bool false, .ref s.heap.objs.size, rawInt 0, .none, .none] }) (s.heap.objs.size + 1) s.heap.objs.size 0 .none := by
    have := Heap.get?_push_size (s.heap.push { cls := .type "tuple_iterator", data := .fields #[.ref l, .int 0 0] }) (o := { cls := .type "enumerate", data := .fields #[.none, .bool false, .ref s.heap.objs.size, rawInt 0, .none, .none] }) rfl
    rw [hz] at this
    exact this
  refine ⟨⟨_, he, rfl⟩, ?_⟩
  exact h _ he ⟨_, Heap.get?_push_of_some _ (Heap.get?_push_size _ rfl), rfl, rfl⟩ (by rw [Heap.size_push, hz]) fun b o e => Heap.get?_push_of_some _ (Heap.get?_push_of_some _ e)
end
def Itet (K : PySem.W.Frag) (a : Addr) : It :=
  ⟨fun i H => ∃ (xs : List V) (x : V), SqT K H a xs ∧ xs[i]? = some x, fun i H v H' => ∃ T x, v = .ref T ∧ H T = none ∧ H' = upd H T (.tup [.int (i : Nat), x]) ∧ ∀ xs, SqT K H a xs → xs[i]? = some x, fun i H => ∃ xs : List V, SqT K H a xs ∧ xs.length = i⟩
theorem turn_enumT {P : Program} {w : World} {K : PySem.W.Frag} {elts : List Expr} {kk : Nat} {tpos : Pos} (a e it : Addr) :
    Turn P w K (.Tuple elts kk tpos) (Itet K a) [e, it] e (fun i h => (∃ old, IsEnum h e it ((i : Nat) : Int) old) ∧ h.IsTupleIter it a i ∧ e ≠ it ∧ a ≠ it) where
  mem := by simp
  obj := fun i h st b hb => by
    obtain ⟨⟨old, he⟩, ⟨o, ho, hc, hd⟩, _⟩ := st
    have e' : b = e ∨ b = it := by simpa using hb
    rcases e' with z | z
    · rw [z]; exact ⟨_, he, fun v q => nomatch q⟩
    · rw [z]; exact ⟨o, ho, fun v q => by rw [hd] at q; cases q⟩
  keep := fun i h h' st k => let ⟨⟨old, he⟩, hi, hne⟩ := st; ⟨⟨old, k e (by simp) _ he⟩, hi.at fun o q => k it (by simp) o q, hne⟩
  item := by
    intro X hP hw hK hc i pins s σ H E I hf st hg
    subst hP hw hK
    obtain ⟨⟨old, he⟩, hit, hne, hai⟩ := st
    obtain ⟨xs, x, hq, hx⟩ := hg
    obtain ⟨its, rv, p, hz⟩ := I.tuple hq
    obtain ⟨u, hu, ru⟩ := rv.get hx
    have hel : e < s.heap.objs.size := Heap.lt_size he
    have hil : it < s.heap.objs.size := by obtain ⟨_, q, _⟩ := hit; exact Heap.lt_size q
    have pT : s.heap.IsTuple a its.toArray := p
    have hae : a ≠ e := fun z => by
      obtain ⟨o, ho, hc', _⟩ := pT
      rw [z, he] at ho
      cases ho
      injection hc' with q
      exact absurd q (by decide)
    have hlt : i < its.toArray.size := by
      have h1 := rv.length
      have h2 := (List.getElem?_eq_some_iff.mp hx).1
      rw [List.size_toArray]
      omega
    refine wpAny_pyNext_enum_itemD (Draws.tuple (prog := X.prog) (w := X.w) (A := X.A.in1) (I.ok.hd hc) it a hai its.toArray) he ⟨hit, pT⟩ hlt hne (fun z => by
      have z' : e = it ∨ e = a := by simpa using z
      rcases z' with z' | z'
      · exact hne z'
      · exact hae z'.symm) fun x' h' tk hP' ho hst' hT hsz hk => ?_
    have hxu : x' = u := by
      have h3 : its[i]? = some x' := by simpa using hP'
      rw [hu] at h3
      exact (Option.some.inj h3).symm
    subst hxu
    refine ⟨_, rfl, wpAny_letOwnedTupleGo_enum (s := { s with heap := h', toks := tk + 1 }) ho fun h'' he' sb => ?_⟩
    have hT2 : h''.get? s.heap.objs.size = some { cls := .type "tuple", data := .seq #[.int i tk, x'] } := (sb.2 _ (Nat.ne_of_gt hel)).trans hT
    have new : ObjOk X.prog X.w (upd H s.heap.objs.size (.tup [.int (i : Nat), x])) h'' s.heap.objs.size (.tup [.int (i : Nat), x]) :=
      ⟨by show 2 ≤ sizeLine; decide, [.int i tk, x'], .cons ⟨_, rfl⟩ (.cons ru .nil), ⟨_, hT2, rfl, _, rfl⟩⟩
    have I1 : Inv X pins σ (upd H s.heap.objs.size (.tup [.int (i : Nat), x])) { s with heap := h'', toks := tk + 1 } :=
      I.turnedNew (ch := [e, it]) (fun b ob hb q => (sb.2 b (fun z => hb (by simp [z]))).trans (hk b ob (fun z => hb (by simp [z])) (fun z => hb (by simp [z])) q)) hf (Nat.le_refl _) new
    refine ⟨.ref s.heap.objs.size, _, I1, rfl, ⟨_, x, rfl, I.hok.fresh (Nat.le_refl _), rfl, fun ys hy => ?_⟩, ⟨⟨x', ?_⟩, hst'.1.at fun o q => (sb.2 it (Ne.symm hne)).trans q, hne, hai⟩, fun b hb => ?_⟩
    · rw [I.tuple_inj hy hq]; exact hx
    · have e1 : ((i + 1 : Nat) : Int) = (i : Int) + 1 := by omega
      rw [e1]; exact he'
    · have hb' : b < s.heap.objs.size := by
        have e' : b = e ∨ b = it := by simpa using hb
        rcases e' with z | z
        · rw [z]; exact hel
        · rw [z]; exact hil
      rw [upd_ne (Nat.ne_of_lt hb')]
      exact (hf b hb).1
  done := by
    intro X hP hw hK hc i pins s σ H E I hf st hg
    subst hP hw hK
    obtain ⟨⟨old, he⟩, hit, hne, hai⟩ := st
    obtain ⟨xs, hq, hx⟩ := hg
    obtain ⟨its, rv, p, hz⟩ := I.tuple hq
    obtain ⟨f0, f1, f2, f3, f4, f5⟩ := hf it (by simp)
    have hl := rv.length
    have pT : s.heap.IsTuple a its.toArray := p
    have e1 : i = its.toArray.size := by rw [List.size_toArray]; omega
    rw [e1] at hit
    exact wpAny_pyNext_enum_endD (Draws.tuple (prog := X.prog) (w := X.w) (A := X.A.in1) (I.ok.hd hc) it a hai its.toArray) he ⟨hit, pT⟩ fun h' eb => ⟨rfl, I.turned (t' := s.toks) (fun b o hb q => eb b o hb q) f0 f1 f3 f4 f5⟩
  self := fun A i s Q E st h => let ⟨⟨_, he⟩, _⟩ := st; wpAny_pyIter_enum he h
def iEnumT (K : PySem.W.Frag) (ta : TA) : TI := fun σ H R => ta σ H fun vs H1 => ∃ a xs, vs = [.ref a] ∧ SqT K H1 a xs ∧ R (Itet K a) H1
theorem pi_enumT {X : Cx} {e : Expr} {ta : TA} {p pos tpos : Pos} {elts : List Expr} {kk : Nat} (hg : Gl X "enumerate") (hm : X.mg "enumerate" = none) (ha : PA X [e] ta) (hs : starEach [e] X.env = [(false, eval e X.env)] := by rfl) :
    PI X (.Tuple elts kk tpos) (.Call (.Name "enumerate" p) [e] [] pos) (iEnumT X.K ta) := by
  refine ⟨fun pins s σ H R I h => ?_⟩
  refine Call_ (ld_blt I hg hm boot_enumerate (PyProof.Rows.callWith_type1 (thn (ha.run pos pins s σ H _ I h) fun us s1 ⟨vs, H1, I1, r1, q1⟩ => ?_) hs rfl))
  obtain ⟨a, xs, ex, hq, q⟩ := q1
  subst ex
  cases r1 with
  | cons r rr =>
    cases rr
    cases r
    obtain ⟨its, rv, p', hz⟩ := I1.tuple hq
    have al : a < s1.heap.objs.size := p'.lt
    refine call_enumerate_tuple (show s1.heap.IsTuple a its.toArray from p') fun h' he hit hsz hk => wpAny_pyIter_enum he ?_
    have I2 : Inv X pins σ H1 { s1 with heap := h' } := I1.kept (t' := s1.toks) hk
    refine ⟨s1.heap.objs.size + 1, [s1.heap.objs.size + 1, s1.heap.objs.size], _, _, H1, rfl, I2, turn_enumT a (s1.heap.objs.size + 1) s1.heap.objs.size, ⟨⟨.none, he⟩, hit, Nat.succ_ne_self _, Nat.ne_of_lt al⟩, fun b hb => ?_, q⟩
    have e' : b = s1.heap.objs.size + 1 ∨ b = s1.heap.objs.size := by simpa using hb
    have hle : s1.heap.objs.size ≤ b := by
      rcases e' with z | z
      · rw [z]; exact Nat.le_add_right _ _
      · rw [z]; exact Nat.le_refl _
    exact I1.fpOk hle (I1.hok.fresh hle)
theorem walk_enumT {K : PySem.W.Frag} {a : Addr} {xs : List V} : Walk (Itet K a) xs.length (fun H => SqT K H a xs) (YPair (fun i => some (.int (i : Nat))) (fun i => xs[i]?)) := by
  refine ⟨fun i _ hi q => ⟨xs, xs[i], q, by simp [hi]⟩, fun _ q => ⟨xs, q, rfl⟩, fun i H v H' _ q y => ?_⟩
  obtain ⟨T, x, h1, h2, h3, h4⟩ := y
  exact ⟨T, .int (i : Nat), x, h1, h2, h3, rfl, h4 xs q⟩
/-! ### tuple.count, list.remove, list(text), str(None) -/
theorem countP_eqU {x : V} : ∀ {xs : List V} {us : List Value}, Vals xs us → xs.all flatV = true → us.countP (eqU x) = xs.countP fun y => eqV y x
  | _, _, .nil, _ => rfl
  | y :: xs, u :: us, .cons r t, f => by
    rw [List.all_cons, Bool.and_eq_true] at f
    have ih := countP_eqU (x := x) t f.2
    rw [List.countP_cons, List.countP_cons, ih, eqU_of r f.1]
def rTCnt (K : PySem.W.Frag) : V → List V → Hp → VK → Prop := fun x xs H Q => ∃ (p : Addr) (ys : List V) (y : V), x = .ref p ∧ xs = [y] ∧ SqT K H p ys ∧ flatV y = true ∧ ys.all flatV = true ∧ Q (.int ((ys.countP fun z => eqV z y : Nat) : Int)) H
theorem mt_tcount {X : Cx} : MtR X "tuple.count" (rTCnt X.K) := by
  intro pins s σ H x xs v us Q I rx rxs h
  obtain ⟨p, ys, y, rfl, rfl, hs, fy, fs, q⟩ := h
  cases rx
  obtain ⟨u, rfl, ru⟩ := vals1 rxs
  obtain ⟨its, rv, pl, hz⟩ := I.tuple hs
  obtain ⟨⟨cls, dd, dt, sl⟩, ho, hc, n, hd⟩ := pl
  simp only at hc hd
  subst hc
  subst hd
  refine call_meets PySem.F.slot_tuple_count ⟨_, ho, rfl⟩ PySem.F.entry_tuple_count (PySem.F.args_tuple_count_2 _ _)
    (SeqAt.tuple_countAt p its.toArray n dd sl u (eqU y)) ⟨ho, fun z hz' => mem_eqAt ru fy rv fs z (by simpa using hz'), ?_⟩
  have ec : its.toArray.toList.countP (eqU y) = ys.countP fun z => eqV z y := countP_eqU rv fs
  refine ⟨.int ((ys.countP fun z => eqV z y : Nat) : Int), H, I.tok _, ⟨s.toks, ?_⟩, q⟩
  show Value.int ((its.toArray.toList.countP (eqU y) : Nat) : Int) s.toks = Value.int ((ys.countP fun z => eqV z y : Nat) : Int) s.toks
  rw [ec]
theorem str_gives {y z : Str} {t : Tok} {u : Value} (h : RelV (.str y) u) : MeetsSeq.EqGives u (.str z t) (eqU (.str z) u) := by
  obtain ⟨t', rfl⟩ := h
  have e := SeqRoads2.EqGives.str y z t' t
  have e2 : eqU (.str z) (.str y t') = (y.cps.toList == z.cps.toList) := by
    show (y == z) = _
    rw [SeqAt.str_beq]
  rw [e2]
  exact e
theorem erase_mapS : ∀ (l : List Str) (j : Nat), (l.map V.str).eraseIdx j = (l.eraseIdx j).map V.str
  | [], j => by simp
  | a :: r, 0 => by simp
  | a :: r, j + 1 => by
    have ih := erase_mapS r j
    simp [ih]
def rRemS : V → List V → Hp → VK → Prop := fun x xs H Q => ∃ (l : Addr) (ns : List Str) (k : Str) (j : Nat), x = .ref l ∧ xs = [.str k] ∧ H l = some (.lst (ns.map V.str)) ∧ ns[j]? = some k ∧ (∀ m : Nat, m < j → ns[m]? ≠ some k) ∧ Q .non (upd H l (.lst ((ns.eraseIdx j).map V.str)))
theorem mt_removeS {X : Cx} : MtM X "list.remove" rRemS := by
  intro pins s σ H x xs v us Q I rx rxs h
  obtain ⟨l, ns, k, j, rfl, rfl, hH, hj, hno, q⟩ := h
  cases rx
  obtain ⟨u, rfl, ru⟩ := rxs.one
  obtain ⟨t, rfl⟩ := ru
  obtain ⟨z, its, n, r, hl, e⟩ := I.lstM hH
  rw [List.length_map] at hl z
  have hjn : j < ns.length := (List.getElem?_eq_some_iff.mp hj).1
  have hjl : j < its.toArray.size := by rw [List.size_toArray]; omega
  have at' : ∀ (m : Nat) (hm : m < its.toArray.size) (hm' : m < ns.length), RelV (.str ns[m]) its.toArray[m] := fun m hm hm' => by
    obtain ⟨w, hw, hw'⟩ := r.get (i := m) (x := .str ns[m]) (by simp [hm'])
    have e1 := (List.getElem?_eq_some_iff.mp hw).2
    have e2 : its.toArray[m] = w := by rw [← e1]; simp
    rw [e2]
    exact hw'
  have eqm : ∀ (m : Nat) (hm : m < its.toArray.size) (hm' : m < ns.length), eqU (.str k) its.toArray[m] = (ns[m] == k) := fun m hm hm' => eqU_of (at' m hm hm') rfl
  refine call_meets PySem.F.slot_list_remove ⟨_, e, rfl⟩ PySem.F.entry_list_remove (PySem.F.args_list_remove_2 _ _)
    (MeetsSeq.list_remove l its.toArray n (.str k t) (eqU (.str k)) (fun y hy => ?_) j hjl ?_ ?_ (by rw [List.size_toArray]; omega)) ⟨e, ?_⟩
  · obtain ⟨m, hm, rfl⟩ := Array.getElem_of_mem hy
    exact str_gives (at' m hm (by rw [List.size_toArray] at hm; omega))
  · rw [eqm j hjl hjn]
    have e1 : ns[j] = k := (List.getElem?_eq_some_iff.mp hj).2
    rw [e1]
    exact beq_self_eq_true k
  · intro m hm hmj
    have hmn : m < ns.length := by omega
    rw [eqm m hm hmn]
    refine beq_eq_false_iff_ne.mpr fun e2 => hno m hmj ?_
    rw [List.getElem?_eq_getElem hmn, e2]
  · have rr := r.eraseIdx j
    rw [erase_mapS] at rr
    refine ⟨.non, _, I.lset (its' := its.eraseIdx j) (t' := s.toks) hH e ?_ rr ?_, rfl, q⟩
    · show its.toArray.eraseIdxIfInBounds j = (its.eraseIdx j).toArray
      rw [List.eraseIdxIfInBounds_toArray]
    · have z2 : (ns.eraseIdx j).length ≤ ns.length := by
        rw [List.length_eraseIdx]
        split <;> omega
      rw [List.length_map]
      omega
theorem vals_of_get : ∀ {xs : List V} {us : List Value}, xs.length = us.length → (∀ (i : Nat) (x : V) (u : Value), xs[i]? = some x → us[i]? = some u → RelV x u) → Vals xs us
  | [], [], _, _ => .nil
  | [], _ :: _, h, _ => by cases h
  | _ :: _, [], h, _ => by cases h
  | x :: xs, u :: us, h, k => .cons (k 0 x u rfl rfl) (vals_of_get (by simpa using h) fun i y w h1 h2 => k (i + 1) y w (by simpa using h1) (by simpa using h2))
theorem call_list_text {X : Cx} (hc : X.calm = true) : CallR X (.type "list") (fun xs H Q => ∃ z : Str, xs = [.str z] ∧ z.cps.size ≤ sizeLine ∧ ∀ l, H l = none → Q (.ref l) (upd H l (.lst (z.cps.toList.map fun c => V.str ⟨#[c]⟩)))) := by
  intro pins s σ H vs us Q I r h
  obtain ⟨z, rfl, hz, q⟩ := h
  obtain ⟨u, rfl, t, rfl⟩ := vals1 r
  refine call_list_str (I.ok.hd hc) z t (hn := hz) fun h' tk acc' c' hk hS' hacc => ?_
  have hv : Vals (z.cps.toList.map fun c => V.str ⟨#[c]⟩) acc'.toList := by
    refine vals_of_get (by rw [List.length_map, Array.length_toList, Array.length_toList]; exact hacc.1.symm) fun i x y hx hy => ?_
    obtain ⟨c, u, hc', rfl⟩ := hacc.2 i y (by simpa using hy)
    rw [List.getElem?_map] at hx
    have e : z.cps.toList[i]? = some c := by rw [Array.getElem?_toList]; exact hc'
    rw [e] at hx
    cases hx
    exact ⟨u, rfl⟩
  exact ⟨.ref s.heap.objs.size, _, I.laid (t' := tk) (o := .lst (z.cps.toList.map fun c => V.str ⟨#[c]⟩)) hk (Nat.le_refl _) ⟨by rw [List.length_map, Array.length_toList]; exact hz, acc'.toList, c', hv, by rw [hS', Array.toArray_toList]⟩, rfl, q _ (I.hok.fresh (Nat.le_refl _))⟩
theorem call_str_none {X : Cx} : CallR X (.type "str") (fun xs H Q => xs = [.non] ∧ Q (.str "None") H) := by
  intro pins s σ H xs us Q I r h
  obtain ⟨rfl, q⟩ := h
  obtain ⟨u, rfl, e⟩ := vals1 r
  obtain rfl : u = Value.none := e
  exact PySem.P.str_of_none ⟨.str "None", H, I.tok _, ⟨_, rfl⟩, q⟩
/-- str(x), x None or an int -/
def vStr : V → Str
  | .int i => toString i
  | _ => "None"
theorem call_str_ni {X : Cx} : CallR X (.type "str") (fun xs H Q => ∃ x, xs = [x] ∧ (x = .non ∨ ∃ i, x = .int i ∧ i.natAbs.log2 < 1920) ∧ Q (.str (vStr x)) H) := by
  intro pins s σ H xs us Q I r h
  obtain ⟨x, rfl, hx, q⟩ := h
  rcases hx with rfl | ⟨i, rfl, hi⟩
  · exact call_str_none pins s σ H _ us Q I r ⟨rfl, q⟩
  · exact call_str_int pins s σ H _ us Q I r ⟨i, rfl, hi, q⟩
end RX

set_option Elab.async false
set_option linter.all false
set_option maxRecDepth 100000
set_option maxHeartbeats 0
namespace PMH
open PySem PySem.Spec PyProof.Rows L2
def top (i : Nat) : Stmt := PySem.Challenge.pw_pairmart_k60_whole_any_days.main.body.getD i (.Pass ⟨0, 0, 0, 0⟩)
abbrev s_Wish_init : Stmt := inClass (top 13) 0
def d_Wish_init : He.DefD := ⟨("Wish", some "__init__"), "__init__", "Wish.__init__", defArgs s_Wish_init, defBody s_Wish_init, defScope s_Wish_init, [], []⟩
abbrev s_Wish_has : Stmt := inClass (top 13) 1
def d_Wish_has : He.DefD := ⟨("Wish", some "has"), "has", "Wish.has", defArgs s_Wish_has, defBody s_Wish_has, defScope s_Wish_has, [], []⟩
abbrev s_Wish_rank : Stmt := inClass (top 13) 2
def d_Wish_rank : He.DefD := ⟨("Wish", some "rank"), "rank", "Wish.rank", defArgs s_Wish_rank, defBody s_Wish_rank, defScope s_Wish_rank, [], []⟩
abbrev s_Wish_better : Stmt := inClass (top 13) 3
def d_Wish_better : He.DefD := ⟨("Wish", some "better"), "better", "Wish.better", defArgs s_Wish_better, defBody s_Wish_better, defScope s_Wish_better, [], []⟩
abbrev s_Wish_ahead_of : Stmt := inClass (top 13) 4
def d_Wish_ahead_of : He.DefD := ⟨("Wish", some "ahead_of"), "ahead_of", "Wish.ahead_of", defArgs s_Wish_ahead_of, defBody s_Wish_ahead_of, defScope s_Wish_ahead_of, [], []⟩
abbrev s_Wish_worst : Stmt := inClass (top 13) 5
def d_Wish_worst : He.DefD := ⟨("Wish", some "worst"), "worst", "Wish.worst", defArgs s_Wish_worst, defBody s_Wish_worst, defScope s_Wish_worst, [], []⟩
abbrev s_check_list : Stmt := top 14
def d_check_list : He.DefD := ⟨("check_list", none), "check_list", "check_list", defArgs s_check_list, defBody s_check_list, defScope s_check_list, [], []⟩
abbrev s_Market_init : Stmt := inClass (top 16) 0
def d_Market_init : He.DefD := ⟨("Market", some "__init__"), "__init__", "Market.__init__", defArgs s_Market_init, defBody s_Market_init, defScope s_Market_init, [], []⟩
abbrev s_Market_size : Stmt := inClass (top 16) 1
def d_Market_size : He.DefD := ⟨("Market", some "size"), "size", "Market.size", defArgs s_Market_size, defBody s_Market_size, defScope s_Market_size, [], []⟩
abbrev s_Market_likes : Stmt := inClass (top 16) 2
def d_Market_likes : He.DefD := ⟨("Market", some "likes"), "likes", "Market.likes", defArgs s_Market_likes, defBody s_Market_likes, defScope s_Market_likes, [], []⟩
abbrev s_Market_pairs : Stmt := inClass (top 16) 3
def d_Market_pairs : He.DefD := ⟨("Market", some "pairs"), "pairs", "Market.pairs", defArgs s_Market_pairs, defBody s_Market_pairs, defScope s_Market_pairs, [], []⟩
abbrev s_check_match : Stmt := top 17
def d_check_match : He.DefD := ⟨("check_match", none), "check_match", "check_match", defArgs s_check_match, defBody s_check_match, defScope s_check_match, [], []⟩
abbrev s_those_in : Stmt := top 18
def d_those_in : He.DefD := ⟨("those_in", none), "those_in", "those_in", defArgs s_those_in, defBody s_those_in, defScope s_those_in, [], []⟩
abbrev s_unwanted : Stmt := top 19
def d_unwanted : He.DefD := ⟨("unwanted", none), "unwanted", "unwanted", defArgs s_unwanted, defBody s_unwanted, defScope s_unwanted, [], []⟩
abbrev s_check_words : Stmt := top 21
def d_check_words : He.DefD := ⟨("check_words", none), "check_words", "check_words", defArgs s_check_words, defBody s_check_words, defScope s_check_words, [], []⟩
abbrev s_Fair_init : Stmt := inClass (top 22) 0
def d_Fair_init : He.DefD := ⟨("Fair", some "__init__"), "__init__", "Fair.__init__", defArgs s_Fair_init, defBody s_Fair_init, defScope s_Fair_init, [], []⟩
abbrev s_Fair_likes : Stmt := inClass (top 22) 1
def d_Fair_likes : He.DefD := ⟨("Fair", some "likes"), "likes", "Fair.likes", defArgs s_Fair_likes, defBody s_Fair_likes, defScope s_Fair_likes, [], []⟩
abbrev s_Fair_those_in : Stmt := inClass (top 22) 2
def d_Fair_those_in : He.DefD := ⟨("Fair", some "those_in"), "those_in", "Fair.those_in", defArgs s_Fair_those_in, defBody s_Fair_those_in, defScope s_Fair_those_in, [], []⟩
abbrev s_Fair_match : Stmt := inClass (top 22) 3
def d_Fair_match : He.DefD := ⟨("Fair", some "match"), "match", "Fair.match", defArgs s_Fair_match, defBody s_Fair_match, defScope s_Fair_match, [], []⟩
abbrev s_Fair_ask : Stmt := inClass (top 22) 4
def d_Fair_ask : He.DefD := ⟨("Fair", some "ask"), "ask", "Fair.ask", defArgs s_Fair_ask, defBody s_Fair_ask, defScope s_Fair_ask, [], []⟩
abbrev s_Fair_who_waits : Stmt := inClass (top 22) 5
def d_Fair_who_waits : He.DefD := ⟨("Fair", some "who_waits"), "who_waits", "Fair.who_waits", defArgs s_Fair_who_waits, defBody s_Fair_who_waits, defScope s_Fair_who_waits, [], []⟩
abbrev s_Fair_go_on : Stmt := inClass (top 22) 6
def d_Fair_go_on : He.DefD := ⟨("Fair", some "go_on"), "go_on", "Fair.go_on", defArgs s_Fair_go_on, defBody s_Fair_go_on, defScope s_Fair_go_on, [], []⟩
abbrev s_Fair_part_of : Stmt := inClass (top 22) 7
def d_Fair_part_of : He.DefD := ⟨("Fair", some "part_of"), "part_of", "Fair.part_of", defArgs s_Fair_part_of, defBody s_Fair_part_of, defScope s_Fair_part_of, [], []⟩
abbrev s_Fair_ask_anew : Stmt := inClass (top 22) 8
def d_Fair_ask_anew : He.DefD := ⟨("Fair", some "ask_anew"), "ask_anew", "Fair.ask_anew", defArgs s_Fair_ask_anew, defBody s_Fair_ask_anew, defScope s_Fair_ask_anew, [], []⟩
abbrev s_Fair_told : Stmt := inClass (top 22) 9
def d_Fair_told : He.DefD := ⟨("Fair", some "told"), "told", "Fair.told", defArgs s_Fair_told, defBody s_Fair_told, defScope s_Fair_told, [], []⟩
abbrev s_Fair_come : Stmt := inClass (top 22) 10
def d_Fair_come : He.DefD := ⟨("Fair", some "come"), "come", "Fair.come", defArgs s_Fair_come, defBody s_Fair_come, defScope s_Fair_come, [], []⟩
abbrev s_Fair_leave : Stmt := inClass (top 22) 11
def d_Fair_leave : He.DefD := ⟨("Fair", some "leave"), "leave", "Fair.leave", defArgs s_Fair_leave, defBody s_Fair_leave, defScope s_Fair_leave, [], []⟩
abbrev s_Fair_wish : Stmt := inClass (top 22) 12
def d_Fair_wish : He.DefD := ⟨("Fair", some "wish"), "wish", "Fair.wish", defArgs s_Fair_wish, defBody s_Fair_wish, defScope s_Fair_wish, [], []⟩
abbrev s_Fair_open_room : Stmt := inClass (top 22) 13
def d_Fair_open_room : He.DefD := ⟨("Fair", some "open_room"), "open_room", "Fair.open_room", defArgs s_Fair_open_room, defBody s_Fair_open_room, defScope s_Fair_open_room, [], []⟩
abbrev s_Fair_set_room : Stmt := inClass (top 22) 14
def d_Fair_set_room : He.DefD := ⟨("Fair", some "set_room"), "set_room", "Fair.set_room", defArgs s_Fair_set_room, defBody s_Fair_set_room, defScope s_Fair_set_room, [], []⟩
abbrev s_Fair_shut_room : Stmt := inClass (top 22) 15
def d_Fair_shut_room : He.DefD := ⟨("Fair", some "shut_room"), "shut_room", "Fair.shut_room", defArgs s_Fair_shut_room, defBody s_Fair_shut_room, defScope s_Fair_shut_room, [], []⟩
abbrev s_Fair_change_room : Stmt := inClass (top 22) 16
def d_Fair_change_room : He.DefD := ⟨("Fair", some "change_room"), "change_room", "Fair.change_room", defArgs s_Fair_change_room, defBody s_Fair_change_room, defScope s_Fair_change_room, [], []⟩
abbrev s_Fair_names : Stmt := inClass (top 22) 17
def d_Fair_names : He.DefD := ⟨("Fair", some "names"), "names", "Fair.names", defArgs s_Fair_names, defBody s_Fair_names, defScope s_Fair_names, [], []⟩
abbrev s_Fair_as_market : Stmt := inClass (top 22) 18
def d_Fair_as_market : He.DefD := ⟨("Fair", some "as_market"), "as_market", "Fair.as_market", defArgs s_Fair_as_market, defBody s_Fair_as_market, defScope s_Fair_as_market, [], []⟩
abbrev s_Fair_by_numbers : Stmt := inClass (top 22) 19
def d_Fair_by_numbers : He.DefD := ⟨("Fair", some "by_numbers"), "by_numbers", "Fair.by_numbers", defArgs s_Fair_by_numbers, defBody s_Fair_by_numbers, defScope s_Fair_by_numbers, [], []⟩
abbrev s_Asking_init : Stmt := inClass (top 24) 0
def d_Asking_init : He.DefD := ⟨("Asking", some "__init__"), "__init__", "Asking.__init__", defArgs s_Asking_init, defBody s_Asking_init, defScope s_Asking_init, [], []⟩
abbrev s_Asking_wants : Stmt := inClass (top 24) 1
def d_Asking_wants : He.DefD := ⟨("Asking", some "wants"), "wants", "Asking.wants", defArgs s_Asking_wants, defBody s_Asking_wants, defScope s_Asking_wants, [], []⟩
abbrev s_Asking_ask : Stmt := inClass (top 24) 2
def d_Asking_ask : He.DefD := ⟨("Asking", some "ask"), "ask", "Asking.ask", defArgs s_Asking_ask, defBody s_Asking_ask, defScope s_Asking_ask, [], []⟩
abbrev s_Asking_go_on : Stmt := inClass (top 24) 3
def d_Asking_go_on : He.DefD := ⟨("Asking", some "go_on"), "go_on", "Asking.go_on", defArgs s_Asking_go_on, defBody s_Asking_go_on, defScope s_Asking_go_on, [], []⟩
abbrev s_trace : Stmt := top 25
def d_trace : He.DefD := ⟨("trace", none), "trace", "trace", defArgs s_trace, defBody s_trace, defScope s_trace, [], []⟩
abbrev s_stable_paper : Stmt := top 27
def d_stable_paper : He.DefD := ⟨("stable_paper", none), "stable_paper", "stable_paper", defArgs s_stable_paper, defBody s_stable_paper, defScope s_stable_paper, [], []⟩
abbrev s_why_not : Stmt := top 28
def d_why_not : He.DefD := ⟨("why_not", none), "why_not", "why_not", defArgs s_why_not, defBody s_why_not, defScope s_why_not, [], []⟩
abbrev s_check_stable : Stmt := top 29
def d_check_stable : He.DefD := ⟨("check_stable", none), "check_stable", "check_stable", defArgs s_check_stable, defBody s_check_stable, defScope s_check_stable, [], []⟩
abbrev s_best_paper : Stmt := top 30
def d_best_paper : He.DefD := ⟨("best_paper", none), "best_paper", "best_paper", defArgs s_best_paper, defBody s_best_paper, defScope s_best_paper, [], []⟩
abbrev s_check_best : Stmt := top 31
def d_check_best : He.DefD := ⟨("check_best", none), "check_best", "check_best", defArgs s_check_best, defBody s_check_best, defScope s_check_best, [], []⟩
abbrev s_holds_by_right : Stmt := top 32
def d_holds_by_right : He.DefD := ⟨("holds_by_right", none), "holds_by_right", "holds_by_right", defArgs s_holds_by_right, defBody s_holds_by_right, defScope s_holds_by_right, [], []⟩
abbrev s_both_papers : Stmt := top 33
def d_both_papers : He.DefD := ⟨("both_papers", none), "both_papers", "both_papers", defArgs s_both_papers, defBody s_both_papers, defScope s_both_papers, [], []⟩
abbrev s_check_both : Stmt := top 34
def d_check_both : He.DefD := ⟨("check_both", none), "check_both", "check_both", defArgs s_check_both, defBody s_check_both, defScope s_check_both, [], []⟩
abbrev s_law_dice : Stmt := top 36
def d_law_dice : He.DefD := ⟨("_law_dice", none), "_law_dice", "_law_dice", defArgs s_law_dice, defBody s_law_dice, defScope s_law_dice, [], []⟩
abbrev s_law_roll : Stmt := top 37
def d_law_roll : He.DefD := ⟨("_law_roll", none), "_law_roll", "_law_roll", defArgs s_law_roll, defBody s_law_roll, defScope s_law_roll, [], []⟩
abbrev s_law_rounds : Stmt := top 38
def d_law_rounds : He.DefD := ⟨("_law_rounds", none), "_law_rounds", "_law_rounds", defArgs s_law_rounds, defBody s_law_rounds, defScope s_law_rounds, [], []⟩
abbrev s_law_told : Stmt := top 39
def d_law_told : He.DefD := ⟨("_law_told", none), "_law_told", "_law_told", defArgs s_law_told, defBody s_law_told, defScope s_law_told, [], []⟩
abbrev s_law_matches : Stmt := top 40
def d_law_matches : He.DefD := ⟨("_law_matches", none), "_law_matches", "_law_matches", defArgs s_law_matches, defBody s_law_matches, defScope s_law_matches, [], []⟩
abbrev s_law_place : Stmt := top 41
def d_law_place : He.DefD := ⟨("_law_place", none), "_law_place", "_law_place", defArgs s_law_place, defBody s_law_place, defScope s_law_place, [], []⟩
abbrev s_law_blocks : Stmt := top 42
def d_law_blocks : He.DefD := ⟨("_law_blocks", none), "_law_blocks", "_law_blocks", defArgs s_law_blocks, defBody s_law_blocks, defScope s_law_blocks, [], []⟩
abbrev s_law_stable : Stmt := top 43
def d_law_stable : He.DefD := ⟨("_law_stable", none), "_law_stable", "_law_stable", defArgs s_law_stable, defBody s_law_stable, defScope s_law_stable, [], []⟩
abbrev s_law_best : Stmt := top 44
def d_law_best : He.DefD := ⟨("_law_best", none), "_law_best", "_law_best", defArgs s_law_best, defBody s_law_best, defScope s_law_best, [], []⟩
abbrev s_law_words : Stmt := top 45
def d_law_words : He.DefD := ⟨("_law_words", none), "_law_words", "_law_words", defArgs s_law_words, defBody s_law_words, defScope s_law_words, [], []⟩
abbrev s_law_due : Stmt := top 46
def d_law_due : He.DefD := ⟨("_law_due", none), "_law_due", "_law_due", defArgs s_law_due, defBody s_law_due, defScope s_law_due, [], []⟩
abbrev s_law : Stmt := top 47
def d_law : He.DefD := ⟨("law", none), "law", "law", defArgs s_law, defBody s_law, defScope s_law, [], []⟩
def fn : List He.DefD := [d_Wish_init, d_Wish_has, d_Wish_rank, d_Wish_better, d_Wish_ahead_of, d_Wish_worst, d_check_list, d_Market_init, d_Market_size, d_Market_likes, d_Market_pairs, d_check_match, d_those_in, d_unwanted, d_check_words, d_Fair_init, d_Fair_likes, d_Fair_those_in, d_Fair_match, d_Fair_ask, d_Fair_who_waits, d_Fair_go_on, d_Fair_part_of, d_Fair_ask_anew, d_Fair_told, d_Fair_come, d_Fair_leave, d_Fair_wish, d_Fair_open_room, d_Fair_set_room, d_Fair_shut_room, d_Fair_change_room, d_Fair_names, d_Fair_as_market, d_Fair_by_numbers, d_Asking_init, d_Asking_wants, d_Asking_ask, d_Asking_go_on, d_trace, d_stable_paper, d_why_not, d_check_stable, d_best_paper, d_check_best, d_holds_by_right, d_both_papers, d_check_both, d_law_dice, d_law_roll, d_law_rounds, d_law_told, d_law_matches, d_law_place, d_law_blocks, d_law_stable, d_law_best, d_law_words, d_law_due, d_law]
def fa : List He.Fa := [.glo "BadWish", .exc "BadWish", .glo "BadRoom", .exc "BadRoom", .glo "BadMatch", .exc "BadMatch", .glo "BadPaper", .exc "BadPaper", .glo "BadSize", .exc "BadSize", .glo "BadText", .exc "BadText", .glo "BadStore", .exc "BadStore", .glo "NoSuch", .exc "NoSuch", .glo "BadDeed", .exc "BadDeed", .exm "NoSuch" "BadWish" false, .exm "NoSuch" "BadRoom" false, .exm "NoSuch" "BadMatch" false, .exm "NoSuch" "BadPaper" false, .exm "NoSuch" "BadSize" false, .exm "NoSuch" "BadText" false, .exm "NoSuch" "BadStore" false, .exm "NoSuch" "NoSuch" true, .exm "NoSuch" "BadDeed" false, .exm "BadDeed" "BadWish" false, .exm "BadDeed" "BadRoom" false, .exm "BadDeed" "BadMatch" false, .exm "BadDeed" "BadPaper" false, .exm "BadDeed" "BadSize" false, .exm "BadDeed" "BadText" false, .exm "BadDeed" "BadStore" false, .exm "BadDeed" "NoSuch" false, .exm "BadDeed" "BadDeed" true, .glo "Wish", .cls "Wish", .mkr "Wish", .noat "Wish" "order", .noat "Wish" "ranks", .glo "Market", .cls "Market", .mkr "Market", .noat "Market" "askers", .noat "Market" "rooms", .noat "Market" "seats", .glo "Fair", .cls "Fair", .mkr "Fair", .noat "Fair" "lists", .noat "Fair" "orders", .noat "Fair" "seats", .noat "Fair" "held", .noat "Fair" "next", .noat "Fair" "asks", .glo "Asking", .cls "Asking", .mkr "Asking", .noat "Asking" "market", .noat "Asking" "next", .noat "Asking" "held", .noat "Asking" "steps", .meth "Wish" "has", .meth "Wish" "rank", .meth "Wish" "better", .meth "Wish" "ahead_of", .meth "Wish" "worst", .glo "check_list", .meth "Market" "size", .meth "Market" "likes", .meth "Market" "pairs", .glo "check_match", .glo "those_in", .glo "unwanted", .glo "check_words", .meth "Fair" "likes", .meth "Fair" "those_in", .meth "Fair" "match", .meth "Fair" "ask", .meth "Fair" "who_waits", .meth "Fair" "go_on", .meth "Fair" "part_of", .meth "Fair" "ask_anew", .meth "Fair" "told", .meth "Fair" "come", .meth "Fair" "leave", .meth "Fair" "wish", .meth "Fair" "open_room", .meth "Fair" "set_room", .meth "Fair" "shut_room", .meth "Fair" "change_room", .meth "Fair" "names", .meth "Fair" "as_market", .meth "Fair" "by_numbers", .meth "Asking" "wants", .meth "Asking" "ask", .meth "Asking" "go_on", .glo "trace", .glo "stable_paper", .glo "why_not", .glo "check_stable", .glo "best_paper", .glo "check_best", .glo "holds_by_right", .glo "both_papers", .glo "check_both", .glo "_law_dice", .glo "_law_roll", .glo "_law_rounds", .glo "_law_told", .glo "_law_matches", .glo "_law_place", .glo "_law_blocks", .glo "_law_stable", .glo "_law_best", .glo "_law_words", .glo "_law_due", .glo "law", .free "len", .free "tuple", .free "dict", .free "any", .free "all", .free "max", .free "min", .free "sorted", .free "enumerate", .free "range", .free "list", .free "abs", .free "int", .free "str"]
def tf : List He.Defn := [("check_list", none), ("Market", some "__init__"), ("check_match", none), ("why_not", none), ("check_stable", none), ("check_best", none), ("holds_by_right", none), ("Wish", some "worst"), ("law", none)]
def loose1 : List PySem.Str := ["_wall", "MarketFault", "BadWish", "BadRoom", "BadMatch", "BadPaper", "BadSize", "BadText", "BadStore", "NoSuch", "BadDeed", "Wish", "check_list", "Market", "check_match", "those_in", "unwanted", "check_words", "Fair", "Asking", "trace", "stable_paper", "why_not", "check_stable", "best_paper", "check_best", "holds_by_right", "both_papers", "check_both"]
def loose2 : List PySem.Str := ["_law_dice", "_law_roll", "_law_rounds", "_law_told", "_law_matches", "_law_place", "_law_blocks", "_law_stable", "_law_best", "_law_words", "_law_due"]
def loose : List PySem.Str := loose1 ++ loose2
abbrev LW : PySem.W.OpenLaw := PySem.Challenge.rw_pairmart_k60_whole_any_days
abbrev R : PySem.W.OpenRow := PySem.W.OpenLaw.row LW
def nodupB : List Addr → Bool
  | [] => true
  | a :: r => !(r.any fun b => Nat.beq a b) && nodupB r
abbrev exB : PySem.W.Frag → Bool := fun K => nodupB (tf.map fun p => (He.cT K p).2)
abbrev hk : PySem.W.Hook := He.hookX 5 fa fn [] tf exB
def ob (s : PySem.W.SharedT) : He.AlX := He.obsX 5 fa fn [] tf exB (HandSHeadRun.getT s)
theorem ob_eq (s : PySem.W.SharedT) : ob s = hk.obs s.abs := He.obsX_eq (HandSHeadRun.getT_eq s)
end PMH

set_option Elab.async false
set_option linter.all false
set_option maxRecDepth 100000
set_option maxHeartbeats 0
namespace PMH
open PySem PySem.Spec PyProof.Rows L2
theorem run (w : World) : HandSHeadRun.RunEq R (PySem.W.view R.prog [47]) hk ob 9000 loose w := by
  intro os
  kernel_rfl
end PMH

set_option Elab.async false
set_option linter.all false
set_option maxRecDepth 100000
set_option maxHeartbeats 0
/-! PMT: what the head tells, by names; the rule for a def; heaps. -/
namespace PMT
open PySem PySem.Spec PyProof.Rows L2 PMH

structure TX (K : PySem.W.Frag) (mg : Str → Option Value) (base : Heap) : Prop where
  fn : ∀ (i : Nat) (d : He.DefD), PMH.fn[i]? = some d → ∃ fd, FunD K d.name d.qual d.params d.body d.scope (d.dvs K) (d.kws K) (He.fAd K d.at_) fd
  fa : ∀ (i : Nat) (f : He.Fa), PMH.fa[i]? = some f → f.ok K = true
  kin : K.In base
  G : base.Ns mainGlobals mg
  tb : ∀ p ∈ PMH.tf, LamX.TabB base mg (He.cT K p).1 (He.cT K p).2
  nd : PMH.nodupB (PMH.tf.map fun p => (He.cT K p).2) = true
/-- the tables and the names of the code objects in them -/
def TL (K : PySem.W.Frag) : List (Addr × Str) := [((He.cT K ("check_list", none)).2, "check_list.<locals>.<genexpr>"), ((He.cT K ("Market", some "__init__")).2, "Market.__init__.<locals>.<genexpr>"), ((He.cT K ("check_match", none)).2, "check_match.<locals>.<genexpr>"), ((He.cT K ("why_not", none)).2, "why_not.<locals>.<genexpr>"), ((He.cT K ("check_stable", none)).2, "check_stable.<locals>.<genexpr>"), ((He.cT K ("check_best", none)).2, "check_best.<locals>.<genexpr>"), ((He.cT K ("holds_by_right", none)).2, "holds_by_right.<locals>.<genexpr>"), ((He.cT K ("Wish", some "worst")).2, "Wish.worst.<locals>.<lambda>"), ((He.cT K ("law", none)).2, "law.<locals>.<lambda>")]
theorem pw_uniq {l : List (Addr × Str)} (h : l.Pairwise fun p r => p.1 ≠ r.1) {p r : Addr × Str} (hp : p ∈ l) (hr : r ∈ l) (e : p.1 = r.1) : p = r := by
  induction h with
  | nil => cases hp
  | cons h1 _ ih =>
    rcases List.mem_cons.mp hp with a | a <;> rcases List.mem_cons.mp hr with b | b
    · rw [a, b]
    · rw [a] at e; exact absurd e (h1 r b)
    · rw [b] at e; exact absurd e.symm (h1 p a)
    · exact ih a b

section
variable {K : PySem.W.Frag} {mg : Str → Option Value} {base : Heap} (t : TX K mg base)
include t
theorem TX.f_Wish_init : ∃ fd, FunD K "__init__" "Wish.__init__" (defArgs s_Wish_init) (defBody s_Wish_init) (defScope s_Wish_init) [] [] (He.fAd K ("Wish", some "__init__")) fd := t.fn 0 d_Wish_init rfl
theorem TX.f_Wish_has : ∃ fd, FunD K "has" "Wish.has" (defArgs s_Wish_has) (defBody s_Wish_has) (defScope s_Wish_has) [] [] (He.fAd K ("Wish", some "has")) fd := t.fn 1 d_Wish_has rfl
theorem TX.f_Wish_rank : ∃ fd, FunD K "rank" "Wish.rank" (defArgs s_Wish_rank) (defBody s_Wish_rank) (defScope s_Wish_rank) [] [] (He.fAd K ("Wish", some "rank")) fd := t.fn 2 d_Wish_rank rfl
theorem TX.f_Wish_better : ∃ fd, FunD K "better" "Wish.better" (defArgs s_Wish_better) (defBody s_Wish_better) (defScope s_Wish_better) [] [] (He.fAd K ("Wish", some "better")) fd := t.fn 3 d_Wish_better rfl
theorem TX.f_Wish_ahead_of : ∃ fd, FunD K "ahead_of" "Wish.ahead_of" (defArgs s_Wish_ahead_of) (defBody s_Wish_ahead_of) (defScope s_Wish_ahead_of) [] [] (He.fAd K ("Wish", some "ahead_of")) fd := t.fn 4 d_Wish_ahead_of rfl
theorem TX.f_Wish_worst : ∃ fd, FunD K "worst" "Wish.worst" (defArgs s_Wish_worst) (defBody s_Wish_worst) (defScope s_Wish_worst) [] [] (He.fAd K ("Wish", some "worst")) fd := t.fn 5 d_Wish_worst rfl
theorem TX.f_check_list : ∃ fd, FunD K "check_list" "check_list" (defArgs s_check_list) (defBody s_check_list) (defScope s_check_list) [] [] (He.fAd K ("check_list", none)) fd := t.fn 6 d_check_list rfl
theorem TX.f_Market_init : ∃ fd, FunD K "__init__" "Market.__init__" (defArgs s_Market_init) (defBody s_Market_init) (defScope s_Market_init) [] [] (He.fAd K ("Market", some "__init__")) fd := t.fn 7 d_Market_init rfl
theorem TX.f_Market_size : ∃ fd, FunD K "size" "Market.size" (defArgs s_Market_size) (defBody s_Market_size) (defScope s_Market_size) [] [] (He.fAd K ("Market", some "size")) fd := t.fn 8 d_Market_size rfl
theorem TX.f_Market_likes : ∃ fd, FunD K "likes" "Market.likes" (defArgs s_Market_likes) (defBody s_Market_likes) (defScope s_Market_likes) [] [] (He.fAd K ("Market", some "likes")) fd := t.fn 9 d_Market_likes rfl
theorem TX.f_Market_pairs : ∃ fd, FunD K "pairs" "Market.pairs" (defArgs s_Market_pairs) (defBody s_Market_pairs) (defScope s_Market_pairs) [] [] (He.fAd K ("Market", some "pairs")) fd := t.fn 10 d_Market_pairs rfl
theorem TX.f_check_match : ∃ fd, FunD K "check_match" "check_match" (defArgs s_check_match) (defBody s_check_match) (defScope s_check_match) [] [] (He.fAd K ("check_match", none)) fd := t.fn 11 d_check_match rfl
theorem TX.f_those_in : ∃ fd, FunD K "those_in" "those_in" (defArgs s_those_in) (defBody s_those_in) (defScope s_those_in) [] [] (He.fAd K ("those_in", none)) fd := t.fn 12 d_those_in rfl
theorem TX.f_unwanted : ∃ fd, FunD K "unwanted" "unwanted" (defArgs s_unwanted) (defBody s_unwanted) (defScope s_unwanted) [] [] (He.fAd K ("unwanted", none)) fd := t.fn 13 d_unwanted rfl
theorem TX.f_check_words : ∃ fd, FunD K "check_words" "check_words" (defArgs s_check_words) (defBody s_check_words) (defScope s_check_words) [] [] (He.fAd K ("check_words", none)) fd := t.fn 14 d_check_words rfl
theorem TX.f_Fair_init : ∃ fd, FunD K "__init__" "Fair.__init__" (defArgs s_Fair_init) (defBody s_Fair_init) (defScope s_Fair_init) [] [] (He.fAd K ("Fair", some "__init__")) fd := t.fn 15 d_Fair_init rfl
theorem TX.f_Fair_likes : ∃ fd, FunD K "likes" "Fair.likes" (defArgs s_Fair_likes) (defBody s_Fair_likes) (defScope s_Fair_likes) [] [] (He.fAd K ("Fair", some "likes")) fd := t.fn 16 d_Fair_likes rfl
theorem TX.f_Fair_those_in : ∃ fd, FunD K "those_in" "Fair.those_in" (defArgs s_Fair_those_in) (defBody s_Fair_those_in) (defScope s_Fair_those_in) [] [] (He.fAd K ("Fair", some "those_in")) fd := t.fn 17 d_Fair_those_in rfl
theorem TX.f_Fair_match : ∃ fd, FunD K "match" "Fair.match" (defArgs s_Fair_match) (defBody s_Fair_match) (defScope s_Fair_match) [] [] (He.fAd K ("Fair", some "match")) fd := t.fn 18 d_Fair_match rfl
theorem TX.f_Fair_ask : ∃ fd, FunD K "ask" "Fair.ask" (defArgs s_Fair_ask) (defBody s_Fair_ask) (defScope s_Fair_ask) [] [] (He.fAd K ("Fair", some "ask")) fd := t.fn 19 d_Fair_ask rfl
theorem TX.f_Fair_who_waits : ∃ fd, FunD K "who_waits" "Fair.who_waits" (defArgs s_Fair_who_waits) (defBody s_Fair_who_waits) (defScope s_Fair_who_waits) [] [] (He.fAd K ("Fair", some "who_waits")) fd := t.fn 20 d_Fair_who_waits rfl
theorem TX.f_Fair_go_on : ∃ fd, FunD K "go_on" "Fair.go_on" (defArgs s_Fair_go_on) (defBody s_Fair_go_on) (defScope s_Fair_go_on) [] [] (He.fAd K ("Fair", some "go_on")) fd := t.fn 21 d_Fair_go_on rfl
theorem TX.f_Fair_part_of : ∃ fd, FunD K "part_of" "Fair.part_of" (defArgs s_Fair_part_of) (defBody s_Fair_part_of) (defScope s_Fair_part_of) [] [] (He.fAd K ("Fair", some "part_of")) fd := t.fn 22 d_Fair_part_of rfl
theorem TX.f_Fair_ask_anew : ∃ fd, FunD K "ask_anew" "Fair.ask_anew" (defArgs s_Fair_ask_anew) (defBody s_Fair_ask_anew) (defScope s_Fair_ask_anew) [] [] (He.fAd K ("Fair", some "ask_anew")) fd := t.fn 23 d_Fair_ask_anew rfl
theorem TX.f_Fair_told : ∃ fd, FunD K "told" "Fair.told" (defArgs s_Fair_told) (defBody s_Fair_told) (defScope s_Fair_told) [] [] (He.fAd K ("Fair", some "told")) fd := t.fn 24 d_Fair_told rfl
theorem TX.f_Fair_come : ∃ fd, FunD K "come" "Fair.come" (defArgs s_Fair_come) (defBody s_Fair_come) (defScope s_Fair_come) [] [] (He.fAd K ("Fair", some "come")) fd := t.fn 25 d_Fair_come rfl
theorem TX.f_Fair_leave : ∃ fd, FunD K "leave" "Fair.leave" (defArgs s_Fair_leave) (defBody s_Fair_leave) (defScope s_Fair_leave) [] [] (He.fAd K ("Fair", some "leave")) fd := t.fn 26 d_Fair_leave rfl
theorem TX.f_Fair_wish : ∃ fd, FunD K "wish" "Fair.wish" (defArgs s_Fair_wish) (defBody s_Fair_wish) (defScope s_Fair_wish) [] [] (He.fAd K ("Fair", some "wish")) fd := t.fn 27 d_Fair_wish rfl
theorem TX.f_Fair_open_room : ∃ fd, FunD K "open_room" "Fair.open_room" (defArgs s_Fair_open_room) (defBody s_Fair_open_room) (defScope s_Fair_open_room) [] [] (He.fAd K ("Fair", some "open_room")) fd := t.fn 28 d_Fair_open_room rfl
theorem TX.f_Fair_set_room : ∃ fd, FunD K "set_room" "Fair.set_room" (defArgs s_Fair_set_room) (defBody s_Fair_set_room) (defScope s_Fair_set_room) [] [] (He.fAd K ("Fair", some "set_room")) fd := t.fn 29 d_Fair_set_room rfl
theorem TX.f_Fair_shut_room : ∃ fd, FunD K "shut_room" "Fair.shut_room" (defArgs s_Fair_shut_room) (defBody s_Fair_shut_room) (defScope s_Fair_shut_room) [] [] (He.fAd K ("Fair", some "shut_room")) fd := t.fn 30 d_Fair_shut_room rfl
theorem TX.f_Fair_change_room : ∃ fd, FunD K "change_room" "Fair.change_room" (defArgs s_Fair_change_room) (defBody s_Fair_change_room) (defScope s_Fair_change_room) [] [] (He.fAd K ("Fair", some "change_room")) fd := t.fn 31 d_Fair_change_room rfl
theorem TX.f_Fair_names : ∃ fd, FunD K "names" "Fair.names" (defArgs s_Fair_names) (defBody s_Fair_names) (defScope s_Fair_names) [] [] (He.fAd K ("Fair", some "names")) fd := t.fn 32 d_Fair_names rfl
theorem TX.f_Fair_as_market : ∃ fd, FunD K "as_market" "Fair.as_market" (defArgs s_Fair_as_market) (defBody s_Fair_as_market) (defScope s_Fair_as_market) [] [] (He.fAd K ("Fair", some "as_market")) fd := t.fn 33 d_Fair_as_market rfl
theorem TX.f_Fair_by_numbers : ∃ fd, FunD K "by_numbers" "Fair.by_numbers" (defArgs s_Fair_by_numbers) (defBody s_Fair_by_numbers) (defScope s_Fair_by_numbers) [] [] (He.fAd K ("Fair", some "by_numbers")) fd := t.fn 34 d_Fair_by_numbers rfl
theorem TX.f_Asking_init : ∃ fd, FunD K "__init__" "Asking.__init__" (defArgs s_Asking_init) (defBody s_Asking_init) (defScope s_Asking_init) [] [] (He.fAd K ("Asking", some "__init__")) fd := t.fn 35 d_Asking_init rfl
theorem TX.f_Asking_wants : ∃ fd, FunD K "wants" "Asking.wants" (defArgs s_Asking_wants) (defBody s_Asking_wants) (defScope s_Asking_wants) [] [] (He.fAd K ("Asking", some "wants")) fd := t.fn 36 d_Asking_wants rfl
theorem TX.f_Asking_ask : ∃ fd, FunD K "ask" "Asking.ask" (defArgs s_Asking_ask) (defBody s_Asking_ask) (defScope s_Asking_ask) [] [] (He.fAd K ("Asking", some "ask")) fd := t.fn 37 d_Asking_ask rfl
theorem TX.f_Asking_go_on : ∃ fd, FunD K "go_on" "Asking.go_on" (defArgs s_Asking_go_on) (defBody s_Asking_go_on) (defScope s_Asking_go_on) [] [] (He.fAd K ("Asking", some "go_on")) fd := t.fn 38 d_Asking_go_on rfl
theorem TX.f_trace : ∃ fd, FunD K "trace" "trace" (defArgs s_trace) (defBody s_trace) (defScope s_trace) [] [] (He.fAd K ("trace", none)) fd := t.fn 39 d_trace rfl
theorem TX.f_stable_paper : ∃ fd, FunD K "stable_paper" "stable_paper" (defArgs s_stable_paper) (defBody s_stable_paper) (defScope s_stable_paper) [] [] (He.fAd K ("stable_paper", none)) fd := t.fn 40 d_stable_paper rfl
theorem TX.f_why_not : ∃ fd, FunD K "why_not" "why_not" (defArgs s_why_not) (defBody s_why_not) (defScope s_why_not) [] [] (He.fAd K ("why_not", none)) fd := t.fn 41 d_why_not rfl
theorem TX.f_check_stable : ∃ fd, FunD K "check_stable" "check_stable" (defArgs s_check_stable) (defBody s_check_stable) (defScope s_check_stable) [] [] (He.fAd K ("check_stable", none)) fd := t.fn 42 d_check_stable rfl
theorem TX.f_best_paper : ∃ fd, FunD K "best_paper" "best_paper" (defArgs s_best_paper) (defBody s_best_paper) (defScope s_best_paper) [] [] (He.fAd K ("best_paper", none)) fd := t.fn 43 d_best_paper rfl
theorem TX.f_check_best : ∃ fd, FunD K "check_best" "check_best" (defArgs s_check_best) (defBody s_check_best) (defScope s_check_best) [] [] (He.fAd K ("check_best", none)) fd := t.fn 44 d_check_best rfl
theorem TX.f_holds_by_right : ∃ fd, FunD K "holds_by_right" "holds_by_right" (defArgs s_holds_by_right) (defBody s_holds_by_right) (defScope s_holds_by_right) [] [] (He.fAd K ("holds_by_right", none)) fd := t.fn 45 d_holds_by_right rfl
theorem TX.f_both_papers : ∃ fd, FunD K "both_papers" "both_papers" (defArgs s_both_papers) (defBody s_both_papers) (defScope s_both_papers) [] [] (He.fAd K ("both_papers", none)) fd := t.fn 46 d_both_papers rfl
theorem TX.f_check_both : ∃ fd, FunD K "check_both" "check_both" (defArgs s_check_both) (defBody s_check_both) (defScope s_check_both) [] [] (He.fAd K ("check_both", none)) fd := t.fn 47 d_check_both rfl
theorem TX.f_law_dice : ∃ fd, FunD K "_law_dice" "_law_dice" (defArgs s_law_dice) (defBody s_law_dice) (defScope s_law_dice) [] [] (He.fAd K ("_law_dice", none)) fd := t.fn 48 d_law_dice rfl
theorem TX.f_law_roll : ∃ fd, FunD K "_law_roll" "_law_roll" (defArgs s_law_roll) (defBody s_law_roll) (defScope s_law_roll) [] [] (He.fAd K ("_law_roll", none)) fd := t.fn 49 d_law_roll rfl
theorem TX.f_law_rounds : ∃ fd, FunD K "_law_rounds" "_law_rounds" (defArgs s_law_rounds) (defBody s_law_rounds) (defScope s_law_rounds) [] [] (He.fAd K ("_law_rounds", none)) fd := t.fn 50 d_law_rounds rfl
theorem TX.f_law_told : ∃ fd, FunD K "_law_told" "_law_told" (defArgs s_law_told) (defBody s_law_told) (defScope s_law_told) [] [] (He.fAd K ("_law_told", none)) fd := t.fn 51 d_law_told rfl
theorem TX.f_law_matches : ∃ fd, FunD K "_law_matches" "_law_matches" (defArgs s_law_matches) (defBody s_law_matches) (defScope s_law_matches) [] [] (He.fAd K ("_law_matches", none)) fd := t.fn 52 d_law_matches rfl
theorem TX.f_law_place : ∃ fd, FunD K "_law_place" "_law_place" (defArgs s_law_place) (defBody s_law_place) (defScope s_law_place) [] [] (He.fAd K ("_law_place", none)) fd := t.fn 53 d_law_place rfl
theorem TX.f_law_blocks : ∃ fd, FunD K "_law_blocks" "_law_blocks" (defArgs s_law_blocks) (defBody s_law_blocks) (defScope s_law_blocks) [] [] (He.fAd K ("_law_blocks", none)) fd := t.fn 54 d_law_blocks rfl
theorem TX.f_law_stable : ∃ fd, FunD K "_law_stable" "_law_stable" (defArgs s_law_stable) (defBody s_law_stable) (defScope s_law_stable) [] [] (He.fAd K ("_law_stable", none)) fd := t.fn 55 d_law_stable rfl
theorem TX.f_law_best : ∃ fd, FunD K "_law_best" "_law_best" (defArgs s_law_best) (defBody s_law_best) (defScope s_law_best) [] [] (He.fAd K ("_law_best", none)) fd := t.fn 56 d_law_best rfl
theorem TX.f_law_words : ∃ fd, FunD K "_law_words" "_law_words" (defArgs s_law_words) (defBody s_law_words) (defScope s_law_words) [] [] (He.fAd K ("_law_words", none)) fd := t.fn 57 d_law_words rfl
theorem TX.f_law_due : ∃ fd, FunD K "_law_due" "_law_due" (defArgs s_law_due) (defBody s_law_due) (defScope s_law_due) [] [] (He.fAd K ("_law_due", none)) fd := t.fn 58 d_law_due rfl
theorem TX.f_law : ∃ fd, FunD K "law" "law" (defArgs s_law) (defBody s_law) (defScope s_law) [] [] (He.fAd K ("law", none)) fd := t.fn 59 d_law rfl
theorem TX.g_BadWish : mg "BadWish" = some (.ref (He.ga K "BadWish")) := He.glo_ok t.kin t.G (t.fa 0 (.glo "BadWish") rfl)
theorem TX.x_BadWish : PySem.W.excIn K (He.ga K "BadWish") He.veBase "ValueError.__new__" = true ∧ PySem.W.keepIn K (.ref (He.ga K "BadWish")) = true ∧ PySem.W.subIn K (.ref (He.ga K "BadWish")) (.type "BaseException") = some true ∧ PySem.W.typeIn K (.ref (He.ga K "BadWish")) = some (.type "type") := He.exc_ok (t.fa 1 (.exc "BadWish") rfl)
theorem TX.g_BadRoom : mg "BadRoom" = some (.ref (He.ga K "BadRoom")) := He.glo_ok t.kin t.G (t.fa 2 (.glo "BadRoom") rfl)
theorem TX.x_BadRoom : PySem.W.excIn K (He.ga K "BadRoom") He.veBase "ValueError.__new__" = true ∧ PySem.W.keepIn K (.ref (He.ga K "BadRoom")) = true ∧ PySem.W.subIn K (.ref (He.ga K "BadRoom")) (.type "BaseException") = some true ∧ PySem.W.typeIn K (.ref (He.ga K "BadRoom")) = some (.type "type") := He.exc_ok (t.fa 3 (.exc "BadRoom") rfl)
theorem TX.g_BadMatch : mg "BadMatch" = some (.ref (He.ga K "BadMatch")) := He.glo_ok t.kin t.G (t.fa 4 (.glo "BadMatch") rfl)
theorem TX.x_BadMatch : PySem.W.excIn K (He.ga K "BadMatch") He.veBase "ValueError.__new__" = true ∧ PySem.W.keepIn K (.ref (He.ga K "BadMatch")) = true ∧ PySem.W.subIn K (.ref (He.ga K "BadMatch")) (.type "BaseException") = some true ∧ PySem.W.typeIn K (.ref (He.ga K "BadMatch")) = some (.type "type") := He.exc_ok (t.fa 5 (.exc "BadMatch") rfl)
theorem TX.g_BadPaper : mg "BadPaper" = some (.ref (He.ga K "BadPaper")) := He.glo_ok t.kin t.G (t.fa 6 (.glo "BadPaper") rfl)
theorem TX.x_BadPaper : PySem.W.excIn K (He.ga K "BadPaper") He.veBase "ValueError.__new__" = true ∧ PySem.W.keepIn K (.ref (He.ga K "BadPaper")) = true ∧ PySem.W.subIn K (.ref (He.ga K "BadPaper")) (.type "BaseException") = some true ∧ PySem.W.typeIn K (.ref (He.ga K "BadPaper")) = some (.type "type") := He.exc_ok (t.fa 7 (.exc "BadPaper") rfl)
theorem TX.g_BadSize : mg "BadSize" = some (.ref (He.ga K "BadSize")) := He.glo_ok t.kin t.G (t.fa 8 (.glo "BadSize") rfl)
theorem TX.x_BadSize : PySem.W.excIn K (He.ga K "BadSize") He.veBase "ValueError.__new__" = true ∧ PySem.W.keepIn K (.ref (He.ga K "BadSize")) = true ∧ PySem.W.subIn K (.ref (He.ga K "BadSize")) (.type "BaseException") = some true ∧ PySem.W.typeIn K (.ref (He.ga K "BadSize")) = some (.type "type") := He.exc_ok (t.fa 9 (.exc "BadSize") rfl)
theorem TX.g_BadText : mg "BadText" = some (.ref (He.ga K "BadText")) := He.glo_ok t.kin t.G (t.fa 10 (.glo "BadText") rfl)
theorem TX.x_BadText : PySem.W.excIn K (He.ga K "BadText") He.veBase "ValueError.__new__" = true ∧ PySem.W.keepIn K (.ref (He.ga K "BadText")) = true ∧ PySem.W.subIn K (.ref (He.ga K "BadText")) (.type "BaseException") = some true ∧ PySem.W.typeIn K (.ref (He.ga K "BadText")) = some (.type "type") := He.exc_ok (t.fa 11 (.exc "BadText") rfl)
theorem TX.g_BadStore : mg "BadStore" = some (.ref (He.ga K "BadStore")) := He.glo_ok t.kin t.G (t.fa 12 (.glo "BadStore") rfl)
theorem TX.x_BadStore : PySem.W.excIn K (He.ga K "BadStore") He.veBase "ValueError.__new__" = true ∧ PySem.W.keepIn K (.ref (He.ga K "BadStore")) = true ∧ PySem.W.subIn K (.ref (He.ga K "BadStore")) (.type "BaseException") = some true ∧ PySem.W.typeIn K (.ref (He.ga K "BadStore")) = some (.type "type") := He.exc_ok (t.fa 13 (.exc "BadStore") rfl)
theorem TX.g_NoSuch : mg "NoSuch" = some (.ref (He.ga K "NoSuch")) := He.glo_ok t.kin t.G (t.fa 14 (.glo "NoSuch") rfl)
theorem TX.x_NoSuch : PySem.W.excIn K (He.ga K "NoSuch") He.veBase "ValueError.__new__" = true ∧ PySem.W.keepIn K (.ref (He.ga K "NoSuch")) = true ∧ PySem.W.subIn K (.ref (He.ga K "NoSuch")) (.type "BaseException") = some true ∧ PySem.W.typeIn K (.ref (He.ga K "NoSuch")) = some (.type "type") := He.exc_ok (t.fa 15 (.exc "NoSuch") rfl)
theorem TX.g_BadDeed : mg "BadDeed" = some (.ref (He.ga K "BadDeed")) := He.glo_ok t.kin t.G (t.fa 16 (.glo "BadDeed") rfl)
theorem TX.x_BadDeed : PySem.W.excIn K (He.ga K "BadDeed") He.veBase "ValueError.__new__" = true ∧ PySem.W.keepIn K (.ref (He.ga K "BadDeed")) = true ∧ PySem.W.subIn K (.ref (He.ga K "BadDeed")) (.type "BaseException") = some true ∧ PySem.W.typeIn K (.ref (He.ga K "BadDeed")) = some (.type "type") := He.exc_ok (t.fa 17 (.exc "BadDeed") rfl)
theorem TX.e_NoSuch_BadWish : PySem.W.exmOne K (.ref (He.ga K "NoSuch")) (.ref (He.ga K "BadWish")) = some false := He.exm_ok (t.fa 18 (.exm "NoSuch" "BadWish" false) rfl)
theorem TX.e_NoSuch_BadRoom : PySem.W.exmOne K (.ref (He.ga K "NoSuch")) (.ref (He.ga K "BadRoom")) = some false := He.exm_ok (t.fa 19 (.exm "NoSuch" "BadRoom" false) rfl)
theorem TX.e_NoSuch_BadMatch : PySem.W.exmOne K (.ref (He.ga K "NoSuch")) (.ref (He.ga K "BadMatch")) = some false := He.exm_ok (t.fa 20 (.exm "NoSuch" "BadMatch" false) rfl)
theorem TX.e_NoSuch_BadPaper : PySem.W.exmOne K (.ref (He.ga K "NoSuch")) (.ref (He.ga K "BadPaper")) = some false := He.exm_ok (t.fa 21 (.exm "NoSuch" "BadPaper" false) rfl)
theorem TX.e_NoSuch_BadSize : PySem.W.exmOne K (.ref (He.ga K "NoSuch")) (.ref (He.ga K "BadSize")) = some false := He.exm_ok (t.fa 22 (.exm "NoSuch" "BadSize" false) rfl)
theorem TX.e_NoSuch_BadText : PySem.W.exmOne K (.ref (He.ga K "NoSuch")) (.ref (He.ga K "BadText")) = some false := He.exm_ok (t.fa 23 (.exm "NoSuch" "BadText" false) rfl)
theorem TX.e_NoSuch_BadStore : PySem.W.exmOne K (.ref (He.ga K "NoSuch")) (.ref (He.ga K "BadStore")) = some false := He.exm_ok (t.fa 24 (.exm "NoSuch" "BadStore" false) rfl)
theorem TX.e_NoSuch_NoSuch : PySem.W.exmOne K (.ref (He.ga K "NoSuch")) (.ref (He.ga K "NoSuch")) = some true := He.exm_ok (t.fa 25 (.exm "NoSuch" "NoSuch" true) rfl)
theorem TX.e_NoSuch_BadDeed : PySem.W.exmOne K (.ref (He.ga K "NoSuch")) (.ref (He.ga K "BadDeed")) = some false := He.exm_ok (t.fa 26 (.exm "NoSuch" "BadDeed" false) rfl)
theorem TX.e_BadDeed_BadWish : PySem.W.exmOne K (.ref (He.ga K "BadDeed")) (.ref (He.ga K "BadWish")) = some false := He.exm_ok (t.fa 27 (.exm "BadDeed" "BadWish" false) rfl)
theorem TX.e_BadDeed_BadRoom : PySem.W.exmOne K (.ref (He.ga K "BadDeed")) (.ref (He.ga K "BadRoom")) = some false := He.exm_ok (t.fa 28 (.exm "BadDeed" "BadRoom" false) rfl)
theorem TX.e_BadDeed_BadMatch : PySem.W.exmOne K (.ref (He.ga K "BadDeed")) (.ref (He.ga K "BadMatch")) = some false := He.exm_ok (t.fa 29 (.exm "BadDeed" "BadMatch" false) rfl)
theorem TX.e_BadDeed_BadPaper : PySem.W.exmOne K (.ref (He.ga K "BadDeed")) (.ref (He.ga K "BadPaper")) = some false := He.exm_ok (t.fa 30 (.exm "BadDeed" "BadPaper" false) rfl)
theorem TX.e_BadDeed_BadSize : PySem.W.exmOne K (.ref (He.ga K "BadDeed")) (.ref (He.ga K "BadSize")) = some false := He.exm_ok (t.fa 31 (.exm "BadDeed" "BadSize" false) rfl)
theorem TX.e_BadDeed_BadText : PySem.W.exmOne K (.ref (He.ga K "BadDeed")) (.ref (He.ga K "BadText")) = some false := He.exm_ok (t.fa 32 (.exm "BadDeed" "BadText" false) rfl)
theorem TX.e_BadDeed_BadStore : PySem.W.exmOne K (.ref (He.ga K "BadDeed")) (.ref (He.ga K "BadStore")) = some false := He.exm_ok (t.fa 33 (.exm "BadDeed" "BadStore" false) rfl)
theorem TX.e_BadDeed_NoSuch : PySem.W.exmOne K (.ref (He.ga K "BadDeed")) (.ref (He.ga K "NoSuch")) = some false := He.exm_ok (t.fa 34 (.exm "BadDeed" "NoSuch" false) rfl)
theorem TX.e_BadDeed_BadDeed : PySem.W.exmOne K (.ref (He.ga K "BadDeed")) (.ref (He.ga K "BadDeed")) = some true := He.exm_ok (t.fa 35 (.exm "BadDeed" "BadDeed" true) rfl)
theorem TX.g_Wish : mg "Wish" = some (.ref (He.ga K "Wish")) := He.glo_ok t.kin t.G (t.fa 36 (.glo "Wish") rfl)
theorem TX.c_Wish : Cls K (He.ga K "Wish") := He.cls_ok (t.fa 37 (.cls "Wish") rfl)
theorem TX.k_Wish : Mk K (He.ga K "Wish") (He.fAd K ("Wish", some "__init__")) := He.mkr_ok (t.fa 38 (.mkr "Wish") rfl)
theorem TX.a_Wish_order : NoAttr K (He.ga K "Wish") "order" := He.noat_ok (t.fa 39 (.noat "Wish" "order") rfl)
theorem TX.a_Wish_ranks : NoAttr K (He.ga K "Wish") "ranks" := He.noat_ok (t.fa 40 (.noat "Wish" "ranks") rfl)
theorem TX.g_Market : mg "Market" = some (.ref (He.ga K "Market")) := He.glo_ok t.kin t.G (t.fa 41 (.glo "Market") rfl)
theorem TX.c_Market : Cls K (He.ga K "Market") := He.cls_ok (t.fa 42 (.cls "Market") rfl)
theorem TX.k_Market : Mk K (He.ga K "Market") (He.fAd K ("Market", some "__init__")) := He.mkr_ok (t.fa 43 (.mkr "Market") rfl)
theorem TX.a_Market_askers : NoAttr K (He.ga K "Market") "askers" := He.noat_ok (t.fa 44 (.noat "Market" "askers") rfl)
theorem TX.a_Market_rooms : NoAttr K (He.ga K "Market") "rooms" := He.noat_ok (t.fa 45 (.noat "Market" "rooms") rfl)
theorem TX.a_Market_seats : NoAttr K (He.ga K "Market") "seats" := He.noat_ok (t.fa 46 (.noat "Market" "seats") rfl)
theorem TX.g_Fair : mg "Fair" = some (.ref (He.ga K "Fair")) := He.glo_ok t.kin t.G (t.fa 47 (.glo "Fair") rfl)
theorem TX.c_Fair : Cls K (He.ga K "Fair") := He.cls_ok (t.fa 48 (.cls "Fair") rfl)
theorem TX.k_Fair : Mk K (He.ga K "Fair") (He.fAd K ("Fair", some "__init__")) := He.mkr_ok (t.fa 49 (.mkr "Fair") rfl)
theorem TX.a_Fair_lists : NoAttr K (He.ga K "Fair") "lists" := He.noat_ok (t.fa 50 (.noat "Fair" "lists") rfl)
theorem TX.a_Fair_orders : NoAttr K (He.ga K "Fair") "orders" := He.noat_ok (t.fa 51 (.noat "Fair" "orders") rfl)
theorem TX.a_Fair_seats : NoAttr K (He.ga K "Fair") "seats" := He.noat_ok (t.fa 52 (.noat "Fair" "seats") rfl)
theorem TX.a_Fair_held : NoAttr K (He.ga K "Fair") "held" := He.noat_ok (t.fa 53 (.noat "Fair" "held") rfl)
theorem TX.a_Fair_next : NoAttr K (He.ga K "Fair") "next" := He.noat_ok (t.fa 54 (.noat "Fair" "next") rfl)
theorem TX.a_Fair_asks : NoAttr K (He.ga K "Fair") "asks" := He.noat_ok (t.fa 55 (.noat "Fair" "asks") rfl)
theorem TX.g_Asking : mg "Asking" = some (.ref (He.ga K "Asking")) := He.glo_ok t.kin t.G (t.fa 56 (.glo "Asking") rfl)
theorem TX.c_Asking : Cls K (He.ga K "Asking") := He.cls_ok (t.fa 57 (.cls "Asking") rfl)
theorem TX.k_Asking : Mk K (He.ga K "Asking") (He.fAd K ("Asking", some "__init__")) := He.mkr_ok (t.fa 58 (.mkr "Asking") rfl)
theorem TX.a_Asking_market : NoAttr K (He.ga K "Asking") "market" := He.noat_ok (t.fa 59 (.noat "Asking" "market") rfl)
theorem TX.a_Asking_next : NoAttr K (He.ga K "Asking") "next" := He.noat_ok (t.fa 60 (.noat "Asking" "next") rfl)
theorem TX.a_Asking_held : NoAttr K (He.ga K "Asking") "held" := He.noat_ok (t.fa 61 (.noat "Asking" "held") rfl)
theorem TX.a_Asking_steps : NoAttr K (He.ga K "Asking") "steps" := He.noat_ok (t.fa 62 (.noat "Asking" "steps") rfl)
theorem TX.m_Wish_has : Meth K (He.ga K "Wish") "has" (He.fAd K ("Wish", some "has")) := He.meth_ok (t.fa 63 (.meth "Wish" "has") rfl)
theorem TX.m_Wish_rank : Meth K (He.ga K "Wish") "rank" (He.fAd K ("Wish", some "rank")) := He.meth_ok (t.fa 64 (.meth "Wish" "rank") rfl)
theorem TX.m_Wish_better : Meth K (He.ga K "Wish") "better" (He.fAd K ("Wish", some "better")) := He.meth_ok (t.fa 65 (.meth "Wish" "better") rfl)
theorem TX.m_Wish_ahead_of : Meth K (He.ga K "Wish") "ahead_of" (He.fAd K ("Wish", some "ahead_of")) := He.meth_ok (t.fa 66 (.meth "Wish" "ahead_of") rfl)
theorem TX.m_Wish_worst : Meth K (He.ga K "Wish") "worst" (He.fAd K ("Wish", some "worst")) := He.meth_ok (t.fa 67 (.meth "Wish" "worst") rfl)
theorem TX.g_check_list : mg "check_list" = some (.ref (He.ga K "check_list")) := He.glo_ok t.kin t.G (t.fa 68 (.glo "check_list") rfl)
theorem TX.m_Market_size : Meth K (He.ga K "Market") "size" (He.fAd K ("Market", some "size")) := He.meth_ok (t.fa 69 (.meth "Market" "size") rfl)
theorem TX.m_Market_likes : Meth K (He.ga K "Market") "likes" (He.fAd K ("Market", some "likes")) := He.meth_ok (t.fa 70 (.meth "Market" "likes") rfl)
theorem TX.m_Market_pairs : Meth K (He.ga K "Market") "pairs" (He.fAd K ("Market", some "pairs")) := He.meth_ok (t.fa 71 (.meth "Market" "pairs") rfl)
theorem TX.g_check_match : mg "check_match" = some (.ref (He.ga K "check_match")) := He.glo_ok t.kin t.G (t.fa 72 (.glo "check_match") rfl)
theorem TX.g_those_in : mg "those_in" = some (.ref (He.ga K "those_in")) := He.glo_ok t.kin t.G (t.fa 73 (.glo "those_in") rfl)
theorem TX.g_unwanted : mg "unwanted" = some (.ref (He.ga K "unwanted")) := He.glo_ok t.kin t.G (t.fa 74 (.glo "unwanted") rfl)
theorem TX.g_check_words : mg "check_words" = some (.ref (He.ga K "check_words")) := He.glo_ok t.kin t.G (t.fa 75 (.glo "check_words") rfl)
theorem TX.m_Fair_likes : Meth K (He.ga K "Fair") "likes" (He.fAd K ("Fair", some "likes")) := He.meth_ok (t.fa 76 (.meth "Fair" "likes") rfl)
theorem TX.m_Fair_those_in : Meth K (He.ga K "Fair") "those_in" (He.fAd K ("Fair", some "those_in")) := He.meth_ok (t.fa 77 (.meth "Fair" "those_in") rfl)
theorem TX.m_Fair_match : Meth K (He.ga K "Fair") "match" (He.fAd K ("Fair", some "match")) := He.meth_ok (t.fa 78 (.meth "Fair" "match") rfl)
theorem TX.m_Fair_ask : Meth K (He.ga K "Fair") "ask" (He.fAd K ("Fair", some "ask")) := He.meth_ok (t.fa 79 (.meth "Fair" "ask") rfl)
theorem TX.m_Fair_who_waits : Meth K (He.ga K "Fair") "who_waits" (He.fAd K ("Fair", some "who_waits")) := He.meth_ok (t.fa 80 (.meth "Fair" "who_waits") rfl)
theorem TX.m_Fair_go_on : Meth K (He.ga K "Fair") "go_on" (He.fAd K ("Fair", some "go_on")) := He.meth_ok (t.fa 81 (.meth "Fair" "go_on") rfl)
theorem TX.m_Fair_part_of : Meth K (He.ga K "Fair") "part_of" (He.fAd K ("Fair", some "part_of")) := He.meth_ok (t.fa 82 (.meth "Fair" "part_of") rfl)
theorem TX.m_Fair_ask_anew : Meth K (He.ga K "Fair") "ask_anew" (He.fAd K ("Fair", some "ask_anew")) := He.meth_ok (t.fa 83 (.meth "Fair" "ask_anew") rfl)
theorem TX.m_Fair_told : Meth K (He.ga K "Fair") "told" (He.fAd K ("Fair", some "told")) := He.meth_ok (t.fa 84 (.meth "Fair" "told") rfl)
theorem TX.m_Fair_come : Meth K (He.ga K "Fair") "come" (He.fAd K ("Fair", some "come")) := He.meth_ok (t.fa 85 (.meth "Fair" "come") rfl)
theorem TX.m_Fair_leave : Meth K (He.ga K "Fair") "leave" (He.fAd K ("Fair", some "leave")) := He.meth_ok (t.fa 86 (.meth "Fair" "leave") rfl)
theorem TX.m_Fair_wish : Meth K (He.ga K "Fair") "wish" (He.fAd K ("Fair", some "wish")) := He.meth_ok (t.fa 87 (.meth "Fair" "wish") rfl)
theorem TX.m_Fair_open_room : Meth K (He.ga K "Fair") "open_room" (He.fAd K ("Fair", some "open_room")) := He.meth_ok (t.fa 88 (.meth "Fair" "open_room") rfl)
theorem TX.m_Fair_set_room : Meth K (He.ga K "Fair") "set_room" (He.fAd K ("Fair", some "set_room")) := He.meth_ok (t.fa 89 (.meth "Fair" "set_room") rfl)
theorem TX.m_Fair_shut_room : Meth K (He.ga K "Fair") "shut_room" (He.fAd K ("Fair", some "shut_room")) := He.meth_ok (t.fa 90 (.meth "Fair" "shut_room") rfl)
theorem TX.m_Fair_change_room : Meth K (He.ga K "Fair") "change_room" (He.fAd K ("Fair", some "change_room")) := He.meth_ok (t.fa 91 (.meth "Fair" "change_room") rfl)
theorem TX.m_Fair_names : Meth K (He.ga K "Fair") "names" (He.fAd K ("Fair", some "names")) := He.meth_ok (t.fa 92 (.meth "Fair" "names") rfl)
theorem TX.m_Fair_as_market : Meth K (He.ga K "Fair") "as_market" (He.fAd K ("Fair", some "as_market")) := He.meth_ok (t.fa 93 (.meth "Fair" "as_market") rfl)
theorem TX.m_Fair_by_numbers : Meth K (He.ga K "Fair") "by_numbers" (He.fAd K ("Fair", some "by_numbers")) := He.meth_ok (t.fa 94 (.meth "Fair" "by_numbers") rfl)
theorem TX.m_Asking_wants : Meth K (He.ga K "Asking") "wants" (He.fAd K ("Asking", some "wants")) := He.meth_ok (t.fa 95 (.meth "Asking" "wants") rfl)
theorem TX.m_Asking_ask : Meth K (He.ga K "Asking") "ask" (He.fAd K ("Asking", some "ask")) := He.meth_ok (t.fa 96 (.meth "Asking" "ask") rfl)
theorem TX.m_Asking_go_on : Meth K (He.ga K "Asking") "go_on" (He.fAd K ("Asking", some "go_on")) := He.meth_ok (t.fa 97 (.meth "Asking" "go_on") rfl)
theorem TX.g_trace : mg "trace" = some (.ref (He.ga K "trace")) := He.glo_ok t.kin t.G (t.fa 98 (.glo "trace") rfl)
theorem TX.g_stable_paper : mg "stable_paper" = some (.ref (He.ga K "stable_paper")) := He.glo_ok t.kin t.G (t.fa 99 (.glo "stable_paper") rfl)
theorem TX.g_why_not : mg "why_not" = some (.ref (He.ga K "why_not")) := He.glo_ok t.kin t.G (t.fa 100 (.glo "why_not") rfl)
theorem TX.g_check_stable : mg "check_stable" = some (.ref (He.ga K "check_stable")) := He.glo_ok t.kin t.G (t.fa 101 (.glo "check_stable") rfl)
theorem TX.g_best_paper : mg "best_paper" = some (.ref (He.ga K "best_paper")) := He.glo_ok t.kin t.G (t.fa 102 (.glo "best_paper") rfl)
theorem TX.g_check_best : mg "check_best" = some (.ref (He.ga K "check_best")) := He.glo_ok t.kin t.G (t.fa 103 (.glo "check_best") rfl)
theorem TX.g_holds_by_right : mg "holds_by_right" = some (.ref (He.ga K "holds_by_right")) := He.glo_ok t.kin t.G (t.fa 104 (.glo "holds_by_right") rfl)
theorem TX.g_both_papers : mg "both_papers" = some (.ref (He.ga K "both_papers")) := He.glo_ok t.kin t.G (t.fa 105 (.glo "both_papers") rfl)
theorem TX.g_check_both : mg "check_both" = some (.ref (He.ga K "check_both")) := He.glo_ok t.kin t.G (t.fa 106 (.glo "check_both") rfl)
theorem TX.g_law_dice : mg "_law_dice" = some (.ref (He.ga K "_law_dice")) := He.glo_ok t.kin t.G (t.fa 107 (.glo "_law_dice") rfl)
theorem TX.g_law_roll : mg "_law_roll" = some (.ref (He.ga K "_law_roll")) := He.glo_ok t.kin t.G (t.fa 108 (.glo "_law_roll") rfl)
theorem TX.g_law_rounds : mg "_law_rounds" = some (.ref (He.ga K "_law_rounds")) := He.glo_ok t.kin t.G (t.fa 109 (.glo "_law_rounds") rfl)
theorem TX.g_law_told : mg "_law_told" = some (.ref (He.ga K "_law_told")) := He.glo_ok t.kin t.G (t.fa 110 (.glo "_law_told") rfl)
theorem TX.g_law_matches : mg "_law_matches" = some (.ref (He.ga K "_law_matches")) := He.glo_ok t.kin t.G (t.fa 111 (.glo "_law_matches") rfl)
theorem TX.g_law_place : mg "_law_place" = some (.ref (He.ga K "_law_place")) := He.glo_ok t.kin t.G (t.fa 112 (.glo "_law_place") rfl)
theorem TX.g_law_blocks : mg "_law_blocks" = some (.ref (He.ga K "_law_blocks")) := He.glo_ok t.kin t.G (t.fa 113 (.glo "_law_blocks") rfl)
theorem TX.g_law_stable : mg "_law_stable" = some (.ref (He.ga K "_law_stable")) := He.glo_ok t.kin t.G (t.fa 114 (.glo "_law_stable") rfl)
theorem TX.g_law_best : mg "_law_best" = some (.ref (He.ga K "_law_best")) := He.glo_ok t.kin t.G (t.fa 115 (.glo "_law_best") rfl)
theorem TX.g_law_words : mg "_law_words" = some (.ref (He.ga K "_law_words")) := He.glo_ok t.kin t.G (t.fa 116 (.glo "_law_words") rfl)
theorem TX.g_law_due : mg "_law_due" = some (.ref (He.ga K "_law_due")) := He.glo_ok t.kin t.G (t.fa 117 (.glo "_law_due") rfl)
theorem TX.g_law : mg "law" = some (.ref (He.ga K "law")) := He.glo_ok t.kin t.G (t.fa 118 (.glo "law") rfl)
theorem TX.n_len : mg "len" = none := He.free_ok t.kin t.G (t.fa 119 (.free "len") rfl)
theorem TX.n_tuple : mg "tuple" = none := He.free_ok t.kin t.G (t.fa 120 (.free "tuple") rfl)
theorem TX.n_dict : mg "dict" = none := He.free_ok t.kin t.G (t.fa 121 (.free "dict") rfl)
theorem TX.n_any : mg "any" = none := He.free_ok t.kin t.G (t.fa 122 (.free "any") rfl)
theorem TX.n_all : mg "all" = none := He.free_ok t.kin t.G (t.fa 123 (.free "all") rfl)
theorem TX.n_max : mg "max" = none := He.free_ok t.kin t.G (t.fa 124 (.free "max") rfl)
theorem TX.n_min : mg "min" = none := He.free_ok t.kin t.G (t.fa 125 (.free "min") rfl)
theorem TX.n_sorted : mg "sorted" = none := He.free_ok t.kin t.G (t.fa 126 (.free "sorted") rfl)
theorem TX.n_enumerate : mg "enumerate" = none := He.free_ok t.kin t.G (t.fa 127 (.free "enumerate") rfl)
theorem TX.n_range : mg "range" = none := He.free_ok t.kin t.G (t.fa 128 (.free "range") rfl)
theorem TX.n_list : mg "list" = none := He.free_ok t.kin t.G (t.fa 129 (.free "list") rfl)
theorem TX.n_abs : mg "abs" = none := He.free_ok t.kin t.G (t.fa 130 (.free "abs") rfl)
theorem TX.n_int : mg "int" = none := He.free_ok t.kin t.G (t.fa 131 (.free "int") rfl)
theorem TX.n_str : mg "str" = none := He.free_ok t.kin t.G (t.fa 132 (.free "str") rfl)
theorem TX.t_check_list : LamX.TabB base mg (He.codeOf K ("check_list", none)) (He.cT K ("check_list", none)).2 := t.tb ("check_list", none) (by unfold PMH.tf; simp)
theorem TX.tm_check_list : ((He.cT K ("check_list", none)).2, ("check_list.<locals>.<genexpr>" : Str)) ∈ TL K := by unfold TL; simp
theorem TX.t_Market_init : LamX.TabB base mg (He.codeOf K ("Market", some "__init__")) (He.cT K ("Market", some "__init__")).2 := t.tb ("Market", some "__init__") (by unfold PMH.tf; simp)
theorem TX.tm_Market_init : ((He.cT K ("Market", some "__init__")).2, ("Market.__init__.<locals>.<genexpr>" : Str)) ∈ TL K := by unfold TL; simp
theorem TX.t_check_match : LamX.TabB base mg (He.codeOf K ("check_match", none)) (He.cT K ("check_match", none)).2 := t.tb ("check_match", none) (by unfold PMH.tf; simp)
theorem TX.tm_check_match : ((He.cT K ("check_match", none)).2, ("check_match.<locals>.<genexpr>" : Str)) ∈ TL K := by unfold TL; simp
theorem TX.t_why_not : LamX.TabB base mg (He.codeOf K ("why_not", none)) (He.cT K ("why_not", none)).2 := t.tb ("why_not", none) (by unfold PMH.tf; simp)
theorem TX.tm_why_not : ((He.cT K ("why_not", none)).2, ("why_not.<locals>.<genexpr>" : Str)) ∈ TL K := by unfold TL; simp
theorem TX.t_check_stable : LamX.TabB base mg (He.codeOf K ("check_stable", none)) (He.cT K ("check_stable", none)).2 := t.tb ("check_stable", none) (by unfold PMH.tf; simp)
theorem TX.tm_check_stable : ((He.cT K ("check_stable", none)).2, ("check_stable.<locals>.<genexpr>" : Str)) ∈ TL K := by unfold TL; simp
theorem TX.t_check_best : LamX.TabB base mg (He.codeOf K ("check_best", none)) (He.cT K ("check_best", none)).2 := t.tb ("check_best", none) (by unfold PMH.tf; simp)
theorem TX.tm_check_best : ((He.cT K ("check_best", none)).2, ("check_best.<locals>.<genexpr>" : Str)) ∈ TL K := by unfold TL; simp
theorem TX.t_holds_by_right : LamX.TabB base mg (He.codeOf K ("holds_by_right", none)) (He.cT K ("holds_by_right", none)).2 := t.tb ("holds_by_right", none) (by unfold PMH.tf; simp)
theorem TX.tm_holds_by_right : ((He.cT K ("holds_by_right", none)).2, ("holds_by_right.<locals>.<genexpr>" : Str)) ∈ TL K := by unfold TL; simp
theorem TX.t_Wish_worst : LamX.TabB base mg (He.codeOf K ("Wish", some "worst")) (He.cT K ("Wish", some "worst")).2 := t.tb ("Wish", some "worst") (by unfold PMH.tf; simp)
theorem TX.tm_Wish_worst : ((He.cT K ("Wish", some "worst")).2, ("Wish.worst.<locals>.<lambda>" : Str)) ∈ TL K := by unfold TL; simp
theorem TX.t_law : LamX.TabB base mg (He.codeOf K ("law", none)) (He.cT K ("law", none)).2 := t.tb ("law", none) (by unfold PMH.tf; simp)
theorem TX.tm_law : ((He.cT K ("law", none)).2, ("law.<locals>.<lambda>" : Str)) ∈ TL K := by unfold TL; simp
theorem TX.pw : (TL K).Pairwise fun p r => p.1 ≠ r.1 := by
  have h : ∀ l : List Addr, PMH.nodupB l = true → l.Pairwise fun a b => a ≠ b := by
    intro l
    induction l with
    | nil => intro _; exact .nil
    | cons a r ih =>
      intro h
      have h' : (!(r.any fun b => Nat.beq a b) && PMH.nodupB r) = true := h
      simp only [Bool.and_eq_true, Bool.not_eq_true', List.any_eq_false] at h'
      refine .cons (fun b hb e => ?_) (ih h'.2)
      have := h'.1 b hb
      rw [e] at this
      simp at this
  have := h _ t.nd
  have e : PMH.tf.map (fun p => (He.cT K p).2) = (TL K).map (·.1) := rfl
  rw [e, List.pairwise_map] at this
  exact this
/-- one name a table -/
theorem TX.tu {P : Addr} {s : Str} (h : (P, s) ∈ TL K) : ∀ p ∈ TL K, p.1 = P → p.2 = s := fun p hp e => by
  have := pw_uniq t.pw hp h e
  rw [this]
end

theorem sc_Wish_init : FnScope ["self", "order", "place", "one"] ["self", "order"] (defScope s_Wish_init) := ⟨rfl, rfl, rfl, by decide +kernel, rfl, by decide +kernel, by decide +kernel⟩
theorem sc_Wish_has : FnScope ["self", "one"] ["self", "one"] (defScope s_Wish_has) := ⟨rfl, rfl, rfl, by decide +kernel, rfl, by decide +kernel, by decide +kernel⟩
theorem sc_Wish_rank : FnScope ["self", "one"] ["self", "one"] (defScope s_Wish_rank) := ⟨rfl, rfl, rfl, by decide +kernel, rfl, by decide +kernel, by decide +kernel⟩
theorem sc_Wish_better : FnScope ["self", "one", "other", "left", "right"] ["self", "one", "other"] (defScope s_Wish_better) := ⟨rfl, rfl, rfl, by decide +kernel, rfl, by decide +kernel, by decide +kernel⟩
theorem sc_Wish_ahead_of : FnScope ["self", "one", "place"] ["self", "one"] (defScope s_Wish_ahead_of) := ⟨rfl, rfl, rfl, by decide +kernel, rfl, by decide +kernel, by decide +kernel⟩
theorem sc_Wish_worst : FnScope ["self", "ones", "listed", "one"] ["self", "ones"] (defScope s_Wish_worst) := ⟨rfl, rfl, rfl, by decide +kernel, rfl, by decide +kernel, by decide +kernel⟩
theorem sc_check_list : FnScope ["order", "many", "found", "one"] ["order", "many"] (defScope s_check_list) := ⟨rfl, rfl, rfl, by decide +kernel, rfl, by decide +kernel, by decide +kernel⟩
theorem sc_Market_init : FnScope ["self", "lists", "orders", "seats", "order", "count"] ["self", "lists", "orders", "seats"] (defScope s_Market_init) := ⟨rfl, rfl, rfl, by decide +kernel, rfl, by decide +kernel, by decide +kernel⟩
theorem sc_Market_size : FnScope ["self"] ["self"] (defScope s_Market_size) := ⟨rfl, rfl, rfl, by decide +kernel, rfl, by decide +kernel, by decide +kernel⟩
theorem sc_Market_likes : FnScope ["self", "asker", "room"] ["self", "asker", "room"] (defScope s_Market_likes) := ⟨rfl, rfl, rfl, by decide +kernel, rfl, by decide +kernel, by decide +kernel⟩
theorem sc_Market_pairs : FnScope ["self", "found", "asker", "wish", "room"] ["self"] (defScope s_Market_pairs) := ⟨rfl, rfl, rfl, by decide +kernel, rfl, by decide +kernel, by decide +kernel⟩
theorem sc_check_match : FnScope ["market", "match", "found", "room", "count", "one"] ["market", "match"] (defScope s_check_match) := ⟨rfl, rfl, rfl, by decide +kernel, rfl, by decide +kernel, by decide +kernel⟩
theorem sc_those_in : FnScope ["match", "room", "asker", "one"] ["match", "room"] (defScope s_those_in) := ⟨rfl, rfl, rfl, by decide +kernel, rfl, by decide +kernel, by decide +kernel⟩
theorem sc_unwanted : FnScope ["market", "match", "asker", "room"] ["market", "match"] (defScope s_unwanted) := ⟨rfl, rfl, rfl, by decide +kernel, rfl, by decide +kernel, by decide +kernel⟩
theorem sc_check_words : FnScope ["words", "found", "word"] ["words"] (defScope s_check_words) := ⟨rfl, rfl, rfl, by decide +kernel, rfl, by decide +kernel, by decide +kernel⟩
theorem sc_Fair_init : FnScope ["self"] ["self"] (defScope s_Fair_init) := ⟨rfl, rfl, rfl, by decide +kernel, rfl, by decide +kernel, by decide +kernel⟩
theorem sc_Fair_likes : FnScope ["self", "asker", "room"] ["self", "asker", "room"] (defScope s_Fair_likes) := ⟨rfl, rfl, rfl, by decide +kernel, rfl, by decide +kernel, by decide +kernel⟩
theorem sc_Fair_those_in : FnScope ["self", "room", "asker"] ["self", "room"] (defScope s_Fair_those_in) := ⟨rfl, rfl, rfl, by decide +kernel, rfl, by decide +kernel, by decide +kernel⟩
theorem sc_Fair_match : FnScope ["self", "asker"] ["self"] (defScope s_Fair_match) := ⟨rfl, rfl, rfl, by decide +kernel, rfl, by decide +kernel, by decide +kernel⟩
theorem sc_Fair_ask : FnScope ["self", "asker", "room", "inside"] ["self", "asker"] (defScope s_Fair_ask) := ⟨rfl, rfl, rfl, by decide +kernel, rfl, by decide +kernel, by decide +kernel⟩
theorem sc_Fair_who_waits : FnScope ["self", "one"] ["self"] (defScope s_Fair_who_waits) := ⟨rfl, rfl, rfl, by decide +kernel, rfl, by decide +kernel, by decide +kernel⟩
theorem sc_Fair_go_on : FnScope ["self", "waiting", "here"] ["self"] (defScope s_Fair_go_on) := ⟨rfl, rfl, rfl, by decide +kernel, rfl, by decide +kernel, by decide +kernel⟩
theorem sc_Fair_part_of : FnScope ["self", "askers", "rooms", "moved", "ones", "others", "asker", "room", "one"] ["self", "askers", "rooms"] (defScope s_Fair_part_of) := ⟨rfl, rfl, rfl, by decide +kernel, rfl, by decide +kernel, by decide +kernel⟩
theorem sc_Fair_ask_anew : FnScope ["self", "askers", "asker"] ["self", "askers"] (defScope s_Fair_ask_anew) := ⟨rfl, rfl, rfl, by decide +kernel, rfl, by decide +kernel, by decide +kernel⟩
theorem sc_Fair_told : FnScope ["self", "before", "words", "word"] ["self", "before"] (defScope s_Fair_told) := ⟨rfl, rfl, rfl, by decide +kernel, rfl, by decide +kernel, by decide +kernel⟩
theorem sc_Fair_come : FnScope ["self", "asker", "rooms", "before"] ["self", "asker", "rooms"] (defScope s_Fair_come) := ⟨rfl, rfl, rfl, by decide +kernel, rfl, by decide +kernel, by decide +kernel⟩
theorem sc_Fair_leave : FnScope ["self", "asker", "before", "part", "one"] ["self", "asker"] (defScope s_Fair_leave) := ⟨rfl, rfl, rfl, by decide +kernel, rfl, by decide +kernel, by decide +kernel⟩
theorem sc_Fair_wish : FnScope ["self", "asker", "rooms", "count", "part", "fresh", "before", "old", "one"] ["self", "asker", "rooms"] (defScope s_Fair_wish) := ⟨rfl, rfl, rfl, by decide +kernel, rfl, by decide +kernel, by decide +kernel⟩
theorem sc_Fair_open_room : FnScope ["self", "room", "askers", "count", "before"] ["self", "room", "askers", "count"] (defScope s_Fair_open_room) := ⟨rfl, rfl, rfl, by decide +kernel, rfl, by decide +kernel, by decide +kernel⟩
theorem sc_Fair_set_room : FnScope ["self", "room", "askers", "count"] ["self", "room", "askers", "count"] (defScope s_Fair_set_room) := ⟨rfl, rfl, rfl, by decide +kernel, rfl, by decide +kernel, by decide +kernel⟩
theorem sc_Fair_shut_room : FnScope ["self", "room", "before", "part"] ["self", "room"] (defScope s_Fair_shut_room) := ⟨rfl, rfl, rfl, by decide +kernel, rfl, by decide +kernel, by decide +kernel⟩
theorem sc_Fair_change_room : FnScope ["self", "room", "askers", "count", "part", "fresh", "before", "one"] ["self", "room", "askers", "count"] (defScope s_Fair_change_room) := ⟨rfl, rfl, rfl, by decide +kernel, rfl, by decide +kernel, by decide +kernel⟩
theorem sc_Fair_names : FnScope ["self"] ["self"] (defScope s_Fair_names) := ⟨rfl, rfl, rfl, by decide +kernel, rfl, by decide +kernel, by decide +kernel⟩
theorem sc_Fair_as_market : FnScope ["self", "lists", "orders", "askers", "rooms", "asker", "room"] ["self"] (defScope s_Fair_as_market) := ⟨rfl, rfl, rfl, by decide +kernel, rfl, by decide +kernel, by decide +kernel⟩
theorem sc_Fair_by_numbers : FnScope ["self", "askers", "rooms", "asker"] ["self"] (defScope s_Fair_by_numbers) := ⟨rfl, rfl, rfl, by decide +kernel, rfl, by decide +kernel, by decide +kernel⟩
theorem sc_Asking_init : FnScope ["self", "market"] ["self", "market"] (defScope s_Asking_init) := ⟨rfl, rfl, rfl, by decide +kernel, rfl, by decide +kernel, by decide +kernel⟩
theorem sc_Asking_wants : FnScope ["self", "asker"] ["self", "asker"] (defScope s_Asking_wants) := ⟨rfl, rfl, rfl, by decide +kernel, rfl, by decide +kernel, by decide +kernel⟩
theorem sc_Asking_ask : FnScope ["self", "asker", "room", "inside", "refused", "wish", "count"] ["self", "asker"] (defScope s_Asking_ask) := ⟨rfl, rfl, rfl, by decide +kernel, rfl, by decide +kernel, by decide +kernel⟩
theorem sc_Asking_go_on : FnScope ["self", "waiting", "asker"] ["self"] (defScope s_Asking_go_on) := ⟨rfl, rfl, rfl, by decide +kernel, rfl, by decide +kernel, by decide +kernel⟩
theorem sc_trace : FnScope ["market", "asking"] ["market"] (defScope s_trace) := ⟨rfl, rfl, rfl, by decide +kernel, rfl, by decide +kernel, by decide +kernel⟩
theorem sc_stable_paper : FnScope ["market", "match", "found", "asker", "room"] ["market", "match"] (defScope s_stable_paper) := ⟨rfl, rfl, rfl, by decide +kernel, rfl, by decide +kernel, by decide +kernel⟩
theorem sc_why_not : FnScope ["market", "match", "asker", "room", "inside", "wish", "other"] ["market", "match", "asker", "room"] (defScope s_why_not) := ⟨rfl, rfl, rfl, by decide +kernel, rfl, by decide +kernel, by decide +kernel⟩
theorem sc_check_stable : FnScope ["market", "match", "paper", "due", "asker", "room", "word", "pair", "inside", "wish", "good", "other"] ["market", "match", "paper"] (defScope s_check_stable) := ⟨rfl, rfl, rfl, by decide +kernel, rfl, by decide +kernel, by decide +kernel⟩
theorem sc_best_paper : FnScope ["market", "found", "held", "asker", "room", "refused"] ["market"] (defScope s_best_paper) := ⟨rfl, rfl, rfl, by decide +kernel, rfl, by decide +kernel, by decide +kernel⟩
theorem sc_check_best : FnScope ["market", "match", "paper", "gone", "asker", "room", "holders", "wish", "one", "holder"] ["market", "match", "paper"] (defScope s_check_best) := ⟨rfl, rfl, rfl, by decide +kernel, rfl, by decide +kernel, by decide +kernel⟩
theorem sc_holds_by_right : FnScope ["market", "gone", "holder", "room", "asker", "other"] ["market", "gone", "holder", "room", "asker"] (defScope s_holds_by_right) := ⟨rfl, rfl, rfl, by decide +kernel, rfl, by decide +kernel, by decide +kernel⟩
theorem sc_both_papers : FnScope ["market", "match", "paper", "found"] ["market", "match"] (defScope s_both_papers) := ⟨rfl, rfl, rfl, by decide +kernel, rfl, by decide +kernel, by decide +kernel⟩
theorem sc_check_both : FnScope ["market", "match", "papers"] ["market", "match", "papers"] (defScope s_check_both) := ⟨rfl, rfl, rfl, by decide +kernel, rfl, by decide +kernel, by decide +kernel⟩
theorem sc_law_dice : FnScope ["_law_cell"] ["_law_cell"] (defScope s_law_dice) := ⟨rfl, rfl, rfl, by decide +kernel, rfl, by decide +kernel, by decide +kernel⟩
theorem sc_law_roll : FnScope ["_law_dice_here", "_law_many", "_law_found"] ["_law_dice_here", "_law_many"] (defScope s_law_roll) := ⟨rfl, rfl, rfl, by decide +kernel, rfl, by decide +kernel, by decide +kernel⟩
theorem sc_law_rounds : FnScope ["_law_script", "_law_most_now", "_law_cells", "_law_cell"] ["_law_script", "_law_most_now"] (defScope s_law_rounds) := ⟨rfl, rfl, rfl, by decide +kernel, rfl, by decide +kernel, by decide +kernel⟩
theorem sc_law_told : FnScope ["_law_what"] ["_law_what"] (defScope s_law_told) := ⟨rfl, rfl, rfl, by decide +kernel, rfl, by decide +kernel, by decide +kernel⟩
theorem sc_law_matches : FnScope ["_law_lists", "_law_orders", "_law_seats", "_law_found", "_law_k", "_law_rooms", "_law_fresh", "_law_row", "_law_room"] ["_law_lists", "_law_orders", "_law_seats"] (defScope s_law_matches) := ⟨rfl, rfl, rfl, by decide +kernel, rfl, by decide +kernel, by decide +kernel⟩
theorem sc_law_place : FnScope ["_law_order", "_law_one"] ["_law_order", "_law_one"] (defScope s_law_place) := ⟨rfl, rfl, rfl, by decide +kernel, rfl, by decide +kernel, by decide +kernel⟩
theorem sc_law_blocks : FnScope ["_law_lists", "_law_orders", "_law_seats", "_law_match", "_law_found", "_law_k", "_law_room", "_law_inside", "_law_worse", "_law_j"] ["_law_lists", "_law_orders", "_law_seats", "_law_match"] (defScope s_law_blocks) := ⟨rfl, rfl, rfl, by decide +kernel, rfl, by decide +kernel, by decide +kernel⟩
theorem sc_law_stable : FnScope ["_law_lists", "_law_orders", "_law_seats", "_law_match"] ["_law_lists", "_law_orders", "_law_seats"] (defScope s_law_stable) := ⟨rfl, rfl, rfl, by decide +kernel, rfl, by decide +kernel, by decide +kernel⟩
theorem sc_law_best : FnScope ["_law_lists", "_law_matches_here", "_law_k", "_law_match"] ["_law_lists", "_law_matches_here"] (defScope s_law_best) := ⟨rfl, rfl, rfl, by decide +kernel, rfl, by decide +kernel, by decide +kernel⟩
theorem sc_law_words : FnScope ["_law_dice_here", "_law_words_here", "_law_turn", "_law_left", "_law_found", "_law_one"] ["_law_dice_here", "_law_words_here"] (defScope s_law_words) := ⟨rfl, rfl, rfl, by decide +kernel, rfl, by decide +kernel, by decide +kernel⟩
theorem sc_law_due : FnScope ["_law_askers", "_law_rooms", "_law_lists", "_law_orders", "_law_seats", "_law_best_here", "_law_ones", "_law_others", "_law_one", "_law_room", "_law_k"] ["_law_askers", "_law_rooms"] (defScope s_law_due) := ⟨rfl, rfl, rfl, by decide +kernel, rfl, by decide +kernel, by decide +kernel⟩
theorem sc_law : FnScope ["_law_script", "_law_dice_here", "_law_step", "_law_fair", "_law_askers", "_law_rooms", "_law_before", "_law_after", "_law_names", "_law_moved", "_law_sort", "_law_one", "_law_room", "_law_list_of", "_law_order", "_law_count", "_law_due_here", "_law_told_now", "_law_market", "_law_match", "_law_each", "_law_shut"] ["_law_script"] (defScope s_law) := ⟨rfl, rfl, rfl, by decide +kernel, rfl, by decide +kernel, by decide +kernel⟩

/-- a def does what it promises -/
def Does (P : Program) (w : World) (K : PySem.W.Frag) (mg : Str → Option Value) (base : Heap) (CX : CXT) (k : Nat) (p : Str × Option Str) (ps : List Str) (sp : Sp) : Prop :=
  ∃ fd, FnOk P w K mg base CX k (He.fAd K p) fd ps sp ∧ Binds K fd ps [] ∧ PySem.W.keepIn K (.ref (He.fAd K p)) = true
theorem Does.mono {P : Program} {w : World} {K : PySem.W.Frag} {mg : Str → Option Value} {base : Heap} {CX : CXT} {j k : Nat} {p : Str × Option Str} {ps : List Str} {sp : Sp} (h : Does P w K mg base CX j p ps sp) (e : j ≤ k) : Does P w K mg base CX k p ps sp := by
  obtain ⟨fd, a, b, c⟩ := h
  exact ⟨fd, a.mono e, b, c⟩
/-- THE RULE for a def, its code object told -/
theorem does_of {P : Program} {w : World} {K : PySem.W.Frag} {mg : Str → Option Value} {base : Heap} {CX : CXT} {x qual : Str} {pr : Arguments} {body : List Stmt} {scope : Scope} {p : Str × Option Str} {N ps : List Str} {k : Nat} {sp : Sp} {fd : FuncData}
    (F : FunD K x qual pr body scope [] [] (He.fAd K p) fd) (S : FnScope N ps scope) (b : Binds K fd ps []) (len : ∀ vs H Q E, sp vs H Q E → vs.length = ps.length)
    (hbody : ∀ (A : Around) (outer : List Env) (s : Shared) (H : Hp) (vs : List V) (Q : VK) (E : XK), Room k (A.deeper (envOfC qual scope s.heap.objs.size (He.fAd K p) (.ref (He.codeOf K p)))) → sp vs H Q E →
      ∃ t, PSs (cxOf CX P w K mg base N qual scope (He.fAd K p) (.ref (He.codeOf K p)) A outer s H E) body t ∧ t { nx := fun _ H' => Q .non H', rt := Q } (start N vs) H) : Does P w K mg base CX (k + 1) p ps sp := by
  refine ⟨fd, ?_, b, F.kp⟩
  obtain ⟨oc, od, dV, kV, doc, pm, an, cdv, ct, osl, rfl, lk, hcd, _, _⟩ := F.ex
  obtain ⟨c, rfl⟩ := He.codeIn_ref hcd
  have e : He.codeOf K p = c := He.codeOf_eq lk rfl
  subst e
  exact fn_of lk hcd S len fun A outer s H vs Q E hr hsp => hbody A outer s H vs Q E hr hsp

abbrev X_Wish_init (CX : CXT) (P : Program) (w : World) (K : PySem.W.Frag) (mg : Str → Option Value) (base : Heap) (A : Around) (outer : List Env) (s : Shared) (H : Hp) (E : XK) : Cx := cxOf CX P w K mg base ["self", "order", "place", "one"] "Wish.__init__" (defScope s_Wish_init) (He.fAd K ("Wish", some "__init__")) (.ref (He.codeOf K ("Wish", some "__init__"))) A outer s H E
abbrev X_Wish_has (CX : CXT) (P : Program) (w : World) (K : PySem.W.Frag) (mg : Str → Option Value) (base : Heap) (A : Around) (outer : List Env) (s : Shared) (H : Hp) (E : XK) : Cx := cxOf CX P w K mg base ["self", "one"] "Wish.has" (defScope s_Wish_has) (He.fAd K ("Wish", some "has")) (.ref (He.codeOf K ("Wish", some "has"))) A outer s H E
abbrev X_Wish_rank (CX : CXT) (P : Program) (w : World) (K : PySem.W.Frag) (mg : Str → Option Value) (base : Heap) (A : Around) (outer : List Env) (s : Shared) (H : Hp) (E : XK) : Cx := cxOf CX P w K mg base ["self", "one"] "Wish.rank" (defScope s_Wish_rank) (He.fAd K ("Wish", some "rank")) (.ref (He.codeOf K ("Wish", some "rank"))) A outer s H E
abbrev X_Wish_better (CX : CXT) (P : Program) (w : World) (K : PySem.W.Frag) (mg : Str → Option Value) (base : Heap) (A : Around) (outer : List Env) (s : Shared) (H : Hp) (E : XK) : Cx := cxOf CX P w K mg base ["self", "one", "other", "left", "right"] "Wish.better" (defScope s_Wish_better) (He.fAd K ("Wish", some "better")) (.ref (He.codeOf K ("Wish", some "better"))) A outer s H E
abbrev X_Wish_ahead_of (CX : CXT) (P : Program) (w : World) (K : PySem.W.Frag) (mg : Str → Option Value) (base : Heap) (A : Around) (outer : List Env) (s : Shared) (H : Hp) (E : XK) : Cx := cxOf CX P w K mg base ["self", "one", "place"] "Wish.ahead_of" (defScope s_Wish_ahead_of) (He.fAd K ("Wish", some "ahead_of")) (.ref (He.codeOf K ("Wish", some "ahead_of"))) A outer s H E
abbrev X_Wish_worst (CX : CXT) (P : Program) (w : World) (K : PySem.W.Frag) (mg : Str → Option Value) (base : Heap) (A : Around) (outer : List Env) (s : Shared) (H : Hp) (E : XK) : Cx := cxOf CX P w K mg base ["self", "ones", "listed", "one"] "Wish.worst" (defScope s_Wish_worst) (He.fAd K ("Wish", some "worst")) (.ref (He.codeOf K ("Wish", some "worst"))) A outer s H E
abbrev X_check_list (CX : CXT) (P : Program) (w : World) (K : PySem.W.Frag) (mg : Str → Option Value) (base : Heap) (A : Around) (outer : List Env) (s : Shared) (H : Hp) (E : XK) : Cx := cxOf CX P w K mg base ["order", "many", "found", "one"] "check_list" (defScope s_check_list) (He.fAd K ("check_list", none)) (.ref (He.codeOf K ("check_list", none))) A outer s H E
abbrev X_Market_init (CX : CXT) (P : Program) (w : World) (K : PySem.W.Frag) (mg : Str → Option Value) (base : Heap) (A : Around) (outer : List Env) (s : Shared) (H : Hp) (E : XK) : Cx := cxOf CX P w K mg base ["self", "lists", "orders", "seats", "order", "count"] "Market.__init__" (defScope s_Market_init) (He.fAd K ("Market", some "__init__")) (.ref (He.codeOf K ("Market", some "__init__"))) A outer s H E
abbrev X_Market_size (CX : CXT) (P : Program) (w : World) (K : PySem.W.Frag) (mg : Str → Option Value) (base : Heap) (A : Around) (outer : List Env) (s : Shared) (H : Hp) (E : XK) : Cx := cxOf CX P w K mg base ["self"] "Market.size" (defScope s_Market_size) (He.fAd K ("Market", some "size")) (.ref (He.codeOf K ("Market", some "size"))) A outer s H E
abbrev X_Market_likes (CX : CXT) (P : Program) (w : World) (K : PySem.W.Frag) (mg : Str → Option Value) (base : Heap) (A : Around) (outer : List Env) (s : Shared) (H : Hp) (E : XK) : Cx := cxOf CX P w K mg base ["self", "asker", "room"] "Market.likes" (defScope s_Market_likes) (He.fAd K ("Market", some "likes")) (.ref (He.codeOf K ("Market", some "likes"))) A outer s H E
abbrev X_Market_pairs (CX : CXT) (P : Program) (w : World) (K : PySem.W.Frag) (mg : Str → Option Value) (base : Heap) (A : Around) (outer : List Env) (s : Shared) (H : Hp) (E : XK) : Cx := cxOf CX P w K mg base ["self", "found", "asker", "wish", "room"] "Market.pairs" (defScope s_Market_pairs) (He.fAd K ("Market", some "pairs")) (.ref (He.codeOf K ("Market", some "pairs"))) A outer s H E
abbrev X_check_match (CX : CXT) (P : Program) (w : World) (K : PySem.W.Frag) (mg : Str → Option Value) (base : Heap) (A : Around) (outer : List Env) (s : Shared) (H : Hp) (E : XK) : Cx := cxOf CX P w K mg base ["market", "match", "found", "room", "count", "one"] "check_match" (defScope s_check_match) (He.fAd K ("check_match", none)) (.ref (He.codeOf K ("check_match", none))) A outer s H E
abbrev X_those_in (CX : CXT) (P : Program) (w : World) (K : PySem.W.Frag) (mg : Str → Option Value) (base : Heap) (A : Around) (outer : List Env) (s : Shared) (H : Hp) (E : XK) : Cx := cxOf CX P w K mg base ["match", "room", "asker", "one"] "those_in" (defScope s_those_in) (He.fAd K ("those_in", none)) (.ref (He.codeOf K ("those_in", none))) A outer s H E
abbrev X_unwanted (CX : CXT) (P : Program) (w : World) (K : PySem.W.Frag) (mg : Str → Option Value) (base : Heap) (A : Around) (outer : List Env) (s : Shared) (H : Hp) (E : XK) : Cx := cxOf CX P w K mg base ["market", "match", "asker", "room"] "unwanted" (defScope s_unwanted) (He.fAd K ("unwanted", none)) (.ref (He.codeOf K ("unwanted", none))) A outer s H E
abbrev X_check_words (CX : CXT) (P : Program) (w : World) (K : PySem.W.Frag) (mg : Str → Option Value) (base : Heap) (A : Around) (outer : List Env) (s : Shared) (H : Hp) (E : XK) : Cx := cxOf CX P w K mg base ["words", "found", "word"] "check_words" (defScope s_check_words) (He.fAd K ("check_words", none)) (.ref (He.codeOf K ("check_words", none))) A outer s H E
abbrev X_Fair_init (CX : CXT) (P : Program) (w : World) (K : PySem.W.Frag) (mg : Str → Option Value) (base : Heap) (A : Around) (outer : List Env) (s : Shared) (H : Hp) (E : XK) : Cx := cxOf CX P w K mg base ["self"] "Fair.__init__" (defScope s_Fair_init) (He.fAd K ("Fair", some "__init__")) (.ref (He.codeOf K ("Fair", some "__init__"))) A outer s H E
abbrev X_Fair_likes (CX : CXT) (P : Program) (w : World) (K : PySem.W.Frag) (mg : Str → Option Value) (base : Heap) (A : Around) (outer : List Env) (s : Shared) (H : Hp) (E : XK) : Cx := cxOf CX P w K mg base ["self", "asker", "room"] "Fair.likes" (defScope s_Fair_likes) (He.fAd K ("Fair", some "likes")) (.ref (He.codeOf K ("Fair", some "likes"))) A outer s H E
abbrev X_Fair_those_in (CX : CXT) (P : Program) (w : World) (K : PySem.W.Frag) (mg : Str → Option Value) (base : Heap) (A : Around) (outer : List Env) (s : Shared) (H : Hp) (E : XK) : Cx := cxOf CX P w K mg base ["self", "room", "asker"] "Fair.those_in" (defScope s_Fair_those_in) (He.fAd K ("Fair", some "those_in")) (.ref (He.codeOf K ("Fair", some "those_in"))) A outer s H E
abbrev X_Fair_match (CX : CXT) (P : Program) (w : World) (K : PySem.W.Frag) (mg : Str → Option Value) (base : Heap) (A : Around) (outer : List Env) (s : Shared) (H : Hp) (E : XK) : Cx := cxOf CX P w K mg base ["self", "asker"] "Fair.match" (defScope s_Fair_match) (He.fAd K ("Fair", some "match")) (.ref (He.codeOf K ("Fair", some "match"))) A outer s H E
abbrev X_Fair_ask (CX : CXT) (P : Program) (w : World) (K : PySem.W.Frag) (mg : Str → Option Value) (base : Heap) (A : Around) (outer : List Env) (s : Shared) (H : Hp) (E : XK) : Cx := cxOf CX P w K mg base ["self", "asker", "room", "inside"] "Fair.ask" (defScope s_Fair_ask) (He.fAd K ("Fair", some "ask")) (.ref (He.codeOf K ("Fair", some "ask"))) A outer s H E
abbrev X_Fair_who_waits (CX : CXT) (P : Program) (w : World) (K : PySem.W.Frag) (mg : Str → Option Value) (base : Heap) (A : Around) (outer : List Env) (s : Shared) (H : Hp) (E : XK) : Cx := cxOf CX P w K mg base ["self", "one"] "Fair.who_waits" (defScope s_Fair_who_waits) (He.fAd K ("Fair", some "who_waits")) (.ref (He.codeOf K ("Fair", some "who_waits"))) A outer s H E
abbrev X_Fair_go_on (CX : CXT) (P : Program) (w : World) (K : PySem.W.Frag) (mg : Str → Option Value) (base : Heap) (A : Around) (outer : List Env) (s : Shared) (H : Hp) (E : XK) : Cx := cxOf CX P w K mg base ["self", "waiting", "here"] "Fair.go_on" (defScope s_Fair_go_on) (He.fAd K ("Fair", some "go_on")) (.ref (He.codeOf K ("Fair", some "go_on"))) A outer s H E
abbrev X_Fair_part_of (CX : CXT) (P : Program) (w : World) (K : PySem.W.Frag) (mg : Str → Option Value) (base : Heap) (A : Around) (outer : List Env) (s : Shared) (H : Hp) (E : XK) : Cx := cxOf CX P w K mg base ["self", "askers", "rooms", "moved", "ones", "others", "asker", "room", "one"] "Fair.part_of" (defScope s_Fair_part_of) (He.fAd K ("Fair", some "part_of")) (.ref (He.codeOf K ("Fair", some "part_of"))) A outer s H E
abbrev X_Fair_ask_anew (CX : CXT) (P : Program) (w : World) (K : PySem.W.Frag) (mg : Str → Option Value) (base : Heap) (A : Around) (outer : List Env) (s : Shared) (H : Hp) (E : XK) : Cx := cxOf CX P w K mg base ["self", "askers", "asker"] "Fair.ask_anew" (defScope s_Fair_ask_anew) (He.fAd K ("Fair", some "ask_anew")) (.ref (He.codeOf K ("Fair", some "ask_anew"))) A outer s H E
abbrev X_Fair_told (CX : CXT) (P : Program) (w : World) (K : PySem.W.Frag) (mg : Str → Option Value) (base : Heap) (A : Around) (outer : List Env) (s : Shared) (H : Hp) (E : XK) : Cx := cxOf CX P w K mg base ["self", "before", "words", "word"] "Fair.told" (defScope s_Fair_told) (He.fAd K ("Fair", some "told")) (.ref (He.codeOf K ("Fair", some "told"))) A outer s H E
abbrev X_Fair_come (CX : CXT) (P : Program) (w : World) (K : PySem.W.Frag) (mg : Str → Option Value) (base : Heap) (A : Around) (outer : List Env) (s : Shared) (H : Hp) (E : XK) : Cx := cxOf CX P w K mg base ["self", "asker", "rooms", "before"] "Fair.come" (defScope s_Fair_come) (He.fAd K ("Fair", some "come")) (.ref (He.codeOf K ("Fair", some "come"))) A outer s H E
abbrev X_Fair_leave (CX : CXT) (P : Program) (w : World) (K : PySem.W.Frag) (mg : Str → Option Value) (base : Heap) (A : Around) (outer : List Env) (s : Shared) (H : Hp) (E : XK) : Cx := cxOf CX P w K mg base ["self", "asker", "before", "part", "one"] "Fair.leave" (defScope s_Fair_leave) (He.fAd K ("Fair", some "leave")) (.ref (He.codeOf K ("Fair", some "leave"))) A outer s H E
abbrev X_Fair_wish (CX : CXT) (P : Program) (w : World) (K : PySem.W.Frag) (mg : Str → Option Value) (base : Heap) (A : Around) (outer : List Env) (s : Shared) (H : Hp) (E : XK) : Cx := cxOf CX P w K mg base ["self", "asker", "rooms", "count", "part", "fresh", "before", "old", "one"] "Fair.wish" (defScope s_Fair_wish) (He.fAd K ("Fair", some "wish")) (.ref (He.codeOf K ("Fair", some "wish"))) A outer s H E
abbrev X_Fair_open_room (CX : CXT) (P : Program) (w : World) (K : PySem.W.Frag) (mg : Str → Option Value) (base : Heap) (A : Around) (outer : List Env) (s : Shared) (H : Hp) (E : XK) : Cx := cxOf CX P w K mg base ["self", "room", "askers", "count", "before"] "Fair.open_room" (defScope s_Fair_open_room) (He.fAd K ("Fair", some "open_room")) (.ref (He.codeOf K ("Fair", some "open_room"))) A outer s H E
abbrev X_Fair_set_room (CX : CXT) (P : Program) (w : World) (K : PySem.W.Frag) (mg : Str → Option Value) (base : Heap) (A : Around) (outer : List Env) (s : Shared) (H : Hp) (E : XK) : Cx := cxOf CX P w K mg base ["self", "room", "askers", "count"] "Fair.set_room" (defScope s_Fair_set_room) (He.fAd K ("Fair", some "set_room")) (.ref (He.codeOf K ("Fair", some "set_room"))) A outer s H E
abbrev X_Fair_shut_room (CX : CXT) (P : Program) (w : World) (K : PySem.W.Frag) (mg : Str → Option Value) (base : Heap) (A : Around) (outer : List Env) (s : Shared) (H : Hp) (E : XK) : Cx := cxOf CX P w K mg base ["self", "room", "before", "part"] "Fair.shut_room" (defScope s_Fair_shut_room) (He.fAd K ("Fair", some "shut_room")) (.ref (He.codeOf K ("Fair", some "shut_room"))) A outer s H E
abbrev X_Fair_change_room (CX : CXT) (P : Program) (w : World) (K : PySem.W.Frag) (mg : Str → Option Value) (base : Heap) (A : Around) (outer : List Env) (s : Shared) (H : Hp) (E : XK) : Cx := cxOf CX P w K mg base ["self", "room", "askers", "count", "part", "fresh", "before", "one"] "Fair.change_room" (defScope s_Fair_change_room) (He.fAd K ("Fair", some "change_room")) (.ref (He.codeOf K ("Fair", some "change_room"))) A outer s H E
abbrev X_Fair_names (CX : CXT) (P : Program) (w : World) (K : PySem.W.Frag) (mg : Str → Option Value) (base : Heap) (A : Around) (outer : List Env) (s : Shared) (H : Hp) (E : XK) : Cx := cxOf CX P w K mg base ["self"] "Fair.names" (defScope s_Fair_names) (He.fAd K ("Fair", some "names")) (.ref (He.codeOf K ("Fair", some "names"))) A outer s H E
abbrev X_Fair_as_market (CX : CXT) (P : Program) (w : World) (K : PySem.W.Frag) (mg : Str → Option Value) (base : Heap) (A : Around) (outer : List Env) (s : Shared) (H : Hp) (E : XK) : Cx := cxOf CX P w K mg base ["self", "lists", "orders", "askers", "rooms", "asker", "room"] "Fair.as_market" (defScope s_Fair_as_market) (He.fAd K ("Fair", some "as_market")) (.ref (He.codeOf K ("Fair", some "as_market"))) A outer s H E
abbrev X_Fair_by_numbers (CX : CXT) (P : Program) (w : World) (K : PySem.W.Frag) (mg : Str → Option Value) (base : Heap) (A : Around) (outer : List Env) (s : Shared) (H : Hp) (E : XK) : Cx := cxOf CX P w K mg base ["self", "askers", "rooms", "asker"] "Fair.by_numbers" (defScope s_Fair_by_numbers) (He.fAd K ("Fair", some "by_numbers")) (.ref (He.codeOf K ("Fair", some "by_numbers"))) A outer s H E
abbrev X_Asking_init (CX : CXT) (P : Program) (w : World) (K : PySem.W.Frag) (mg : Str → Option Value) (base : Heap) (A : Around) (outer : List Env) (s : Shared) (H : Hp) (E : XK) : Cx := cxOf CX P w K mg base ["self", "market"] "Asking.__init__" (defScope s_Asking_init) (He.fAd K ("Asking", some "__init__")) (.ref (He.codeOf K ("Asking", some "__init__"))) A outer s H E
abbrev X_Asking_wants (CX : CXT) (P : Program) (w : World) (K : PySem.W.Frag) (mg : Str → Option Value) (base : Heap) (A : Around) (outer : List Env) (s : Shared) (H : Hp) (E : XK) : Cx := cxOf CX P w K mg base ["self", "asker"] "Asking.wants" (defScope s_Asking_wants) (He.fAd K ("Asking", some "wants")) (.ref (He.codeOf K ("Asking", some "wants"))) A outer s H E
abbrev X_Asking_ask (CX : CXT) (P : Program) (w : World) (K : PySem.W.Frag) (mg : Str → Option Value) (base : Heap) (A : Around) (outer : List Env) (s : Shared) (H : Hp) (E : XK) : Cx := cxOf CX P w K mg base ["self", "asker", "room", "inside", "refused", "wish", "count"] "Asking.ask" (defScope s_Asking_ask) (He.fAd K ("Asking", some "ask")) (.ref (He.codeOf K ("Asking", some "ask"))) A outer s H E
abbrev X_Asking_go_on (CX : CXT) (P : Program) (w : World) (K : PySem.W.Frag) (mg : Str → Option Value) (base : Heap) (A : Around) (outer : List Env) (s : Shared) (H : Hp) (E : XK) : Cx := cxOf CX P w K mg base ["self", "waiting", "asker"] "Asking.go_on" (defScope s_Asking_go_on) (He.fAd K ("Asking", some "go_on")) (.ref (He.codeOf K ("Asking", some "go_on"))) A outer s H E
abbrev X_trace (CX : CXT) (P : Program) (w : World) (K : PySem.W.Frag) (mg : Str → Option Value) (base : Heap) (A : Around) (outer : List Env) (s : Shared) (H : Hp) (E : XK) : Cx := cxOf CX P w K mg base ["market", "asking"] "trace" (defScope s_trace) (He.fAd K ("trace", none)) (.ref (He.codeOf K ("trace", none))) A outer s H E
abbrev X_stable_paper (CX : CXT) (P : Program) (w : World) (K : PySem.W.Frag) (mg : Str → Option Value) (base : Heap) (A : Around) (outer : List Env) (s : Shared) (H : Hp) (E : XK) : Cx := cxOf CX P w K mg base ["market", "match", "found", "asker", "room"] "stable_paper" (defScope s_stable_paper) (He.fAd K ("stable_paper", none)) (.ref (He.codeOf K ("stable_paper", none))) A outer s H E
abbrev X_why_not (CX : CXT) (P : Program) (w : World) (K : PySem.W.Frag) (mg : Str → Option Value) (base : Heap) (A : Around) (outer : List Env) (s : Shared) (H : Hp) (E : XK) : Cx := cxOf CX P w K mg base ["market", "match", "asker", "room", "inside", "wish", "other"] "why_not" (defScope s_why_not) (He.fAd K ("why_not", none)) (.ref (He.codeOf K ("why_not", none))) A outer s H E
abbrev X_check_stable (CX : CXT) (P : Program) (w : World) (K : PySem.W.Frag) (mg : Str → Option Value) (base : Heap) (A : Around) (outer : List Env) (s : Shared) (H : Hp) (E : XK) : Cx := cxOf CX P w K mg base ["market", "match", "paper", "due", "asker", "room", "word", "pair", "inside", "wish", "good", "other"] "check_stable" (defScope s_check_stable) (He.fAd K ("check_stable", none)) (.ref (He.codeOf K ("check_stable", none))) A outer s H E
abbrev X_best_paper (CX : CXT) (P : Program) (w : World) (K : PySem.W.Frag) (mg : Str → Option Value) (base : Heap) (A : Around) (outer : List Env) (s : Shared) (H : Hp) (E : XK) : Cx := cxOf CX P w K mg base ["market", "found", "held", "asker", "room", "refused"] "best_paper" (defScope s_best_paper) (He.fAd K ("best_paper", none)) (.ref (He.codeOf K ("best_paper", none))) A outer s H E
abbrev X_check_best (CX : CXT) (P : Program) (w : World) (K : PySem.W.Frag) (mg : Str → Option Value) (base : Heap) (A : Around) (outer : List Env) (s : Shared) (H : Hp) (E : XK) : Cx := cxOf CX P w K mg base ["market", "match", "paper", "gone", "asker", "room", "holders", "wish", "one", "holder"] "check_best" (defScope s_check_best) (He.fAd K ("check_best", none)) (.ref (He.codeOf K ("check_best", none))) A outer s H E
abbrev X_holds_by_right (CX : CXT) (P : Program) (w : World) (K : PySem.W.Frag) (mg : Str → Option Value) (base : Heap) (A : Around) (outer : List Env) (s : Shared) (H : Hp) (E : XK) : Cx := cxOf CX P w K mg base ["market", "gone", "holder", "room", "asker", "other"] "holds_by_right" (defScope s_holds_by_right) (He.fAd K ("holds_by_right", none)) (.ref (He.codeOf K ("holds_by_right", none))) A outer s H E
abbrev X_both_papers (CX : CXT) (P : Program) (w : World) (K : PySem.W.Frag) (mg : Str → Option Value) (base : Heap) (A : Around) (outer : List Env) (s : Shared) (H : Hp) (E : XK) : Cx := cxOf CX P w K mg base ["market", "match", "paper", "found"] "both_papers" (defScope s_both_papers) (He.fAd K ("both_papers", none)) (.ref (He.codeOf K ("both_papers", none))) A outer s H E
abbrev X_check_both (CX : CXT) (P : Program) (w : World) (K : PySem.W.Frag) (mg : Str → Option Value) (base : Heap) (A : Around) (outer : List Env) (s : Shared) (H : Hp) (E : XK) : Cx := cxOf CX P w K mg base ["market", "match", "papers"] "check_both" (defScope s_check_both) (He.fAd K ("check_both", none)) (.ref (He.codeOf K ("check_both", none))) A outer s H E
abbrev X_law_dice (CX : CXT) (P : Program) (w : World) (K : PySem.W.Frag) (mg : Str → Option Value) (base : Heap) (A : Around) (outer : List Env) (s : Shared) (H : Hp) (E : XK) : Cx := cxOf CX P w K mg base ["_law_cell"] "_law_dice" (defScope s_law_dice) (He.fAd K ("_law_dice", none)) (.ref (He.codeOf K ("_law_dice", none))) A outer s H E
abbrev X_law_roll (CX : CXT) (P : Program) (w : World) (K : PySem.W.Frag) (mg : Str → Option Value) (base : Heap) (A : Around) (outer : List Env) (s : Shared) (H : Hp) (E : XK) : Cx := cxOf CX P w K mg base ["_law_dice_here", "_law_many", "_law_found"] "_law_roll" (defScope s_law_roll) (He.fAd K ("_law_roll", none)) (.ref (He.codeOf K ("_law_roll", none))) A outer s H E
abbrev X_law_rounds (CX : CXT) (P : Program) (w : World) (K : PySem.W.Frag) (mg : Str → Option Value) (base : Heap) (A : Around) (outer : List Env) (s : Shared) (H : Hp) (E : XK) : Cx := cxOf CX P w K mg base ["_law_script", "_law_most_now", "_law_cells", "_law_cell"] "_law_rounds" (defScope s_law_rounds) (He.fAd K ("_law_rounds", none)) (.ref (He.codeOf K ("_law_rounds", none))) A outer s H E
abbrev X_law_told (CX : CXT) (P : Program) (w : World) (K : PySem.W.Frag) (mg : Str → Option Value) (base : Heap) (A : Around) (outer : List Env) (s : Shared) (H : Hp) (E : XK) : Cx := cxOf CX P w K mg base ["_law_what"] "_law_told" (defScope s_law_told) (He.fAd K ("_law_told", none)) (.ref (He.codeOf K ("_law_told", none))) A outer s H E
abbrev X_law_matches (CX : CXT) (P : Program) (w : World) (K : PySem.W.Frag) (mg : Str → Option Value) (base : Heap) (A : Around) (outer : List Env) (s : Shared) (H : Hp) (E : XK) : Cx := cxOf CX P w K mg base ["_law_lists", "_law_orders", "_law_seats", "_law_found", "_law_k", "_law_rooms", "_law_fresh", "_law_row", "_law_room"] "_law_matches" (defScope s_law_matches) (He.fAd K ("_law_matches", none)) (.ref (He.codeOf K ("_law_matches", none))) A outer s H E
abbrev X_law_place (CX : CXT) (P : Program) (w : World) (K : PySem.W.Frag) (mg : Str → Option Value) (base : Heap) (A : Around) (outer : List Env) (s : Shared) (H : Hp) (E : XK) : Cx := cxOf CX P w K mg base ["_law_order", "_law_one"] "_law_place" (defScope s_law_place) (He.fAd K ("_law_place", none)) (.ref (He.codeOf K ("_law_place", none))) A outer s H E
abbrev X_law_blocks (CX : CXT) (P : Program) (w : World) (K : PySem.W.Frag) (mg : Str → Option Value) (base : Heap) (A : Around) (outer : List Env) (s : Shared) (H : Hp) (E : XK) : Cx := cxOf CX P w K mg base ["_law_lists", "_law_orders", "_law_seats", "_law_match", "_law_found", "_law_k", "_law_room", "_law_inside", "_law_worse", "_law_j"] "_law_blocks" (defScope s_law_blocks) (He.fAd K ("_law_blocks", none)) (.ref (He.codeOf K ("_law_blocks", none))) A outer s H E
abbrev X_law_stable (CX : CXT) (P : Program) (w : World) (K : PySem.W.Frag) (mg : Str → Option Value) (base : Heap) (A : Around) (outer : List Env) (s : Shared) (H : Hp) (E : XK) : Cx := cxOf CX P w K mg base ["_law_lists", "_law_orders", "_law_seats", "_law_match"] "_law_stable" (defScope s_law_stable) (He.fAd K ("_law_stable", none)) (.ref (He.codeOf K ("_law_stable", none))) A outer s H E
abbrev X_law_best (CX : CXT) (P : Program) (w : World) (K : PySem.W.Frag) (mg : Str → Option Value) (base : Heap) (A : Around) (outer : List Env) (s : Shared) (H : Hp) (E : XK) : Cx := cxOf CX P w K mg base ["_law_lists", "_law_matches_here", "_law_k", "_law_match"] "_law_best" (defScope s_law_best) (He.fAd K ("_law_best", none)) (.ref (He.codeOf K ("_law_best", none))) A outer s H E
abbrev X_law_words (CX : CXT) (P : Program) (w : World) (K : PySem.W.Frag) (mg : Str → Option Value) (base : Heap) (A : Around) (outer : List Env) (s : Shared) (H : Hp) (E : XK) : Cx := cxOf CX P w K mg base ["_law_dice_here", "_law_words_here", "_law_turn", "_law_left", "_law_found", "_law_one"] "_law_words" (defScope s_law_words) (He.fAd K ("_law_words", none)) (.ref (He.codeOf K ("_law_words", none))) A outer s H E
abbrev X_law_due (CX : CXT) (P : Program) (w : World) (K : PySem.W.Frag) (mg : Str → Option Value) (base : Heap) (A : Around) (outer : List Env) (s : Shared) (H : Hp) (E : XK) : Cx := cxOf CX P w K mg base ["_law_askers", "_law_rooms", "_law_lists", "_law_orders", "_law_seats", "_law_best_here", "_law_ones", "_law_others", "_law_one", "_law_room", "_law_k"] "_law_due" (defScope s_law_due) (He.fAd K ("_law_due", none)) (.ref (He.codeOf K ("_law_due", none))) A outer s H E
abbrev X_law (CX : CXT) (P : Program) (w : World) (K : PySem.W.Frag) (mg : Str → Option Value) (base : Heap) (A : Around) (outer : List Env) (s : Shared) (H : Hp) (E : XK) : Cx := cxOf CX P w K mg base ["_law_script", "_law_dice_here", "_law_step", "_law_fair", "_law_askers", "_law_rooms", "_law_before", "_law_after", "_law_names", "_law_moved", "_law_sort", "_law_one", "_law_room", "_law_list_of", "_law_order", "_law_count", "_law_due_here", "_law_told_now", "_law_market", "_law_match", "_law_each", "_law_shut"] "law" (defScope s_law) (He.fAd K ("law", none)) (.ref (He.codeOf K ("law", none))) A outer s H E
section
variable {P : Program} {w : World} {K : PySem.W.Frag} {mg : Str → Option Value} {base : Heap} {CX : CXT} {k : Nat} {sp : Sp} (t : TX K mg base)
include t
theorem TX.do_Wish_init (len : ∀ vs H Q E, sp vs H Q E → vs.length = 2) (hbody : ∀ (A : Around) (outer : List Env) (s : Shared) (H : Hp) (vs : List V) (Q : VK) (E : XK), Room k (A.deeper (envOfC "Wish.__init__" (defScope s_Wish_init) s.heap.objs.size (He.fAd K ("Wish", some "__init__")) (.ref (He.codeOf K ("Wish", some "__init__"))))) → sp vs H Q E →
      ∃ t, PSs (cxOf CX P w K mg base ["self", "order", "place", "one"] "Wish.__init__" (defScope s_Wish_init) (He.fAd K ("Wish", some "__init__")) (.ref (He.codeOf K ("Wish", some "__init__"))) A outer s H E) (defBody s_Wish_init) t ∧ t { nx := fun _ H' => Q .non H', rt := Q } (start ["self", "order", "place", "one"] vs) H) : Does P w K mg base CX (k + 1) ("Wish", some "__init__") ["self", "order"] sp := by
  obtain ⟨fd, F⟩ := t.f_Wish_init
  exact does_of F sc_Wish_init (F.bindsN fun _ _ _ _ _ _ us hl => match us, hl with | [_, _], _ => rfl) len hbody
theorem TX.do_Wish_has (len : ∀ vs H Q E, sp vs H Q E → vs.length = 2) (hbody : ∀ (A : Around) (outer : List Env) (s : Shared) (H : Hp) (vs : List V) (Q : VK) (E : XK), Room k (A.deeper (envOfC "Wish.has" (defScope s_Wish_has) s.heap.objs.size (He.fAd K ("Wish", some "has")) (.ref (He.codeOf K ("Wish", some "has"))))) → sp vs H Q E →
      ∃ t, PSs (cxOf CX P w K mg base ["self", "one"] "Wish.has" (defScope s_Wish_has) (He.fAd K ("Wish", some "has")) (.ref (He.codeOf K ("Wish", some "has"))) A outer s H E) (defBody s_Wish_has) t ∧ t { nx := fun _ H' => Q .non H', rt := Q } (start ["self", "one"] vs) H) : Does P w K mg base CX (k + 1) ("Wish", some "has") ["self", "one"] sp := by
  obtain ⟨fd, F⟩ := t.f_Wish_has
  exact does_of F sc_Wish_has (F.bindsN fun _ _ _ _ _ _ us hl => match us, hl with | [_, _], _ => rfl) len hbody
theorem TX.do_Wish_rank (len : ∀ vs H Q E, sp vs H Q E → vs.length = 2) (hbody : ∀ (A : Around) (outer : List Env) (s : Shared) (H : Hp) (vs : List V) (Q : VK) (E : XK), Room k (A.deeper (envOfC "Wish.rank" (defScope s_Wish_rank) s.heap.objs.size (He.fAd K ("Wish", some "rank")) (.ref (He.codeOf K ("Wish", some "rank"))))) → sp vs H Q E →
      ∃ t, PSs (cxOf CX P w K mg base ["self", "one"] "Wish.rank" (defScope s_Wish_rank) (He.fAd K ("Wish", some "rank")) (.ref (He.codeOf K ("Wish", some "rank"))) A outer s H E) (defBody s_Wish_rank) t ∧ t { nx := fun _ H' => Q .non H', rt := Q } (start ["self", "one"] vs) H) : Does P w K mg base CX (k + 1) ("Wish", some "rank") ["self", "one"] sp := by
  obtain ⟨fd, F⟩ := t.f_Wish_rank
  exact does_of F sc_Wish_rank (F.bindsN fun _ _ _ _ _ _ us hl => match us, hl with | [_, _], _ => rfl) len hbody
theorem TX.do_Wish_better (len : ∀ vs H Q E, sp vs H Q E → vs.length = 3) (hbody : ∀ (A : Around) (outer : List Env) (s : Shared) (H : Hp) (vs : List V) (Q : VK) (E : XK), Room k (A.deeper (envOfC "Wish.better" (defScope s_Wish_better) s.heap.objs.size (He.fAd K ("Wish", some "better")) (.ref (He.codeOf K ("Wish", some "better"))))) → sp vs H Q E →
      ∃ t, PSs (cxOf CX P w K mg base ["self", "one", "other", "left", "right"] "Wish.better" (defScope s_Wish_better) (He.fAd K ("Wish", some "better")) (.ref (He.codeOf K ("Wish", some "better"))) A outer s H E) (defBody s_Wish_better) t ∧ t { nx := fun _ H' => Q .non H', rt := Q } (start ["self", "one", "other", "left", "right"] vs) H) : Does P w K mg base CX (k + 1) ("Wish", some "better") ["self", "one", "other"] sp := by
  obtain ⟨fd, F⟩ := t.f_Wish_better
  exact does_of F sc_Wish_better (F.bindsN fun _ _ _ _ _ _ us hl => match us, hl with | [_, _, _], _ => rfl) len hbody
theorem TX.do_Wish_ahead_of (len : ∀ vs H Q E, sp vs H Q E → vs.length = 2) (hbody : ∀ (A : Around) (outer : List Env) (s : Shared) (H : Hp) (vs : List V) (Q : VK) (E : XK), Room k (A.deeper (envOfC "Wish.ahead_of" (defScope s_Wish_ahead_of) s.heap.objs.size (He.fAd K ("Wish", some "ahead_of")) (.ref (He.codeOf K ("Wish", some "ahead_of"))))) → sp vs H Q E →
      ∃ t, PSs (cxOf CX P w K mg base ["self", "one", "place"] "Wish.ahead_of" (defScope s_Wish_ahead_of) (He.fAd K ("Wish", some "ahead_of")) (.ref (He.codeOf K ("Wish", some "ahead_of"))) A outer s H E) (defBody s_Wish_ahead_of) t ∧ t { nx := fun _ H' => Q .non H', rt := Q } (start ["self", "one", "place"] vs) H) : Does P w K mg base CX (k + 1) ("Wish", some "ahead_of") ["self", "one"] sp := by
  obtain ⟨fd, F⟩ := t.f_Wish_ahead_of
  exact does_of F sc_Wish_ahead_of (F.bindsN fun _ _ _ _ _ _ us hl => match us, hl with | [_, _], _ => rfl) len hbody
theorem TX.do_Wish_worst (len : ∀ vs H Q E, sp vs H Q E → vs.length = 2) (hbody : ∀ (A : Around) (outer : List Env) (s : Shared) (H : Hp) (vs : List V) (Q : VK) (E : XK), Room k (A.deeper (envOfC "Wish.worst" (defScope s_Wish_worst) s.heap.objs.size (He.fAd K ("Wish", some "worst")) (.ref (He.codeOf K ("Wish", some "worst"))))) → sp vs H Q E →
      ∃ t, PSs (cxOf CX P w K mg base ["self", "ones", "listed", "one"] "Wish.worst" (defScope s_Wish_worst) (He.fAd K ("Wish", some "worst")) (.ref (He.codeOf K ("Wish", some "worst"))) A outer s H E) (defBody s_Wish_worst) t ∧ t { nx := fun _ H' => Q .non H', rt := Q } (start ["self", "ones", "listed", "one"] vs) H) : Does P w K mg base CX (k + 1) ("Wish", some "worst") ["self", "ones"] sp := by
  obtain ⟨fd, F⟩ := t.f_Wish_worst
  exact does_of F sc_Wish_worst (F.bindsN fun _ _ _ _ _ _ us hl => match us, hl with | [_, _], _ => rfl) len hbody
theorem TX.do_check_list (len : ∀ vs H Q E, sp vs H Q E → vs.length = 2) (hbody : ∀ (A : Around) (outer : List Env) (s : Shared) (H : Hp) (vs : List V) (Q : VK) (E : XK), Room k (A.deeper (envOfC "check_list" (defScope s_check_list) s.heap.objs.size (He.fAd K ("check_list", none)) (.ref (He.codeOf K ("check_list", none))))) → sp vs H Q E →
      ∃ t, PSs (cxOf CX P w K mg base ["order", "many", "found", "one"] "check_list" (defScope s_check_list) (He.fAd K ("check_list", none)) (.ref (He.codeOf K ("check_list", none))) A outer s H E) (defBody s_check_list) t ∧ t { nx := fun _ H' => Q .non H', rt := Q } (start ["order", "many", "found", "one"] vs) H) : Does P w K mg base CX (k + 1) ("check_list", none) ["order", "many"] sp := by
  obtain ⟨fd, F⟩ := t.f_check_list
  exact does_of F sc_check_list (F.bindsN fun _ _ _ _ _ _ us hl => match us, hl with | [_, _], _ => rfl) len hbody
theorem TX.do_Market_init (len : ∀ vs H Q E, sp vs H Q E → vs.length = 4) (hbody : ∀ (A : Around) (outer : List Env) (s : Shared) (H : Hp) (vs : List V) (Q : VK) (E : XK), Room k (A.deeper (envOfC "Market.__init__" (defScope s_Market_init) s.heap.objs.size (He.fAd K ("Market", some "__init__")) (.ref (He.codeOf K ("Market", some "__init__"))))) → sp vs H Q E →
      ∃ t, PSs (cxOf CX P w K mg base ["self", "lists", "orders", "seats", "order", "count"] "Market.__init__" (defScope s_Market_init) (He.fAd K ("Market", some "__init__")) (.ref (He.codeOf K ("Market", some "__init__"))) A outer s H E) (defBody s_Market_init) t ∧ t { nx := fun _ H' => Q .non H', rt := Q } (start ["self", "lists", "orders", "seats", "order", "count"] vs) H) : Does P w K mg base CX (k + 1) ("Market", some "__init__") ["self", "lists", "orders", "seats"] sp := by
  obtain ⟨fd, F⟩ := t.f_Market_init
  exact does_of F sc_Market_init (F.bindsN fun _ _ _ _ _ _ us hl => match us, hl with | [_, _, _, _], _ => rfl) len hbody
theorem TX.do_Market_size (len : ∀ vs H Q E, sp vs H Q E → vs.length = 1) (hbody : ∀ (A : Around) (outer : List Env) (s : Shared) (H : Hp) (vs : List V) (Q : VK) (E : XK), Room k (A.deeper (envOfC "Market.size" (defScope s_Market_size) s.heap.objs.size (He.fAd K ("Market", some "size")) (.ref (He.codeOf K ("Market", some "size"))))) → sp vs H Q E →
      ∃ t, PSs (cxOf CX P w K mg base ["self"] "Market.size" (defScope s_Market_size) (He.fAd K ("Market", some "size")) (.ref (He.codeOf K ("Market", some "size"))) A outer s H E) (defBody s_Market_size) t ∧ t { nx := fun _ H' => Q .non H', rt := Q } (start ["self"] vs) H) : Does P w K mg base CX (k + 1) ("Market", some "size") ["self"] sp := by
  obtain ⟨fd, F⟩ := t.f_Market_size
  exact does_of F sc_Market_size (F.bindsN fun _ _ _ _ _ _ us hl => match us, hl with | [_], _ => rfl) len hbody
theorem TX.do_Market_likes (len : ∀ vs H Q E, sp vs H Q E → vs.length = 3) (hbody : ∀ (A : Around) (outer : List Env) (s : Shared) (H : Hp) (vs : List V) (Q : VK) (E : XK), Room k (A.deeper (envOfC "Market.likes" (defScope s_Market_likes) s.heap.objs.size (He.fAd K ("Market", some "likes")) (.ref (He.codeOf K ("Market", some "likes"))))) → sp vs H Q E →
      ∃ t, PSs (cxOf CX P w K mg base ["self", "asker", "room"] "Market.likes" (defScope s_Market_likes) (He.fAd K ("Market", some "likes")) (.ref (He.codeOf K ("Market", some "likes"))) A outer s H E) (defBody s_Market_likes) t ∧ t { nx := fun _ H' => Q .non H', rt := Q } (start ["self", "asker", "room"] vs) H) : Does P w K mg base CX (k + 1) ("Market", some "likes") ["self", "asker", "room"] sp := by
  obtain ⟨fd, F⟩ := t.f_Market_likes
  exact does_of F sc_Market_likes (F.bindsN fun _ _ _ _ _ _ us hl => match us, hl with | [_, _, _], _ => rfl) len hbody
theorem TX.do_Market_pairs (len : ∀ vs H Q E, sp vs H Q E → vs.length = 1) (hbody : ∀ (A : Around) (outer : List Env) (s : Shared) (H : Hp) (vs : List V) (Q : VK) (E : XK), Room k (A.deeper (envOfC "Market.pairs" (defScope s_Market_pairs) s.heap.objs.size (He.fAd K ("Market", some "pairs")) (.ref (He.codeOf K ("Market", some "pairs"))))) → sp vs H Q E →
      ∃ t, PSs (cxOf CX P w K mg base ["self", "found", "asker", "wish", "room"] "Market.pairs" (defScope s_Market_pairs) (He.fAd K ("Market", some "pairs")) (.ref (He.codeOf K ("Market", some "pairs"))) A outer s H E) (defBody s_Market_pairs) t ∧ t { nx := fun _ H' => Q .non H', rt := Q } (start ["self", "found", "asker", "wish", "room"] vs) H) : Does P w K mg base CX (k + 1) ("Market", some "pairs") ["self"] sp := by
  obtain ⟨fd, F⟩ := t.f_Market_pairs
  exact does_of F sc_Market_pairs (F.bindsN fun _ _ _ _ _ _ us hl => match us, hl with | [_], _ => rfl) len hbody
theorem TX.do_check_match (len : ∀ vs H Q E, sp vs H Q E → vs.length = 2) (hbody : ∀ (A : Around) (outer : List Env) (s : Shared) (H : Hp) (vs : List V) (Q : VK) (E : XK), Room k (A.deeper (envOfC "check_match" (defScope s_check_match) s.heap.objs.size (He.fAd K ("check_match", none)) (.ref (He.codeOf K ("check_match", none))))) → sp vs H Q E →
      ∃ t, PSs (cxOf CX P w K mg base ["market", "match", "found", "room", "count", "one"] "check_match" (defScope s_check_match) (He.fAd K ("check_match", none)) (.ref (He.codeOf K ("check_match", none))) A outer s H E) (defBody s_check_match) t ∧ t { nx := fun _ H' => Q .non H', rt := Q } (start ["market", "match", "found", "room", "count", "one"] vs) H) : Does P w K mg base CX (k + 1) ("check_match", none) ["market", "match"] sp := by
  obtain ⟨fd, F⟩ := t.f_check_match
  exact does_of F sc_check_match (F.bindsN fun _ _ _ _ _ _ us hl => match us, hl with | [_, _], _ => rfl) len hbody
theorem TX.do_those_in (len : ∀ vs H Q E, sp vs H Q E → vs.length = 2) (hbody : ∀ (A : Around) (outer : List Env) (s : Shared) (H : Hp) (vs : List V) (Q : VK) (E : XK), Room k (A.deeper (envOfC "those_in" (defScope s_those_in) s.heap.objs.size (He.fAd K ("those_in", none)) (.ref (He.codeOf K ("those_in", none))))) → sp vs H Q E →
      ∃ t, PSs (cxOf CX P w K mg base ["match", "room", "asker", "one"] "those_in" (defScope s_those_in) (He.fAd K ("those_in", none)) (.ref (He.codeOf K ("those_in", none))) A outer s H E) (defBody s_those_in) t ∧ t { nx := fun _ H' => Q .non H', rt := Q } (start ["match", "room", "asker", "one"] vs) H) : Does P w K mg base CX (k + 1) ("those_in", none) ["match", "room"] sp := by
  obtain ⟨fd, F⟩ := t.f_those_in
  exact does_of F sc_those_in (F.bindsN fun _ _ _ _ _ _ us hl => match us, hl with | [_, _], _ => rfl) len hbody
theorem TX.do_unwanted (len : ∀ vs H Q E, sp vs H Q E → vs.length = 2) (hbody : ∀ (A : Around) (outer : List Env) (s : Shared) (H : Hp) (vs : List V) (Q : VK) (E : XK), Room k (A.deeper (envOfC "unwanted" (defScope s_unwanted) s.heap.objs.size (He.fAd K ("unwanted", none)) (.ref (He.codeOf K ("unwanted", none))))) → sp vs H Q E →
      ∃ t, PSs (cxOf CX P w K mg base ["market", "match", "asker", "room"] "unwanted" (defScope s_unwanted) (He.fAd K ("unwanted", none)) (.ref (He.codeOf K ("unwanted", none))) A outer s H E) (defBody s_unwanted) t ∧ t { nx := fun _ H' => Q .non H', rt := Q } (start ["market", "match", "asker", "room"] vs) H) : Does P w K mg base CX (k + 1) ("unwanted", none) ["market", "match"] sp := by
  obtain ⟨fd, F⟩ := t.f_unwanted
  exact does_of F sc_unwanted (F.bindsN fun _ _ _ _ _ _ us hl => match us, hl with | [_, _], _ => rfl) len hbody
theorem TX.do_check_words (len : ∀ vs H Q E, sp vs H Q E → vs.length = 1) (hbody : ∀ (A : Around) (outer : List Env) (s : Shared) (H : Hp) (vs : List V) (Q : VK) (E : XK), Room k (A.deeper (envOfC "check_words" (defScope s_check_words) s.heap.objs.size (He.fAd K ("check_words", none)) (.ref (He.codeOf K ("check_words", none))))) → sp vs H Q E →
      ∃ t, PSs (cxOf CX P w K mg base ["words", "found", "word"] "check_words" (defScope s_check_words) (He.fAd K ("check_words", none)) (.ref (He.codeOf K ("check_words", none))) A outer s H E) (defBody s_check_words) t ∧ t { nx := fun _ H' => Q .non H', rt := Q } (start ["words", "found", "word"] vs) H) : Does P w K mg base CX (k + 1) ("check_words", none) ["words"] sp := by
  obtain ⟨fd, F⟩ := t.f_check_words
  exact does_of F sc_check_words (F.bindsN fun _ _ _ _ _ _ us hl => match us, hl with | [_], _ => rfl) len hbody
theorem TX.do_Fair_init (len : ∀ vs H Q E, sp vs H Q E → vs.length = 1) (hbody : ∀ (A : Around) (outer : List Env) (s : Shared) (H : Hp) (vs : List V) (Q : VK) (E : XK), Room k (A.deeper (envOfC "Fair.__init__" (defScope s_Fair_init) s.heap.objs.size (He.fAd K ("Fair", some "__init__")) (.ref (He.codeOf K ("Fair", some "__init__"))))) → sp vs H Q E →
      ∃ t, PSs (cxOf CX P w K mg base ["self"] "Fair.__init__" (defScope s_Fair_init) (He.fAd K ("Fair", some "__init__")) (.ref (He.codeOf K ("Fair", some "__init__"))) A outer s H E) (defBody s_Fair_init) t ∧ t { nx := fun _ H' => Q .non H', rt := Q } (start ["self"] vs) H) : Does P w K mg base CX (k + 1) ("Fair", some "__init__") ["self"] sp := by
  obtain ⟨fd, F⟩ := t.f_Fair_init
  exact does_of F sc_Fair_init (F.bindsN fun _ _ _ _ _ _ us hl => match us, hl with | [_], _ => rfl) len hbody
theorem TX.do_Fair_likes (len : ∀ vs H Q E, sp vs H Q E → vs.length = 3) (hbody : ∀ (A : Around) (outer : List Env) (s : Shared) (H : Hp) (vs : List V) (Q : VK) (E : XK), Room k (A.deeper (envOfC "Fair.likes" (defScope s_Fair_likes) s.heap.objs.size (He.fAd K ("Fair", some "likes")) (.ref (He.codeOf K ("Fair", some "likes"))))) → sp vs H Q E →
      ∃ t, PSs (cxOf CX P w K mg base ["self", "asker", "room"] "Fair.likes" (defScope s_Fair_likes) (He.fAd K ("Fair", some "likes")) (.ref (He.codeOf K ("Fair", some "likes"))) A outer s H E) (defBody s_Fair_likes) t ∧ t { nx := fun _ H' => Q .non H', rt := Q } (start ["self", "asker", "room"] vs) H) : Does P w K mg base CX (k + 1) ("Fair", some "likes") ["self", "asker", "room"] sp := by
  obtain ⟨fd, F⟩ := t.f_Fair_likes
  exact does_of F sc_Fair_likes (F.bindsN fun _ _ _ _ _ _ us hl => match us, hl with | [_, _, _], _ => rfl) len hbody
theorem TX.do_Fair_those_in (len : ∀ vs H Q E, sp vs H Q E → vs.length = 2) (hbody : ∀ (A : Around) (outer : List Env) (s : Shared) (H : Hp) (vs : List V) (Q : VK) (E : XK), Room k (A.deeper (envOfC "Fair.those_in" (defScope s_Fair_those_in) s.heap.objs.size (He.fAd K ("Fair", some "those_in")) (.ref (He.codeOf K ("Fair", some "those_in"))))) → sp vs H Q E →
      ∃ t, PSs (cxOf CX P w K mg base ["self", "room", "asker"] "Fair.those_in" (defScope s_Fair_those_in) (He.fAd K ("Fair", some "those_in")) (.ref (He.codeOf K ("Fair", some "those_in"))) A outer s H E) (defBody s_Fair_those_in) t ∧ t { nx := fun _ H' => Q .non H', rt := Q } (start ["self", "room", "asker"] vs) H) : Does P w K mg base CX (k + 1) ("Fair", some "those_in") ["self", "room"] sp := by
  obtain ⟨fd, F⟩ := t.f_Fair_those_in
  exact does_of F sc_Fair_those_in (F.bindsN fun _ _ _ _ _ _ us hl => match us, hl with | [_, _], _ => rfl) len hbody
theorem TX.do_Fair_match (len : ∀ vs H Q E, sp vs H Q E → vs.length = 1) (hbody : ∀ (A : Around) (outer : List Env) (s : Shared) (H : Hp) (vs : List V) (Q : VK) (E : XK), Room k (A.deeper (envOfC "Fair.match" (defScope s_Fair_match) s.heap.objs.size (He.fAd K ("Fair", some "match")) (.ref (He.codeOf K ("Fair", some "match"))))) → sp vs H Q E →
      ∃ t, PSs (cxOf CX P w K mg base ["self", "asker"] "Fair.match" (defScope s_Fair_match) (He.fAd K ("Fair", some "match")) (.ref (He.codeOf K ("Fair", some "match"))) A outer s H E) (defBody s_Fair_match) t ∧ t { nx := fun _ H' => Q .non H', rt := Q } (start ["self", "asker"] vs) H) : Does P w K mg base CX (k + 1) ("Fair", some "match") ["self"] sp := by
  obtain ⟨fd, F⟩ := t.f_Fair_match
  exact does_of F sc_Fair_match (F.bindsN fun _ _ _ _ _ _ us hl => match us, hl with | [_], _ => rfl) len hbody
theorem TX.do_Fair_ask (len : ∀ vs H Q E, sp vs H Q E → vs.length = 2) (hbody : ∀ (A : Around) (outer : List Env) (s : Shared) (H : Hp) (vs : List V) (Q : VK) (E : XK), Room k (A.deeper (envOfC "Fair.ask" (defScope s_Fair_ask) s.heap.objs.size (He.fAd K ("Fair", some "ask")) (.ref (He.codeOf K ("Fair", some "ask"))))) → sp vs H Q E →
      ∃ t, PSs (cxOf CX P w K mg base ["self", "asker", "room", "inside"] "Fair.ask" (defScope s_Fair_ask) (He.fAd K ("Fair", some "ask")) (.ref (He.codeOf K ("Fair", some "ask"))) A outer s H E) (defBody s_Fair_ask) t ∧ t { nx := fun _ H' => Q .non H', rt := Q } (start ["self", "asker", "room", "inside"] vs) H) : Does P w K mg base CX (k + 1) ("Fair", some "ask") ["self", "asker"] sp := by
  obtain ⟨fd, F⟩ := t.f_Fair_ask
  exact does_of F sc_Fair_ask (F.bindsN fun _ _ _ _ _ _ us hl => match us, hl with | [_, _], _ => rfl) len hbody
theorem TX.do_Fair_who_waits (len : ∀ vs H Q E, sp vs H Q E → vs.length = 1) (hbody : ∀ (A : Around) (outer : List Env) (s : Shared) (H : Hp) (vs : List V) (Q : VK) (E : XK), Room k (A.deeper (envOfC "Fair.who_waits" (defScope s_Fair_who_waits) s.heap.objs.size (He.fAd K ("Fair", some "who_waits")) (.ref (He.codeOf K ("Fair", some "who_waits"))))) → sp vs H Q E →
      ∃ t, PSs (cxOf CX P w K mg base ["self", "one"] "Fair.who_waits" (defScope s_Fair_who_waits) (He.fAd K ("Fair", some "who_waits")) (.ref (He.codeOf K ("Fair", some "who_waits"))) A outer s H E) (defBody s_Fair_who_waits) t ∧ t { nx := fun _ H' => Q .non H', rt := Q } (start ["self", "one"] vs) H) : Does P w K mg base CX (k + 1) ("Fair", some "who_waits") ["self"] sp := by
  obtain ⟨fd, F⟩ := t.f_Fair_who_waits
  exact does_of F sc_Fair_who_waits (F.bindsN fun _ _ _ _ _ _ us hl => match us, hl with | [_], _ => rfl) len hbody
theorem TX.do_Fair_go_on (len : ∀ vs H Q E, sp vs H Q E → vs.length = 1) (hbody : ∀ (A : Around) (outer : List Env) (s : Shared) (H : Hp) (vs : List V) (Q : VK) (E : XK), Room k (A.deeper (envOfC "Fair.go_on" (defScope s_Fair_go_on) s.heap.objs.size (He.fAd K ("Fair", some "go_on")) (.ref (He.codeOf K ("Fair", some "go_on"))))) → sp vs H Q E →
      ∃ t, PSs (cxOf CX P w K mg base ["self", "waiting", "here"] "Fair.go_on" (defScope s_Fair_go_on) (He.fAd K ("Fair", some "go_on")) (.ref (He.codeOf K ("Fair", some "go_on"))) A outer s H E) (defBody s_Fair_go_on) t ∧ t { nx := fun _ H' => Q .non H', rt := Q } (start ["self", "waiting", "here"] vs) H) : Does P w K mg base CX (k + 1) ("Fair", some "go_on") ["self"] sp := by
  obtain ⟨fd, F⟩ := t.f_Fair_go_on
  exact does_of F sc_Fair_go_on (F.bindsN fun _ _ _ _ _ _ us hl => match us, hl with | [_], _ => rfl) len hbody
theorem TX.do_Fair_part_of (len : ∀ vs H Q E, sp vs H Q E → vs.length = 3) (hbody : ∀ (A : Around) (outer : List Env) (s : Shared) (H : Hp) (vs : List V) (Q : VK) (E : XK), Room k (A.deeper (envOfC "Fair.part_of" (defScope s_Fair_part_of) s.heap.objs.size (He.fAd K ("Fair", some "part_of")) (.ref (He.codeOf K ("Fair", some "part_of"))))) → sp vs H Q E →
      ∃ t, PSs (cxOf CX P w K mg base ["self", "askers", "rooms", "moved", "ones", "others", "asker", "room", "one"] "Fair.part_of" (defScope s_Fair_part_of) (He.fAd K ("Fair", some "part_of")) (.ref (He.codeOf K ("Fair", some "part_of"))) A outer s H E) (defBody s_Fair_part_of) t ∧ t { nx := fun _ H' => Q .non H', rt := Q } (start ["self", "askers", "rooms", "moved", "ones", "others", "asker", "room", "one"] vs) H) : Does P w K mg base CX (k + 1) ("Fair", some "part_of") ["self", "askers", "rooms"] sp := by
  obtain ⟨fd, F⟩ := t.f_Fair_part_of
  exact does_of F sc_Fair_part_of (F.bindsN fun _ _ _ _ _ _ us hl => match us, hl with | [_, _, _], _ => rfl) len hbody
theorem TX.do_Fair_ask_anew (len : ∀ vs H Q E, sp vs H Q E → vs.length = 2) (hbody : ∀ (A : Around) (outer : List Env) (s : Shared) (H : Hp) (vs : List V) (Q : VK) (E : XK), Room k (A.deeper (envOfC "Fair.ask_anew" (defScope s_Fair_ask_anew) s.heap.objs.size (He.fAd K ("Fair", some "ask_anew")) (.ref (He.codeOf K ("Fair", some "ask_anew"))))) → sp vs H Q E →
      ∃ t, PSs (cxOf CX P w K mg base ["self", "askers", "asker"] "Fair.ask_anew" (defScope s_Fair_ask_anew) (He.fAd K ("Fair", some "ask_anew")) (.ref (He.codeOf K ("Fair", some "ask_anew"))) A outer s H E) (defBody s_Fair_ask_anew) t ∧ t { nx := fun _ H' => Q .non H', rt := Q } (start ["self", "askers", "asker"] vs) H) : Does P w K mg base CX (k + 1) ("Fair", some "ask_anew") ["self", "askers"] sp := by
  obtain ⟨fd, F⟩ := t.f_Fair_ask_anew
  exact does_of F sc_Fair_ask_anew (F.bindsN fun _ _ _ _ _ _ us hl => match us, hl with | [_, _], _ => rfl) len hbody
theorem TX.do_Fair_told (len : ∀ vs H Q E, sp vs H Q E → vs.length = 2) (hbody : ∀ (A : Around) (outer : List Env) (s : Shared) (H : Hp) (vs : List V) (Q : VK) (E : XK), Room k (A.deeper (envOfC "Fair.told" (defScope s_Fair_told) s.heap.objs.size (He.fAd K ("Fair", some "told")) (.ref (He.codeOf K ("Fair", some "told"))))) → sp vs H Q E →
      ∃ t, PSs (cxOf CX P w K mg base ["self", "before", "words", "word"] "Fair.told" (defScope s_Fair_told) (He.fAd K ("Fair", some "told")) (.ref (He.codeOf K ("Fair", some "told"))) A outer s H E) (defBody s_Fair_told) t ∧ t { nx := fun _ H' => Q .non H', rt := Q } (start ["self", "before", "words", "word"] vs) H) : Does P w K mg base CX (k + 1) ("Fair", some "told") ["self", "before"] sp := by
  obtain ⟨fd, F⟩ := t.f_Fair_told
  exact does_of F sc_Fair_told (F.bindsN fun _ _ _ _ _ _ us hl => match us, hl with | [_, _], _ => rfl) len hbody
theorem TX.do_Fair_come (len : ∀ vs H Q E, sp vs H Q E → vs.length = 3) (hbody : ∀ (A : Around) (outer : List Env) (s : Shared) (H : Hp) (vs : List V) (Q : VK) (E : XK), Room k (A.deeper (envOfC "Fair.come" (defScope s_Fair_come) s.heap.objs.size (He.fAd K ("Fair", some "come")) (.ref (He.codeOf K ("Fair", some "come"))))) → sp vs H Q E →
      ∃ t, PSs (cxOf CX P w K mg base ["self", "asker", "rooms", "before"] "Fair.come" (defScope s_Fair_come) (He.fAd K ("Fair", some "come")) (.ref (He.codeOf K ("Fair", some "come"))) A outer s H E) (defBody s_Fair_come) t ∧ t { nx := fun _ H' => Q .non H', rt := Q } (start ["self", "asker", "rooms", "before"] vs) H) : Does P w K mg base CX (k + 1) ("Fair", some "come") ["self", "asker", "rooms"] sp := by
  obtain ⟨fd, F⟩ := t.f_Fair_come
  exact does_of F sc_Fair_come (F.bindsN fun _ _ _ _ _ _ us hl => match us, hl with | [_, _, _], _ => rfl) len hbody
theorem TX.do_Fair_leave (len : ∀ vs H Q E, sp vs H Q E → vs.length = 2) (hbody : ∀ (A : Around) (outer : List Env) (s : Shared) (H : Hp) (vs : List V) (Q : VK) (E : XK), Room k (A.deeper (envOfC "Fair.leave" (defScope s_Fair_leave) s.heap.objs.size (He.fAd K ("Fair", some "leave")) (.ref (He.codeOf K ("Fair", some "leave"))))) → sp vs H Q E →
      ∃ t, PSs (cxOf CX P w K mg base ["self", "asker", "before", "part", "one"] "Fair.leave" (defScope s_Fair_leave) (He.fAd K ("Fair", some "leave")) (.ref (He.codeOf K ("Fair", some "leave"))) A outer s H E) (defBody s_Fair_leave) t ∧ t { nx := fun _ H' => Q .non H', rt := Q } (start ["self", "asker", "before", "part", "one"] vs) H) : Does P w K mg base CX (k + 1) ("Fair", some "leave") ["self", "asker"] sp := by
  obtain ⟨fd, F⟩ := t.f_Fair_leave
  exact does_of F sc_Fair_leave (F.bindsN fun _ _ _ _ _ _ us hl => match us, hl with | [_, _], _ => rfl) len hbody
theorem TX.do_Fair_wish (len : ∀ vs H Q E, sp vs H Q E → vs.length = 3) (hbody : ∀ (A : Around) (outer : List Env) (s : Shared) (H : Hp) (vs : List V) (Q : VK) (E : XK), Room k (A.deeper (envOfC "Fair.wish" (defScope s_Fair_wish) s.heap.objs.size (He.fAd K ("Fair", some "wish")) (.ref (He.codeOf K ("Fair", some "wish"))))) → sp vs H Q E →
      ∃ t, PSs (cxOf CX P w K mg base ["self", "asker", "rooms", "count", "part", "fresh", "before", "old", "one"] "Fair.wish" (defScope s_Fair_wish) (He.fAd K ("Fair", some "wish")) (.ref (He.codeOf K ("Fair", some "wish"))) A outer s H E) (defBody s_Fair_wish) t ∧ t { nx := fun _ H' => Q .non H', rt := Q } (start ["self", "asker", "rooms", "count", "part", "fresh", "before", "old", "one"] vs) H) : Does P w K mg base CX (k + 1) ("Fair", some "wish") ["self", "asker", "rooms"] sp := by
  obtain ⟨fd, F⟩ := t.f_Fair_wish
  exact does_of F sc_Fair_wish (F.bindsN fun _ _ _ _ _ _ us hl => match us, hl with | [_, _, _], _ => rfl) len hbody
theorem TX.do_Fair_open_room (len : ∀ vs H Q E, sp vs H Q E → vs.length = 4) (hbody : ∀ (A : Around) (outer : List Env) (s : Shared) (H : Hp) (vs : List V) (Q : VK) (E : XK), Room k (A.deeper (envOfC "Fair.open_room" (defScope s_Fair_open_room) s.heap.objs.size (He.fAd K ("Fair", some "open_room")) (.ref (He.codeOf K ("Fair", some "open_room"))))) → sp vs H Q E →
      ∃ t, PSs (cxOf CX P w K mg base ["self", "room", "askers", "count", "before"] "Fair.open_room" (defScope s_Fair_open_room) (He.fAd K ("Fair", some "open_room")) (.ref (He.codeOf K ("Fair", some "open_room"))) A outer s H E) (defBody s_Fair_open_room) t ∧ t { nx := fun _ H' => Q .non H', rt := Q } (start ["self", "room", "askers", "count", "before"] vs) H) : Does P w K mg base CX (k + 1) ("Fair", some "open_room") ["self", "room", "askers", "count"] sp := by
  obtain ⟨fd, F⟩ := t.f_Fair_open_room
  exact does_of F sc_Fair_open_room (F.bindsN fun _ _ _ _ _ _ us hl => match us, hl with | [_, _, _, _], _ => rfl) len hbody
theorem TX.do_Fair_set_room (len : ∀ vs H Q E, sp vs H Q E → vs.length = 4) (hbody : ∀ (A : Around) (outer : List Env) (s : Shared) (H : Hp) (vs : List V) (Q : VK) (E : XK), Room k (A.deeper (envOfC "Fair.set_room" (defScope s_Fair_set_room) s.heap.objs.size (He.fAd K ("Fair", some "set_room")) (.ref (He.codeOf K ("Fair", some "set_room"))))) → sp vs H Q E →
      ∃ t, PSs (cxOf CX P w K mg base ["self", "room", "askers", "count"] "Fair.set_room" (defScope s_Fair_set_room) (He.fAd K ("Fair", some "set_room")) (.ref (He.codeOf K ("Fair", some "set_room"))) A outer s H E) (defBody s_Fair_set_room) t ∧ t { nx := fun _ H' => Q .non H', rt := Q } (start ["self", "room", "askers", "count"] vs) H) : Does P w K mg base CX (k + 1) ("Fair", some "set_room") ["self", "room", "askers", "count"] sp := by
  obtain ⟨fd, F⟩ := t.f_Fair_set_room
  exact does_of F sc_Fair_set_room (F.bindsN fun _ _ _ _ _ _ us hl => match us, hl with | [_, _, _, _], _ => rfl) len hbody
theorem TX.do_Fair_shut_room (len : ∀ vs H Q E, sp vs H Q E → vs.length = 2) (hbody : ∀ (A : Around) (outer : List Env) (s : Shared) (H : Hp) (vs : List V) (Q : VK) (E : XK), Room k (A.deeper (envOfC "Fair.shut_room" (defScope s_Fair_shut_room) s.heap.objs.size (He.fAd K ("Fair", some "shut_room")) (.ref (He.codeOf K ("Fair", some "shut_room"))))) → sp vs H Q E →
      ∃ t, PSs (cxOf CX P w K mg base ["self", "room", "before", "part"] "Fair.shut_room" (defScope s_Fair_shut_room) (He.fAd K ("Fair", some "shut_room")) (.ref (He.codeOf K ("Fair", some "shut_room"))) A outer s H E) (defBody s_Fair_shut_room) t ∧ t { nx := fun _ H' => Q .non H', rt := Q } (start ["self", "room", "before", "part"] vs) H) : Does P w K mg base CX (k + 1) ("Fair", some "shut_room") ["self", "room"] sp := by
  obtain ⟨fd, F⟩ := t.f_Fair_shut_room
  exact does_of F sc_Fair_shut_room (F.bindsN fun _ _ _ _ _ _ us hl => match us, hl with | [_, _], _ => rfl) len hbody
theorem TX.do_Fair_change_room (len : ∀ vs H Q E, sp vs H Q E → vs.length = 4) (hbody : ∀ (A : Around) (outer : List Env) (s : Shared) (H : Hp) (vs : List V) (Q : VK) (E : XK), Room k (A.deeper (envOfC "Fair.change_room" (defScope s_Fair_change_room) s.heap.objs.size (He.fAd K ("Fair", some "change_room")) (.ref (He.codeOf K ("Fair", some "change_room"))))) → sp vs H Q E →
      ∃ t, PSs (cxOf CX P w K mg base ["self", "room", "askers", "count", "part", "fresh", "before", "one"] "Fair.change_room" (defScope s_Fair_change_room) (He.fAd K ("Fair", some "change_room")) (.ref (He.codeOf K ("Fair", some "change_room"))) A outer s H E) (defBody s_Fair_change_room) t ∧ t { nx := fun _ H' => Q .non H', rt := Q } (start ["self", "room", "askers", "count", "part", "fresh", "before", "one"] vs) H) : Does P w K mg base CX (k + 1) ("Fair", some "change_room") ["self", "room", "askers", "count"] sp := by
  obtain ⟨fd, F⟩ := t.f_Fair_change_room
  exact does_of F sc_Fair_change_room (F.bindsN fun _ _ _ _ _ _ us hl => match us, hl with | [_, _, _, _], _ => rfl) len hbody
theorem TX.do_Fair_names (len : ∀ vs H Q E, sp vs H Q E → vs.length = 1) (hbody : ∀ (A : Around) (outer : List Env) (s : Shared) (H : Hp) (vs : List V) (Q : VK) (E : XK), Room k (A.deeper (envOfC "Fair.names" (defScope s_Fair_names) s.heap.objs.size (He.fAd K ("Fair", some "names")) (.ref (He.codeOf K ("Fair", some "names"))))) → sp vs H Q E →
      ∃ t, PSs (cxOf CX P w K mg base ["self"] "Fair.names" (defScope s_Fair_names) (He.fAd K ("Fair", some "names")) (.ref (He.codeOf K ("Fair", some "names"))) A outer s H E) (defBody s_Fair_names) t ∧ t { nx := fun _ H' => Q .non H', rt := Q } (start ["self"] vs) H) : Does P w K mg base CX (k + 1) ("Fair", some "names") ["self"] sp := by
  obtain ⟨fd, F⟩ := t.f_Fair_names
  exact does_of F sc_Fair_names (F.bindsN fun _ _ _ _ _ _ us hl => match us, hl with | [_], _ => rfl) len hbody
theorem TX.do_Fair_as_market (len : ∀ vs H Q E, sp vs H Q E → vs.length = 1) (hbody : ∀ (A : Around) (outer : List Env) (s : Shared) (H : Hp) (vs : List V) (Q : VK) (E : XK), Room k (A.deeper (envOfC "Fair.as_market" (defScope s_Fair_as_market) s.heap.objs.size (He.fAd K ("Fair", some "as_market")) (.ref (He.codeOf K ("Fair", some "as_market"))))) → sp vs H Q E →
      ∃ t, PSs (cxOf CX P w K mg base ["self", "lists", "orders", "askers", "rooms", "asker", "room"] "Fair.as_market" (defScope s_Fair_as_market) (He.fAd K ("Fair", some "as_market")) (.ref (He.codeOf K ("Fair", some "as_market"))) A outer s H E) (defBody s_Fair_as_market) t ∧ t { nx := fun _ H' => Q .non H', rt := Q } (start ["self", "lists", "orders", "askers", "rooms", "asker", "room"] vs) H) : Does P w K mg base CX (k + 1) ("Fair", some "as_market") ["self"] sp := by
  obtain ⟨fd, F⟩ := t.f_Fair_as_market
  exact does_of F sc_Fair_as_market (F.bindsN fun _ _ _ _ _ _ us hl => match us, hl with | [_], _ => rfl) len hbody
theorem TX.do_Fair_by_numbers (len : ∀ vs H Q E, sp vs H Q E → vs.length = 1) (hbody : ∀ (A : Around) (outer : List Env) (s : Shared) (H : Hp) (vs : List V) (Q : VK) (E : XK), Room k (A.deeper (envOfC "Fair.by_numbers" (defScope s_Fair_by_numbers) s.heap.objs.size (He.fAd K ("Fair", some "by_numbers")) (.ref (He.codeOf K ("Fair", some "by_numbers"))))) → sp vs H Q E →
      ∃ t, PSs (cxOf CX P w K mg base ["self", "askers", "rooms", "asker"] "Fair.by_numbers" (defScope s_Fair_by_numbers) (He.fAd K ("Fair", some "by_numbers")) (.ref (He.codeOf K ("Fair", some "by_numbers"))) A outer s H E) (defBody s_Fair_by_numbers) t ∧ t { nx := fun _ H' => Q .non H', rt := Q } (start ["self", "askers", "rooms", "asker"] vs) H) : Does P w K mg base CX (k + 1) ("Fair", some "by_numbers") ["self"] sp := by
  obtain ⟨fd, F⟩ := t.f_Fair_by_numbers
  exact does_of F sc_Fair_by_numbers (F.bindsN fun _ _ _ _ _ _ us hl => match us, hl with | [_], _ => rfl) len hbody
theorem TX.do_Asking_init (len : ∀ vs H Q E, sp vs H Q E → vs.length = 2) (hbody : ∀ (A : Around) (outer : List Env) (s : Shared) (H : Hp) (vs : List V) (Q : VK) (E : XK), Room k (A.deeper (envOfC "Asking.__init__" (defScope s_Asking_init) s.heap.objs.size (He.fAd K ("Asking", some "__init__")) (.ref (He.codeOf K ("Asking", some "__init__"))))) → sp vs H Q E →
      ∃ t, PSs (cxOf CX P w K mg base ["self", "market"] "Asking.__init__" (defScope s_Asking_init) (He.fAd K ("Asking", some "__init__")) (.ref (He.codeOf K ("Asking", some "__init__"))) A outer s H E) (defBody s_Asking_init) t ∧ t { nx := fun _ H' => Q .non H', rt := Q } (start ["self", "market"] vs) H) : Does P w K mg base CX (k + 1) ("Asking", some "__init__") ["self", "market"] sp := by
  obtain ⟨fd, F⟩ := t.f_Asking_init
  exact does_of F sc_Asking_init (F.bindsN fun _ _ _ _ _ _ us hl => match us, hl with | [_, _], _ => rfl) len hbody
theorem TX.do_Asking_wants (len : ∀ vs H Q E, sp vs H Q E → vs.length = 2) (hbody : ∀ (A : Around) (outer : List Env) (s : Shared) (H : Hp) (vs : List V) (Q : VK) (E : XK), Room k (A.deeper (envOfC "Asking.wants" (defScope s_Asking_wants) s.heap.objs.size (He.fAd K ("Asking", some "wants")) (.ref (He.codeOf K ("Asking", some "wants"))))) → sp vs H Q E →
      ∃ t, PSs (cxOf CX P w K mg base ["self", "asker"] "Asking.wants" (defScope s_Asking_wants) (He.fAd K ("Asking", some "wants")) (.ref (He.codeOf K ("Asking", some "wants"))) A outer s H E) (defBody s_Asking_wants) t ∧ t { nx := fun _ H' => Q .non H', rt := Q } (start ["self", "asker"] vs) H) : Does P w K mg base CX (k + 1) ("Asking", some "wants") ["self", "asker"] sp := by
  obtain ⟨fd, F⟩ := t.f_Asking_wants
  exact does_of F sc_Asking_wants (F.bindsN fun _ _ _ _ _ _ us hl => match us, hl with | [_, _], _ => rfl) len hbody
theorem TX.do_Asking_ask (len : ∀ vs H Q E, sp vs H Q E → vs.length = 2) (hbody : ∀ (A : Around) (outer : List Env) (s : Shared) (H : Hp) (vs : List V) (Q : VK) (E : XK), Room k (A.deeper (envOfC "Asking.ask" (defScope s_Asking_ask) s.heap.objs.size (He.fAd K ("Asking", some "ask")) (.ref (He.codeOf K ("Asking", some "ask"))))) → sp vs H Q E →
      ∃ t, PSs (cxOf CX P w K mg base ["self", "asker", "room", "inside", "refused", "wish", "count"] "Asking.ask" (defScope s_Asking_ask) (He.fAd K ("Asking", some "ask")) (.ref (He.codeOf K ("Asking", some "ask"))) A outer s H E) (defBody s_Asking_ask) t ∧ t { nx := fun _ H' => Q .non H', rt := Q } (start ["self", "asker", "room", "inside", "refused", "wish", "count"] vs) H) : Does P w K mg base CX (k + 1) ("Asking", some "ask") ["self", "asker"] sp := by
  obtain ⟨fd, F⟩ := t.f_Asking_ask
  exact does_of F sc_Asking_ask (F.bindsN fun _ _ _ _ _ _ us hl => match us, hl with | [_, _], _ => rfl) len hbody
theorem TX.do_Asking_go_on (len : ∀ vs H Q E, sp vs H Q E → vs.length = 1) (hbody : ∀ (A : Around) (outer : List Env) (s : Shared) (H : Hp) (vs : List V) (Q : VK) (E : XK), Room k (A.deeper (envOfC "Asking.go_on" (defScope s_Asking_go_on) s.heap.objs.size (He.fAd K ("Asking", some "go_on")) (.ref (He.codeOf K ("Asking", some "go_on"))))) → sp vs H Q E →
      ∃ t, PSs (cxOf CX P w K mg base ["self", "waiting", "asker"] "Asking.go_on" (defScope s_Asking_go_on) (He.fAd K ("Asking", some "go_on")) (.ref (He.codeOf K ("Asking", some "go_on"))) A outer s H E) (defBody s_Asking_go_on) t ∧ t { nx := fun _ H' => Q .non H', rt := Q } (start ["self", "waiting", "asker"] vs) H) : Does P w K mg base CX (k + 1) ("Asking", some "go_on") ["self"] sp := by
  obtain ⟨fd, F⟩ := t.f_Asking_go_on
  exact does_of F sc_Asking_go_on (F.bindsN fun _ _ _ _ _ _ us hl => match us, hl with | [_], _ => rfl) len hbody
theorem TX.do_trace (len : ∀ vs H Q E, sp vs H Q E → vs.length = 1) (hbody : ∀ (A : Around) (outer : List Env) (s : Shared) (H : Hp) (vs : List V) (Q : VK) (E : XK), Room k (A.deeper (envOfC "trace" (defScope s_trace) s.heap.objs.size (He.fAd K ("trace", none)) (.ref (He.codeOf K ("trace", none))))) → sp vs H Q E →
      ∃ t, PSs (cxOf CX P w K mg base ["market", "asking"] "trace" (defScope s_trace) (He.fAd K ("trace", none)) (.ref (He.codeOf K ("trace", none))) A outer s H E) (defBody s_trace) t ∧ t { nx := fun _ H' => Q .non H', rt := Q } (start ["market", "asking"] vs) H) : Does P w K mg base CX (k + 1) ("trace", none) ["market"] sp := by
  obtain ⟨fd, F⟩ := t.f_trace
  exact does_of F sc_trace (F.bindsN fun _ _ _ _ _ _ us hl => match us, hl with | [_], _ => rfl) len hbody
theorem TX.do_stable_paper (len : ∀ vs H Q E, sp vs H Q E → vs.length = 2) (hbody : ∀ (A : Around) (outer : List Env) (s : Shared) (H : Hp) (vs : List V) (Q : VK) (E : XK), Room k (A.deeper (envOfC "stable_paper" (defScope s_stable_paper) s.heap.objs.size (He.fAd K ("stable_paper", none)) (.ref (He.codeOf K ("stable_paper", none))))) → sp vs H Q E →
      ∃ t, PSs (cxOf CX P w K mg base ["market", "match", "found", "asker", "room"] "stable_paper" (defScope s_stable_paper) (He.fAd K ("stable_paper", none)) (.ref (He.codeOf K ("stable_paper", none))) A outer s H E) (defBody s_stable_paper) t ∧ t { nx := fun _ H' => Q .non H', rt := Q } (start ["market", "match", "found", "asker", "room"] vs) H) : Does P w K mg base CX (k + 1) ("stable_paper", none) ["market", "match"] sp := by
  obtain ⟨fd, F⟩ := t.f_stable_paper
  exact does_of F sc_stable_paper (F.bindsN fun _ _ _ _ _ _ us hl => match us, hl with | [_, _], _ => rfl) len hbody
theorem TX.do_why_not (len : ∀ vs H Q E, sp vs H Q E → vs.length = 4) (hbody : ∀ (A : Around) (outer : List Env) (s : Shared) (H : Hp) (vs : List V) (Q : VK) (E : XK), Room k (A.deeper (envOfC "why_not" (defScope s_why_not) s.heap.objs.size (He.fAd K ("why_not", none)) (.ref (He.codeOf K ("why_not", none))))) → sp vs H Q E →
      ∃ t, PSs (cxOf CX P w K mg base ["market", "match", "asker", "room", "inside", "wish", "other"] "why_not" (defScope s_why_not) (He.fAd K ("why_not", none)) (.ref (He.codeOf K ("why_not", none))) A outer s H E) (defBody s_why_not) t ∧ t { nx := fun _ H' => Q .non H', rt := Q } (start ["market", "match", "asker", "room", "inside", "wish", "other"] vs) H) : Does P w K mg base CX (k + 1) ("why_not", none) ["market", "match", "asker", "room"] sp := by
  obtain ⟨fd, F⟩ := t.f_why_not
  exact does_of F sc_why_not (F.bindsN fun _ _ _ _ _ _ us hl => match us, hl with | [_, _, _, _], _ => rfl) len hbody
theorem TX.do_check_stable (len : ∀ vs H Q E, sp vs H Q E → vs.length = 3) (hbody : ∀ (A : Around) (outer : List Env) (s : Shared) (H : Hp) (vs : List V) (Q : VK) (E : XK), Room k (A.deeper (envOfC "check_stable" (defScope s_check_stable) s.heap.objs.size (He.fAd K ("check_stable", none)) (.ref (He.codeOf K ("check_stable", none))))) → sp vs H Q E →
      ∃ t, PSs (cxOf CX P w K mg base ["market", "match", "paper", "due", "asker", "room", "word", "pair", "inside", "wish", "good", "other"] "check_stable" (defScope s_check_stable) (He.fAd K ("check_stable", none)) (.ref (He.codeOf K ("check_stable", none))) A outer s H E) (defBody s_check_stable) t ∧ t { nx := fun _ H' => Q .non H', rt := Q } (start ["market", "match", "paper", "due", "asker", "room", "word", "pair", "inside", "wish", "good", "other"] vs) H) : Does P w K mg base CX (k + 1) ("check_stable", none) ["market", "match", "paper"] sp := by
  obtain ⟨fd, F⟩ := t.f_check_stable
  exact does_of F sc_check_stable (F.bindsN fun _ _ _ _ _ _ us hl => match us, hl with | [_, _, _], _ => rfl) len hbody
theorem TX.do_best_paper (len : ∀ vs H Q E, sp vs H Q E → vs.length = 1) (hbody : ∀ (A : Around) (outer : List Env) (s : Shared) (H : Hp) (vs : List V) (Q : VK) (E : XK), Room k (A.deeper (envOfC "best_paper" (defScope s_best_paper) s.heap.objs.size (He.fAd K ("best_paper", none)) (.ref (He.codeOf K ("best_paper", none))))) → sp vs H Q E →
      ∃ t, PSs (cxOf CX P w K mg base ["market", "found", "held", "asker", "room", "refused"] "best_paper" (defScope s_best_paper) (He.fAd K ("best_paper", none)) (.ref (He.codeOf K ("best_paper", none))) A outer s H E) (defBody s_best_paper) t ∧ t { nx := fun _ H' => Q .non H', rt := Q } (start ["market", "found", "held", "asker", "room", "refused"] vs) H) : Does P w K mg base CX (k + 1) ("best_paper", none) ["market"] sp := by
  obtain ⟨fd, F⟩ := t.f_best_paper
  exact does_of F sc_best_paper (F.bindsN fun _ _ _ _ _ _ us hl => match us, hl with | [_], _ => rfl) len hbody
theorem TX.do_check_best (len : ∀ vs H Q E, sp vs H Q E → vs.length = 3) (hbody : ∀ (A : Around) (outer : List Env) (s : Shared) (H : Hp) (vs : List V) (Q : VK) (E : XK), Room k (A.deeper (envOfC "check_best" (defScope s_check_best) s.heap.objs.size (He.fAd K ("check_best", none)) (.ref (He.codeOf K ("check_best", none))))) → sp vs H Q E →
      ∃ t, PSs (cxOf CX P w K mg base ["market", "match", "paper", "gone", "asker", "room", "holders", "wish", "one", "holder"] "check_best" (defScope s_check_best) (He.fAd K ("check_best", none)) (.ref (He.codeOf K ("check_best", none))) A outer s H E) (defBody s_check_best) t ∧ t { nx := fun _ H' => Q .non H', rt := Q } (start ["market", "match", "paper", "gone", "asker", "room", "holders", "wish", "one", "holder"] vs) H) : Does P w K mg base CX (k + 1) ("check_best", none) ["market", "match", "paper"] sp := by
  obtain ⟨fd, F⟩ := t.f_check_best
  exact does_of F sc_check_best (F.bindsN fun _ _ _ _ _ _ us hl => match us, hl with | [_, _, _], _ => rfl) len hbody
theorem TX.do_holds_by_right (len : ∀ vs H Q E, sp vs H Q E → vs.length = 5) (hbody : ∀ (A : Around) (outer : List Env) (s : Shared) (H : Hp) (vs : List V) (Q : VK) (E : XK), Room k (A.deeper (envOfC "holds_by_right" (defScope s_holds_by_right) s.heap.objs.size (He.fAd K ("holds_by_right", none)) (.ref (He.codeOf K ("holds_by_right", none))))) → sp vs H Q E →
      ∃ t, PSs (cxOf CX P w K mg base ["market", "gone", "holder", "room", "asker", "other"] "holds_by_right" (defScope s_holds_by_right) (He.fAd K ("holds_by_right", none)) (.ref (He.codeOf K ("holds_by_right", none))) A outer s H E) (defBody s_holds_by_right) t ∧ t { nx := fun _ H' => Q .non H', rt := Q } (start ["market", "gone", "holder", "room", "asker", "other"] vs) H) : Does P w K mg base CX (k + 1) ("holds_by_right", none) ["market", "gone", "holder", "room", "asker"] sp := by
  obtain ⟨fd, F⟩ := t.f_holds_by_right
  exact does_of F sc_holds_by_right (F.bindsN fun _ _ _ _ _ _ us hl => match us, hl with | [_, _, _, _, _], _ => rfl) len hbody
theorem TX.do_both_papers (len : ∀ vs H Q E, sp vs H Q E → vs.length = 2) (hbody : ∀ (A : Around) (outer : List Env) (s : Shared) (H : Hp) (vs : List V) (Q : VK) (E : XK), Room k (A.deeper (envOfC "both_papers" (defScope s_both_papers) s.heap.objs.size (He.fAd K ("both_papers", none)) (.ref (He.codeOf K ("both_papers", none))))) → sp vs H Q E →
      ∃ t, PSs (cxOf CX P w K mg base ["market", "match", "paper", "found"] "both_papers" (defScope s_both_papers) (He.fAd K ("both_papers", none)) (.ref (He.codeOf K ("both_papers", none))) A outer s H E) (defBody s_both_papers) t ∧ t { nx := fun _ H' => Q .non H', rt := Q } (start ["market", "match", "paper", "found"] vs) H) : Does P w K mg base CX (k + 1) ("both_papers", none) ["market", "match"] sp := by
  obtain ⟨fd, F⟩ := t.f_both_papers
  exact does_of F sc_both_papers (F.bindsN fun _ _ _ _ _ _ us hl => match us, hl with | [_, _], _ => rfl) len hbody
theorem TX.do_check_both (len : ∀ vs H Q E, sp vs H Q E → vs.length = 3) (hbody : ∀ (A : Around) (outer : List Env) (s : Shared) (H : Hp) (vs : List V) (Q : VK) (E : XK), Room k (A.deeper (envOfC "check_both" (defScope s_check_both) s.heap.objs.size (He.fAd K ("check_both", none)) (.ref (He.codeOf K ("check_both", none))))) → sp vs H Q E →
      ∃ t, PSs (cxOf CX P w K mg base ["market", "match", "papers"] "check_both" (defScope s_check_both) (He.fAd K ("check_both", none)) (.ref (He.codeOf K ("check_both", none))) A outer s H E) (defBody s_check_both) t ∧ t { nx := fun _ H' => Q .non H', rt := Q } (start ["market", "match", "papers"] vs) H) : Does P w K mg base CX (k + 1) ("check_both", none) ["market", "match", "papers"] sp := by
  obtain ⟨fd, F⟩ := t.f_check_both
  exact does_of F sc_check_both (F.bindsN fun _ _ _ _ _ _ us hl => match us, hl with | [_, _, _], _ => rfl) len hbody
theorem TX.do_law_dice (len : ∀ vs H Q E, sp vs H Q E → vs.length = 1) (hbody : ∀ (A : Around) (outer : List Env) (s : Shared) (H : Hp) (vs : List V) (Q : VK) (E : XK), Room k (A.deeper (envOfC "_law_dice" (defScope s_law_dice) s.heap.objs.size (He.fAd K ("_law_dice", none)) (.ref (He.codeOf K ("_law_dice", none))))) → sp vs H Q E →
      ∃ t, PSs (cxOf CX P w K mg base ["_law_cell"] "_law_dice" (defScope s_law_dice) (He.fAd K ("_law_dice", none)) (.ref (He.codeOf K ("_law_dice", none))) A outer s H E) (defBody s_law_dice) t ∧ t { nx := fun _ H' => Q .non H', rt := Q } (start ["_law_cell"] vs) H) : Does P w K mg base CX (k + 1) ("_law_dice", none) ["_law_cell"] sp := by
  obtain ⟨fd, F⟩ := t.f_law_dice
  exact does_of F sc_law_dice (F.bindsN fun _ _ _ _ _ _ us hl => match us, hl with | [_], _ => rfl) len hbody
theorem TX.do_law_roll (len : ∀ vs H Q E, sp vs H Q E → vs.length = 2) (hbody : ∀ (A : Around) (outer : List Env) (s : Shared) (H : Hp) (vs : List V) (Q : VK) (E : XK), Room k (A.deeper (envOfC "_law_roll" (defScope s_law_roll) s.heap.objs.size (He.fAd K ("_law_roll", none)) (.ref (He.codeOf K ("_law_roll", none))))) → sp vs H Q E →
      ∃ t, PSs (cxOf CX P w K mg base ["_law_dice_here", "_law_many", "_law_found"] "_law_roll" (defScope s_law_roll) (He.fAd K ("_law_roll", none)) (.ref (He.codeOf K ("_law_roll", none))) A outer s H E) (defBody s_law_roll) t ∧ t { nx := fun _ H' => Q .non H', rt := Q } (start ["_law_dice_here", "_law_many", "_law_found"] vs) H) : Does P w K mg base CX (k + 1) ("_law_roll", none) ["_law_dice_here", "_law_many"] sp := by
  obtain ⟨fd, F⟩ := t.f_law_roll
  exact does_of F sc_law_roll (F.bindsN fun _ _ _ _ _ _ us hl => match us, hl with | [_, _], _ => rfl) len hbody
theorem TX.do_law_rounds (len : ∀ vs H Q E, sp vs H Q E → vs.length = 2) (hbody : ∀ (A : Around) (outer : List Env) (s : Shared) (H : Hp) (vs : List V) (Q : VK) (E : XK), Room k (A.deeper (envOfC "_law_rounds" (defScope s_law_rounds) s.heap.objs.size (He.fAd K ("_law_rounds", none)) (.ref (He.codeOf K ("_law_rounds", none))))) → sp vs H Q E →
      ∃ t, PSs (cxOf CX P w K mg base ["_law_script", "_law_most_now", "_law_cells", "_law_cell"] "_law_rounds" (defScope s_law_rounds) (He.fAd K ("_law_rounds", none)) (.ref (He.codeOf K ("_law_rounds", none))) A outer s H E) (defBody s_law_rounds) t ∧ t { nx := fun _ H' => Q .non H', rt := Q } (start ["_law_script", "_law_most_now", "_law_cells", "_law_cell"] vs) H) : Does P w K mg base CX (k + 1) ("_law_rounds", none) ["_law_script", "_law_most_now"] sp := by
  obtain ⟨fd, F⟩ := t.f_law_rounds
  exact does_of F sc_law_rounds (F.bindsN fun _ _ _ _ _ _ us hl => match us, hl with | [_, _], _ => rfl) len hbody
theorem TX.do_law_told (len : ∀ vs H Q E, sp vs H Q E → vs.length = 1) (hbody : ∀ (A : Around) (outer : List Env) (s : Shared) (H : Hp) (vs : List V) (Q : VK) (E : XK), Room k (A.deeper (envOfC "_law_told" (defScope s_law_told) s.heap.objs.size (He.fAd K ("_law_told", none)) (.ref (He.codeOf K ("_law_told", none))))) → sp vs H Q E →
      ∃ t, PSs (cxOf CX P w K mg base ["_law_what"] "_law_told" (defScope s_law_told) (He.fAd K ("_law_told", none)) (.ref (He.codeOf K ("_law_told", none))) A outer s H E) (defBody s_law_told) t ∧ t { nx := fun _ H' => Q .non H', rt := Q } (start ["_law_what"] vs) H) : Does P w K mg base CX (k + 1) ("_law_told", none) ["_law_what"] sp := by
  obtain ⟨fd, F⟩ := t.f_law_told
  exact does_of F sc_law_told (F.bindsN fun _ _ _ _ _ _ us hl => match us, hl with | [_], _ => rfl) len hbody
theorem TX.do_law_matches (len : ∀ vs H Q E, sp vs H Q E → vs.length = 3) (hbody : ∀ (A : Around) (outer : List Env) (s : Shared) (H : Hp) (vs : List V) (Q : VK) (E : XK), Room k (A.deeper (envOfC "_law_matches" (defScope s_law_matches) s.heap.objs.size (He.fAd K ("_law_matches", none)) (.ref (He.codeOf K ("_law_matches", none))))) → sp vs H Q E →
      ∃ t, PSs (cxOf CX P w K mg base ["_law_lists", "_law_orders", "_law_seats", "_law_found", "_law_k", "_law_rooms", "_law_fresh", "_law_row", "_law_room"] "_law_matches" (defScope s_law_matches) (He.fAd K ("_law_matches", none)) (.ref (He.codeOf K ("_law_matches", none))) A outer s H E) (defBody s_law_matches) t ∧ t { nx := fun _ H' => Q .non H', rt := Q } (start ["_law_lists", "_law_orders", "_law_seats", "_law_found", "_law_k", "_law_rooms", "_law_fresh", "_law_row", "_law_room"] vs) H) : Does P w K mg base CX (k + 1) ("_law_matches", none) ["_law_lists", "_law_orders", "_law_seats"] sp := by
  obtain ⟨fd, F⟩ := t.f_law_matches
  exact does_of F sc_law_matches (F.bindsN fun _ _ _ _ _ _ us hl => match us, hl with | [_, _, _], _ => rfl) len hbody
theorem TX.do_law_place (len : ∀ vs H Q E, sp vs H Q E → vs.length = 2) (hbody : ∀ (A : Around) (outer : List Env) (s : Shared) (H : Hp) (vs : List V) (Q : VK) (E : XK), Room k (A.deeper (envOfC "_law_place" (defScope s_law_place) s.heap.objs.size (He.fAd K ("_law_place", none)) (.ref (He.codeOf K ("_law_place", none))))) → sp vs H Q E →
      ∃ t, PSs (cxOf CX P w K mg base ["_law_order", "_law_one"] "_law_place" (defScope s_law_place) (He.fAd K ("_law_place", none)) (.ref (He.codeOf K ("_law_place", none))) A outer s H E) (defBody s_law_place) t ∧ t { nx := fun _ H' => Q .non H', rt := Q } (start ["_law_order", "_law_one"] vs) H) : Does P w K mg base CX (k + 1) ("_law_place", none) ["_law_order", "_law_one"] sp := by
  obtain ⟨fd, F⟩ := t.f_law_place
  exact does_of F sc_law_place (F.bindsN fun _ _ _ _ _ _ us hl => match us, hl with | [_, _], _ => rfl) len hbody
theorem TX.do_law_blocks (len : ∀ vs H Q E, sp vs H Q E → vs.length = 4) (hbody : ∀ (A : Around) (outer : List Env) (s : Shared) (H : Hp) (vs : List V) (Q : VK) (E : XK), Room k (A.deeper (envOfC "_law_blocks" (defScope s_law_blocks) s.heap.objs.size (He.fAd K ("_law_blocks", none)) (.ref (He.codeOf K ("_law_blocks", none))))) → sp vs H Q E →
      ∃ t, PSs (cxOf CX P w K mg base ["_law_lists", "_law_orders", "_law_seats", "_law_match", "_law_found", "_law_k", "_law_room", "_law_inside", "_law_worse", "_law_j"] "_law_blocks" (defScope s_law_blocks) (He.fAd K ("_law_blocks", none)) (.ref (He.codeOf K ("_law_blocks", none))) A outer s H E) (defBody s_law_blocks) t ∧ t { nx := fun _ H' => Q .non H', rt := Q } (start ["_law_lists", "_law_orders", "_law_seats", "_law_match", "_law_found", "_law_k", "_law_room", "_law_inside", "_law_worse", "_law_j"] vs) H) : Does P w K mg base CX (k + 1) ("_law_blocks", none) ["_law_lists", "_law_orders", "_law_seats", "_law_match"] sp := by
  obtain ⟨fd, F⟩ := t.f_law_blocks
  exact does_of F sc_law_blocks (F.bindsN fun _ _ _ _ _ _ us hl => match us, hl with | [_, _, _, _], _ => rfl) len hbody
theorem TX.do_law_stable (len : ∀ vs H Q E, sp vs H Q E → vs.length = 3) (hbody : ∀ (A : Around) (outer : List Env) (s : Shared) (H : Hp) (vs : List V) (Q : VK) (E : XK), Room k (A.deeper (envOfC "_law_stable" (defScope s_law_stable) s.heap.objs.size (He.fAd K ("_law_stable", none)) (.ref (He.codeOf K ("_law_stable", none))))) → sp vs H Q E →
      ∃ t, PSs (cxOf CX P w K mg base ["_law_lists", "_law_orders", "_law_seats", "_law_match"] "_law_stable" (defScope s_law_stable) (He.fAd K ("_law_stable", none)) (.ref (He.codeOf K ("_law_stable", none))) A outer s H E) (defBody s_law_stable) t ∧ t { nx := fun _ H' => Q .non H', rt := Q } (start ["_law_lists", "_law_orders", "_law_seats", "_law_match"] vs) H) : Does P w K mg base CX (k + 1) ("_law_stable", none) ["_law_lists", "_law_orders", "_law_seats"] sp := by
  obtain ⟨fd, F⟩ := t.f_law_stable
  exact does_of F sc_law_stable (F.bindsN fun _ _ _ _ _ _ us hl => match us, hl with | [_, _, _], _ => rfl) len hbody
theorem TX.do_law_best (len : ∀ vs H Q E, sp vs H Q E → vs.length = 2) (hbody : ∀ (A : Around) (outer : List Env) (s : Shared) (H : Hp) (vs : List V) (Q : VK) (E : XK), Room k (A.deeper (envOfC "_law_best" (defScope s_law_best) s.heap.objs.size (He.fAd K ("_law_best", none)) (.ref (He.codeOf K ("_law_best", none))))) → sp vs H Q E →
      ∃ t, PSs (cxOf CX P w K mg base ["_law_lists", "_law_matches_here", "_law_k", "_law_match"] "_law_best" (defScope s_law_best) (He.fAd K ("_law_best", none)) (.ref (He.codeOf K ("_law_best", none))) A outer s H E) (defBody s_law_best) t ∧ t { nx := fun _ H' => Q .non H', rt := Q } (start ["_law_lists", "_law_matches_here", "_law_k", "_law_match"] vs) H) : Does P w K mg base CX (k + 1) ("_law_best", none) ["_law_lists", "_law_matches_here"] sp := by
  obtain ⟨fd, F⟩ := t.f_law_best
  exact does_of F sc_law_best (F.bindsN fun _ _ _ _ _ _ us hl => match us, hl with | [_, _], _ => rfl) len hbody
theorem TX.do_law_words (len : ∀ vs H Q E, sp vs H Q E → vs.length = 2) (hbody : ∀ (A : Around) (outer : List Env) (s : Shared) (H : Hp) (vs : List V) (Q : VK) (E : XK), Room k (A.deeper (envOfC "_law_words" (defScope s_law_words) s.heap.objs.size (He.fAd K ("_law_words", none)) (.ref (He.codeOf K ("_law_words", none))))) → sp vs H Q E →
      ∃ t, PSs (cxOf CX P w K mg base ["_law_dice_here", "_law_words_here", "_law_turn", "_law_left", "_law_found", "_law_one"] "_law_words" (defScope s_law_words) (He.fAd K ("_law_words", none)) (.ref (He.codeOf K ("_law_words", none))) A outer s H E) (defBody s_law_words) t ∧ t { nx := fun _ H' => Q .non H', rt := Q } (start ["_law_dice_here", "_law_words_here", "_law_turn", "_law_left", "_law_found", "_law_one"] vs) H) : Does P w K mg base CX (k + 1) ("_law_words", none) ["_law_dice_here", "_law_words_here"] sp := by
  obtain ⟨fd, F⟩ := t.f_law_words
  exact does_of F sc_law_words (F.bindsN fun _ _ _ _ _ _ us hl => match us, hl with | [_, _], _ => rfl) len hbody
theorem TX.do_law_due (len : ∀ vs H Q E, sp vs H Q E → vs.length = 2) (hbody : ∀ (A : Around) (outer : List Env) (s : Shared) (H : Hp) (vs : List V) (Q : VK) (E : XK), Room k (A.deeper (envOfC "_law_due" (defScope s_law_due) s.heap.objs.size (He.fAd K ("_law_due", none)) (.ref (He.codeOf K ("_law_due", none))))) → sp vs H Q E →
      ∃ t, PSs (cxOf CX P w K mg base ["_law_askers", "_law_rooms", "_law_lists", "_law_orders", "_law_seats", "_law_best_here", "_law_ones", "_law_others", "_law_one", "_law_room", "_law_k"] "_law_due" (defScope s_law_due) (He.fAd K ("_law_due", none)) (.ref (He.codeOf K ("_law_due", none))) A outer s H E) (defBody s_law_due) t ∧ t { nx := fun _ H' => Q .non H', rt := Q } (start ["_law_askers", "_law_rooms", "_law_lists", "_law_orders", "_law_seats", "_law_best_here", "_law_ones", "_law_others", "_law_one", "_law_room", "_law_k"] vs) H) : Does P w K mg base CX (k + 1) ("_law_due", none) ["_law_askers", "_law_rooms"] sp := by
  obtain ⟨fd, F⟩ := t.f_law_due
  exact does_of F sc_law_due (F.bindsN fun _ _ _ _ _ _ us hl => match us, hl with | [_, _], _ => rfl) len hbody
theorem TX.do_law (len : ∀ vs H Q E, sp vs H Q E → vs.length = 1) (hbody : ∀ (A : Around) (outer : List Env) (s : Shared) (H : Hp) (vs : List V) (Q : VK) (E : XK), Room k (A.deeper (envOfC "law" (defScope s_law) s.heap.objs.size (He.fAd K ("law", none)) (.ref (He.codeOf K ("law", none))))) → sp vs H Q E →
      ∃ t, PSs (cxOf CX P w K mg base ["_law_script", "_law_dice_here", "_law_step", "_law_fair", "_law_askers", "_law_rooms", "_law_before", "_law_after", "_law_names", "_law_moved", "_law_sort", "_law_one", "_law_room", "_law_list_of", "_law_order", "_law_count", "_law_due_here", "_law_told_now", "_law_market", "_law_match", "_law_each", "_law_shut"] "law" (defScope s_law) (He.fAd K ("law", none)) (.ref (He.codeOf K ("law", none))) A outer s H E) (defBody s_law) t ∧ t { nx := fun _ H' => Q .non H', rt := Q } (start ["_law_script", "_law_dice_here", "_law_step", "_law_fair", "_law_askers", "_law_rooms", "_law_before", "_law_after", "_law_names", "_law_moved", "_law_sort", "_law_one", "_law_room", "_law_list_of", "_law_order", "_law_count", "_law_due_here", "_law_told_now", "_law_market", "_law_match", "_law_each", "_law_shut"] vs) H) : Does P w K mg base CX (k + 1) ("law", none) ["_law_script"] sp := by
  obtain ⟨fd, F⟩ := t.f_law
  exact does_of F sc_law (F.bindsN fun _ _ _ _ _ _ us hl => match us, hl with | [_], _ => rfl) len hbody
end
end PMT

set_option Elab.async false
set_option linter.all false
set_option maxRecDepth 100000
set_option maxHeartbeats 2000000
/-! HX: heaps: what stays; comprehensions, generator expressions, dicts by lists. -/
namespace PMT
open PySem PySem.Spec PyProof.Rows L2

def Nt (o : Option HO) : Prop := (∀ ps, o ≠ some (.tbl ps)) ∧ ∀ φ, o ≠ some (.ext φ)
theorem nt_none : Nt none := ⟨nofun, nofun⟩
theorem nt_lst {xs} : Nt (some (.lst xs)) := ⟨nofun, nofun⟩
theorem nt_tup {xs} : Nt (some (.tup xs)) := ⟨nofun, nofun⟩
theorem nt_dK {xs} : Nt (some (.dK xs)) := ⟨nofun, nofun⟩
theorem nt_dT {xs} : Nt (some (.dT xs)) := ⟨nofun, nofun⟩
theorem nt_ins {a b c} : Nt (some (.ins a b c)) := ⟨nofun, nofun⟩
theorem nt_own {a} : Nt (some (.own a)) := ⟨nofun, nofun⟩
theorem nt_frz {a b} : Nt (some (.frz a b)) := ⟨nofun, nofun⟩
/-- all but the tables and S stay; the tables are well -/
structure Ch (T : List (Addr × Str)) (S : Addr → Prop) (H H' : Hp) : Prop where
  kp : ∀ a o, H a = some o → (∀ ps, o ≠ .tbl ps) → ¬ S a → H' a = some o
  tb : LamX.Tabs T H'
abbrev No : Addr → Prop := fun _ => False
abbrev Ex (T : List (Addr × Str)) := Ch T No
section
variable {T : List (Addr × Str)} {S S' : Addr → Prop} {H H0 H1 H2 H' : Hp} {a : Addr} {o u : HO} {K : PySem.W.Frag} {xs : List V}
theorem Ch.refl (h : LamX.Tabs T H) : Ch T S H H := ⟨fun _ _ h _ _ => h, h⟩
theorem Ch.trans (h : Ch T S H H1) (h' : Ch T S H1 H2) : Ch T S H H2 := ⟨fun a o e n s => h'.kp a o (h.kp a o e n s) n s, h'.tb⟩
theorem Ch.weak (h : Ch T S H H') (w : ∀ a, S a → S' a) : Ch T S' H H' := ⟨fun a o e n s => h.kp a o e n fun z => s (w a z), h.tb⟩
theorem Ex.weak (h : Ex T H H') : Ch T S H H' := Ch.weak h fun _ z => z.elim
theorem Ch.ext (h : Ch T S H H1) (e : LamX.ExtN H1 H2) (t : LamX.Tabs T H2) : Ch T S H H2 := ⟨fun a o x n s => e a o (h.kp a o x n s) n, t⟩
theorem tabs_upd (h : LamX.Tabs T H) (n : Nt (H a)) : LamX.Tabs T (upd H a o) := fun p hp => by
  obtain ⟨ps, h1, h2, h3⟩ := h p hp
  refine ⟨ps, by rw [upd_ne (fun z => n.1 ps (by rw [← z]; exact h1))]; exact h1, h2, fun pos cv e => ?_⟩
  obtain ⟨c, e1, e2⟩ := h3 pos cv e
  exact ⟨c, e1, by rw [upd_ne (fun z => n.2 _ (by rw [← z]; exact e2))]; exact e2⟩
theorem Ch.new (h : Ch T S H H1) (e : H1 a = none) : Ch T S H (upd H1 a o) := by
  refine ⟨fun b u x n s => ?_, tabs_upd h.tb (by rw [e]; exact nt_none)⟩
  have y := h.kp b u x n s
  rw [upd_ne (ne_of_none y e)]; exact y
/-- no thing of before, the tables aside -/
def New (H : Hp) (a : Addr) : Prop := ∀ o, H a = some o → ∃ ps, o = .tbl ps
theorem New.of (h : H a = none) : New H a := fun o e => by rw [h] at e; cases e
theorem New.ne {b : Addr} (n : New H a) (h : H b = some o) (k : ∀ ps, o ≠ .tbl ps := by exact nofun) : b ≠ a := fun z => by
  subst z
  obtain ⟨ps, e⟩ := n o h
  exact k ps e
theorem Ch.putN (h : Ch T S H H1) (e : H1 a = some u) (nt : Nt (some u)) (hs : New H a ∨ S a) : Ch T S H (upd H1 a o) := by
  refine ⟨fun b v x n s => ?_, tabs_upd h.tb (by rw [e]; exact nt)⟩
  have y := h.kp b v x n s
  rw [upd_ne (fun z => ?_)]
  · exact y
  · subst z
    rcases hs with hs | hs
    · obtain ⟨ps, q⟩ := hs v x
      exact n ps q
    · exact s hs
theorem Ch.put (h : Ch T S H H1) (e : H1 a = some u) (nt : Nt (some u)) (hs : H a = none ∨ S a) : Ch T S H (upd H1 a o) := h.putN e nt (hs.imp New.of id)
/-- a thing that was not there at the beginning -/
theorem Ch.put0 (h : Ch T S H H1) (e : H1 a = some u) (nt : Nt (some u)) (hs : H a = none) : Ch T S H (upd H1 a o) := h.put e nt (.inl hs)
theorem Ch.backN (h : Ch T S H H') (e : New H' a) (s : ¬ S a) : New H a := fun o x => by
  by_cases n : ∀ ps, o ≠ .tbl ps
  · exact e o (h.kp a o x n s)
  · have ⟨ps, hp⟩ := Classical.not_forall.mp n
    exact ⟨ps, Classical.not_not.mp hp⟩
theorem Ex.backN (h : Ex T H H') (e : New H' a) : New H a := Ch.backN h e fun z => z
theorem Ch.base {H0 : Hp} (e : Ex T H0 H) (c : Ch T S H H') (n : ∀ y, S y → New H0 y) : Ex T H0 H' :=
  ⟨fun a o h k _ => c.kp a o (Ch.kp e a o h k fun z => z) k fun z => by obtain ⟨ps, q⟩ := n a z o h; exact k ps q, c.tb⟩
theorem Ch.lock {od : Obj} (hd : H a = some u) (h : Ch T S (upd H a (.frz od u)) H') (e : H' a = some (.frz od u)) : Ch T S H (upd H' a u) := by
  refine ⟨fun b v x n s => ?_, tabs_upd h.tb (by rw [e]; exact nt_frz)⟩
  by_cases z : b = a
  · subst z; rw [upd_same]; rw [hd] at x; exact x
  · rw [upd_ne z]
    exact h.kp b v (by rw [upd_ne z]; exact x) n s
theorem Ch.k (h : Ch T S H H') (e : H a = some o) (s : ¬ S a) (n : ∀ ps, o ≠ .tbl ps := by exact nofun) : H' a = some o := h.kp a o e n s
theorem Ex.k (h : Ex T H H') (e : H a = some o) (n : ∀ ps, o ≠ .tbl ps := by exact nofun) : H' a = some o := Ch.kp h a o e n fun z => z
theorem Ex.sqT (h : Ex T H H') (e : SqT K H a xs) : SqT K H' a xs := by
  rcases e with (e | ⟨o, e⟩) | e
  · exact .inl (.inl (Ex.k h e))
  · exact .inl (.inr ⟨o, Ex.k h e⟩)
  · exact .inr e
theorem Ex.sqL (h : Ex T H H') (e : SqL K H a xs) : SqL K H' a xs := by
  rcases e with (e | ⟨o, e⟩) | e
  · exact .inl (.inl (Ex.k h e))
  · exact .inl (.inr ⟨o, Ex.k h e⟩)
  · exact .inr e
theorem Ex.rd (h : Ex T H H') (e : Rd H a o) (n : ∀ ps, o ≠ .tbl ps := by exact nofun) : Rd H' a o := by
  rcases e with e | ⟨q, e⟩
  · exact .inl (Ex.k h e n)
  · exact .inr ⟨q, Ex.k h e⟩
/-- a tuple is never written -/
def TupAt (H : Hp) (a : Addr) (xs : List V) : Prop := H a = some (.tup xs)
end

theorem bcast {b c : Bool} (F : Bool → Prop) (e : b = c) (h : F c) : F b := by rw [e]; exact h
theorem Ch.sqT1 {T : List (Addr × Str)} {H H' : Hp} {K : PySem.W.Frag} {D a : Addr} {zs xs : List V} (h : Ch T (fun b => b = D) H H') (hD : H D = some (.lst zs)) (e : SqT K H a xs) : SqT K H' a xs := by
  rcases e with (e | ⟨o, e⟩) | e
  · exact .inl (.inl (h.k e (ne_of e hD nofun)))
  · exact .inl (.inr ⟨o, h.k e (ne_of e hD nofun)⟩)
  · exact .inr e
theorem Ch.sqT2 {T : List (Addr × Str)} {H H' : Hp} {K : PySem.W.Frag} {x a C dx : Addr} {fs : List (Str × V)} {xs : List V} (h : Ch T (fun b => b = x) H H') (hx : H x = some (.ins C dx fs)) (e : SqT K H a xs) : SqT K H' a xs := by
  rcases e with (e | ⟨o, e⟩) | e
  · exact .inl (.inl (h.k e (ne_of e hx nofun)))
  · exact .inl (.inr ⟨o, h.k e (ne_of e hx nofun)⟩)
  · exact .inr e
/-! ### pairs of lists -/
theorem Paired.get {α β : Type} {F : α → β → Prop} : ∀ {l₁ : List α} {l₂ : List β}, Paired F l₁ l₂ → ∀ {i : Nat} {b : β}, l₂[i]? = some b → ∃ a, l₁[i]? = some a ∧ F a b
  | _, _, .nil, _, _, e => by simp at e
  | _, _, .cons h _, 0, _, e => by simp at e; subst e; exact ⟨_, rfl, h⟩
  | _, _, .cons _ t, i + 1, b, e => by
    obtain ⟨a, h1, h2⟩ := Paired.get t (i := i) (b := b) (by simpa using e)
    exact ⟨a, by simpa using h1, h2⟩
theorem Paired.getL {α β : Type} {F : α → β → Prop} : ∀ {l₁ : List α} {l₂ : List β}, Paired F l₁ l₂ → ∀ {i : Nat} {a : α}, l₁[i]? = some a → ∃ b, l₂[i]? = some b ∧ F a b
  | _, _, .nil, _, _, e => by simp at e
  | _, _, .cons h _, 0, _, e => by simp at e; subst e; exact ⟨_, rfl, h⟩
  | _, _, .cons _ t, i + 1, b, e => by
    obtain ⟨a, h1, h2⟩ := Paired.getL t (i := i) (a := b) (by simpa using e)
    exact ⟨a, by simpa using h1, h2⟩
theorem Paired.eqMap {α β : Type} {f : α → β} : ∀ {l₁ : List α} {l₂ : List β}, Paired (fun a b => b = f a) l₁ l₂ → l₂ = l₁.map f
  | _, _, .nil => rfl
  | _, _, .cons h t => by rw [h, Paired.eqMap t]; rfl
theorem Paired.ofMap {α β : Type} {F : α → β → Prop} {f : α → β} : ∀ {l : List α}, (∀ a ∈ l, F a (f a)) → Paired F l (l.map f)
  | [], _ => .nil
  | a :: r, h => .cons (h a List.mem_cons_self) (Paired.ofMap fun b hb => h b (List.mem_cons_of_mem _ hb))
theorem Paired.impM {α β : Type} {F G : α → β → Prop} : ∀ {l₁ : List α} {l₂ : List β}, Paired F l₁ l₂ → (∀ a ∈ l₁, ∀ b, F a b → G a b) → Paired G l₁ l₂
  | _, _, .nil, _ => .nil
  | _, _, .cons h t, k => .cons (k _ List.mem_cons_self _ h) (Paired.impM t fun a ha => k a (List.mem_cons_of_mem _ ha))

/-! ### comprehensions, any, all -/
theorem take_snoc {α : Type} {l : List α} {i : Nat} {a : α} (h : l[i]? = some a) : l.take (i + 1) = l.take i ++ [a] := by
  rw [List.take_add_one, h]; rfl
section
variable {T : List (Addr × Str)} {J : It} {G : Hp → Prop} {Y : Nat → Hp → V → Hp → Prop} {α : Type} {ls : List α} {n : Nat} {g : TG} {tt : TT} {te : TE} {vs : List Nat} {σ : L2.St} {H1 : Hp} {D : Addr} {Q : VK}
theorem lcx {Qd : Hp → Prop} (w : Walk J n G Y) (hn : n = ls.length) (keep : α → Bool) (R : α → V → Hp → Prop) (hT : LamX.Tabs T H1) (hD : H1 D = none) (hG : ∀ H, Ex T H1 H → G H) (hz : ls.length < sizeLine)
    (hR : ∀ a y H H', Ch T (fun b => b = D) H H' → (∃ zs, H D = some (.lst zs)) → R a y H → R a y H')
    (turn : ∀ i a x H H' (N : Hp → Prop) (M : V → Hp → Prop), ls[i]? = some a → Ex T H1 H → Y i H x H' → (∃ zs, H D = some (.lst zs)) → (keep a = false → ∀ H3, Ex T H H3 → N H3) → (keep a = true → ∀ y H4, Ex T H H4 → R a y H4 → M y H4) →
      g x (wipe σ vs) H' fun σ2 H2 => wipe σ2 vs = wipe σ vs ∧ tt σ2 H2 fun b H3 => if b = true then te σ2 H3 M else N H3)
    (hd : ∀ H ys, Ex T H1 H → H D = some (.lst ys) → Paired (fun a y => R a y H) (ls.filter keep) ys → Qd H) :
    ∃ W : Nat → Nat → Hp → Prop, (∃ m, W 0 m (upd H1 D (.lst []))) ∧ ∀ i m H, W i m H →
      (J.stop i H ∧ Qd H) ∨ (J.go i H ∧ ∃ Nx : Hp → Prop, (∀ H', Nx H' → ∃ m', m' < m ∧ W (i + 1) m' H') ∧ ∀ x H', J.yld i H x H' → g x (wipe σ vs) H' fun σ2 H2 => wipe σ2 vs = wipe σ vs ∧ tt σ2 H2 fun b H3 =>
        if b = true then te σ2 H3 fun y H4 => ∃ acc, H4 D = some (.lst acc) ∧ acc.length < sizeLine ∧ Nx (upd H4 D (.lst (acc ++ [y]))) else Nx H3) := by
  subst hn
  refine lc_it w (Qd := fun H => Qd H) (fun i H => Ex T H1 H ∧ ∃ ys, H D = some (.lst ys) ∧ Paired (fun a y => R a y H) ((ls.take i).filter keep) ys) ?_ ?_ ?_ ?_
  · exact ⟨(Ch.refl hT).new hD, [], upd_same, by simpa using Paired.nil⟩
  · intro i H _ p; exact hG H p.1
  · intro i x H H' hi p hy
    obtain ⟨p1, ys, p2, p3⟩ := p
    obtain ⟨a, ha⟩ : ∃ a, ls[i]? = some a := ⟨ls[i], by simp [hi]⟩
    refine turn i a x H H' _ _ ha p1 hy ⟨ys, p2⟩ (fun hk H3 e => ?_) fun hk y H4 e r => ?_
    · refine ⟨p1.trans e, ys, Ex.k e p2, ?_⟩
      rw [take_snoc ha, List.filter_append, show List.filter keep [a] = [] by simp [hk], List.append_nil]
      exact Paired.impM p3 fun b _ z h => hR b z H H3 e.weak ⟨_, p2⟩ h
    · have p4 := Ex.k e p2
      refine ⟨ys, p4, ?_, Ch.put0 (p1.trans e) p4 nt_lst hD, ys ++ [y], upd_same, ?_⟩
      · have h1 := p3.length
        have h2 := List.length_filter_le keep (ls.take i)
        have h3 : (ls.take i).length ≤ i := List.length_take_le ..
        omega
      · have e5 : Ch T (fun b => b = D) H4 (upd H4 D (.lst (ys ++ [y]))) := Ch.put (Ch.refl e.tb) p4 nt_lst (.inr rfl)
        rw [take_snoc ha, List.filter_append, show List.filter keep [a] = [a] by simp [hk]]
        refine Paired.snoc (Paired.impM p3 fun b _ z h => hR b z H4 _ e5 ⟨_, p4⟩ (hR b z H H4 e.weak ⟨_, p2⟩ h)) (hR a y H4 _ e5 ⟨_, p4⟩ r)
  · intro H p
    obtain ⟨p1, ys, p2, p3⟩ := p
    rw [List.take_length] at p3
    exact hd H ys p1 p2 p3
/-- the items are told without the heap -/
theorem lcf {Qd : Hp → Prop} (w : Walk J n G Y) (hn : n = ls.length) (keep : α → Bool) (f : α → V) (hT : LamX.Tabs T H1) (hD : H1 D = none) (hG : ∀ H, Ex T H1 H → G H) (hz : ls.length < sizeLine)
    (turn : ∀ i a x H H' (N : Hp → Prop) (M : V → Hp → Prop), ls[i]? = some a → Ex T H1 H → Y i H x H' → (keep a = false → ∀ H3, Ex T H H3 → N H3) → (keep a = true → ∀ H4, Ex T H H4 → M (f a) H4) →
      g x (wipe σ vs) H' fun σ2 H2 => wipe σ2 vs = wipe σ vs ∧ tt σ2 H2 fun b H3 => if b = true then te σ2 H3 M else N H3)
    (hd : ∀ H, Ex T H1 H → H D = some (.lst ((ls.filter keep).map f)) → Qd H) :
    ∃ W : Nat → Nat → Hp → Prop, (∃ m, W 0 m (upd H1 D (.lst []))) ∧ ∀ i m H, W i m H →
      (J.stop i H ∧ Qd H) ∨ (J.go i H ∧ ∃ Nx : Hp → Prop, (∀ H', Nx H' → ∃ m', m' < m ∧ W (i + 1) m' H') ∧ ∀ x H', J.yld i H x H' → g x (wipe σ vs) H' fun σ2 H2 => wipe σ2 vs = wipe σ vs ∧ tt σ2 H2 fun b H3 =>
        if b = true then te σ2 H3 fun y H4 => ∃ acc, H4 D = some (.lst acc) ∧ acc.length < sizeLine ∧ Nx (upd H4 D (.lst (acc ++ [y]))) else Nx H3) := by
  refine lcx w hn keep (fun a y _ => y = f a) hT hD hG hz (fun _ _ _ _ _ _ h => h) (fun i a x H H' N M ha e hy _ h1 h2 => turn i a x H H' N M ha e hy h1 fun hk H4 e4 => h2 hk (f a) H4 e4 rfl) fun H ys e1 e2 e3 => hd H e1 (by rw [e2, Paired.eqMap e3])
/-- any, all of a generator expression -/
theorem agx {stop : Bool} {ix : Nat} {H2 : Hp} (w : Walk J n G Y) (hn : n = ls.length) (b : α → Bool) (hT : LamX.Tabs T H2) (hG : ∀ H, Ex T H2 H → G H)
    (turn : ∀ i a x H H' (M : V → Hp → Prop), ls[i]? = some a → Ex T H2 H → Y i H x H' → (∀ H'', Ex T H H'' → M (.bl (b a)) H'') → te (σ.set ix (some x)) H' M)
    (hd : ∀ H, Ex T H2 H → Q (.bl (if stop then ls.any b else ls.all b)) H) : GX.RdG stop ix te σ Q J H2 := by
  subst hn
  refine ⟨ls.length, G, Y, fun i H => Ex T H2 H ∧ ∀ a ∈ ls.take i, b a = !stop, w, ⟨Ch.refl hT, by simp⟩, fun i H _ p => hG H p.1, fun i y H H' hi p hy => ?_, fun H p => ?_⟩
  · obtain ⟨a, ha⟩ : ∃ a, ls[i]? = some a := ⟨ls[i], by simp [hi]⟩
    refine turn i a y H H' _ ha p.1 hy fun H'' e => ⟨b a, rfl, ?_⟩
    by_cases hb : b a = stop
    · rw [if_pos hb]
      have hm : a ∈ ls := List.mem_of_getElem? ha
      have key : stop = if stop then ls.any b else ls.all b := by
        cases stop
        · simp only [Bool.false_eq_true, if_false]
          exact (List.all_eq_false.mpr ⟨a, hm, by rw [hb]; simp⟩).symm
        · simp only [if_true]
          exact (List.any_eq_true.mpr ⟨a, hm, hb⟩).symm
      have := hd H'' (p.1.trans e)
      rw [← key] at this
      exact this
    · rw [if_neg hb]
      refine ⟨p.1.trans e, fun c hc => ?_⟩
      rw [take_snoc ha] at hc
      rcases List.mem_append.mp hc with hc | hc
      · exact p.2 c hc
      · rw [List.mem_singleton.mp hc]
        cases hs : stop <;> cases hba : b a <;> simp_all
  · have key : (!stop) = if stop then ls.any b else ls.all b := by
      have h : ∀ a ∈ ls, b a = !stop := fun a ha => p.2 a (by rw [List.take_length]; exact ha)
      cases stop
      · simp only [Bool.false_eq_true, if_false]
        exact (List.all_eq_true.mpr fun a ha => by simpa using h a ha).symm
      · simp only [if_true]
        exact (List.any_eq_false.mpr fun a ha => by simpa using h a ha).symm
    rw [key]
    exact hd H p.1
end

section
variable {T : List (Addr × Str)} {J : It} {G : Hp → Prop} {Y : Nat → Hp → V → Hp → Prop} {α : Type} {ls : List α} {n : Nat} {te : TE} {σ : L2.St} {Q : VK} {ix : Nat} {H2 : Hp}
theorem agx_any (w : Walk J n G Y) (hn : n = ls.length) (b : α → Bool) (hT : LamX.Tabs T H2) (hG : ∀ H, Ex T H2 H → G H)
    (turn : ∀ i a x H H' (M : V → Hp → Prop), ls[i]? = some a → Ex T H2 H → Y i H x H' → (∀ H'', Ex T H H'' → M (.bl (b a)) H'') → te (σ.set ix (some x)) H' M)
    (hd : ∀ H, Ex T H2 H → Q (.bl (ls.any b)) H) : GX.RdG true ix te σ Q J H2 := agx w hn b hT hG turn hd
theorem agx_all (w : Walk J n G Y) (hn : n = ls.length) (b : α → Bool) (hT : LamX.Tabs T H2) (hG : ∀ H, Ex T H2 H → G H)
    (turn : ∀ i a x H H' (M : V → Hp → Prop), ls[i]? = some a → Ex T H2 H → Y i H x H' → (∀ H'', Ex T H H'' → M (.bl (b a)) H'') → te (σ.set ix (some x)) H' M)
    (hd : ∀ H, Ex T H2 H → Q (.bl (ls.all b)) H) : GX.RdG false ix te σ Q J H2 := agx w hn b hT hG turn hd
/-- none is so -/
theorem agx_no (w : Walk J n G Y) (hn : n = ls.length) (hT : LamX.Tabs T H2) (hG : ∀ H, Ex T H2 H → G H)
    (turn : ∀ i a x H H' (M : V → Hp → Prop), ls[i]? = some a → Ex T H2 H → Y i H x H' → (∀ H'', Ex T H H'' → M (.bl false) H'') → te (σ.set ix (some x)) H' M)
    (hd : ∀ H, Ex T H2 H → Q (.bl false) H) : GX.RdG true ix te σ Q J H2 := agx w hn (fun _ => false) hT hG turn fun H e => by
  have := hd H e
  have e2 : (if true = true then ls.any (fun _ => false) else ls.all (fun _ => false)) = false := by simp
  rw [e2]; exact this
end
theorem zip_get {α β : Type} {l : List α} {r : List β} {i : Nat} {a : α} {b : β} (h : (l.zip r)[i]? = some (a, b)) : l[i]? = some a ∧ r[i]? = some b := by
  rw [List.getElem?_zip_eq_some] at h
  exact h
theorem paired_at {α β : Type} {F : α → β → Prop} {l : List α} {r : List β} (h : Paired F l r) {i : Nat} {a : α} {b : β} (h1 : l[i]? = some a) (h2 : r[i]? = some b) : F a b := by
  obtain ⟨a', e1, e2⟩ := Paired.get h h2
  rw [h1] at e1
  rw [Option.some.inj e1]; exact e2
theorem zip_snd {α β : Type} {F : α → β → Prop} : ∀ {l : List α} {r : List β}, Paired F l r → (l.zip r).map (·.2) = r
  | _, _, .nil => rfl
  | _, _, .cons _ t => by simp [zip_snd t]
theorem Paired.mapL {α β γ : Type} {F : γ → β → Prop} {f : α → γ} : ∀ {l : List α} {r : List β}, Paired (fun a b => F (f a) b) l r → Paired F (l.map f) r
  | _, _, .nil => .nil
  | _, _, .cons h t => .cons h (Paired.mapL t)
theorem Paired.mapR {α β γ : Type} {F : α → γ → Prop} {g : β → γ} : ∀ {l : List α} {r : List β}, Paired (fun a b => F a (g b)) l r → Paired F l (r.map g)
  | _, _, .nil => .nil
  | _, _, .cons h t => .cons h (Paired.mapR t)
theorem Paired.flip {α β : Type} {F : α → β → Prop} : ∀ {l : List α} {r : List β}, Paired F l r → Paired (fun b a => F a b) r l
  | _, _, .nil => .nil
  | _, _, .cons h t => .cons h (Paired.flip t)
theorem refs_of {α : Type} {R : α → Addr → Prop} : ∀ {ls : List α} {ys : List V}, Paired (fun p v => ∃ q, v = V.ref q ∧ R p q) ls ys → ∃ as : List Addr, ys = as.map V.ref ∧ Paired R ls as
  | _, _, .nil => ⟨[], rfl, .nil⟩
  | _, _, .cons h t => by
    obtain ⟨q, h1, h2⟩ := h
    obtain ⟨as, h3, h4⟩ := refs_of t
    exact ⟨q :: as, by rw [h1, h3]; rfl, .cons h2 h4⟩
/-- a new list of pairs, as dict() takes it -/
theorem dpairs {α : Type} {K : PySem.W.Frag} {H : Hp} {k : α → Key} {u : α → V} : ∀ {ls : List α} {ys : List V}, Paired (fun p v => ∃ q, v = V.ref q ∧ H q = some (.tup [kV (k p), u p])) ls ys →
    ∃ as : List Addr, ys = as.map V.ref ∧ Paired (fun p kv => SqT K H p [kV kv.1, kv.2]) as (ls.map fun p => (k p, u p))
  | _, _, .nil => ⟨[], rfl, .nil⟩
  | _, _, .cons h t => by
    obtain ⟨q, h1, h2⟩ := h
    obtain ⟨as, h3, h4⟩ := dpairs (K := K) t
    exact ⟨q :: as, by rw [h1, h3]; rfl, .cons (SqT.of h2) h4⟩
theorem zip_at {α : Type} {l : List α} {i j : Nat} {a : α} (h : l.zipIdx[i]? = some (a, j)) : j = i ∧ l[i]? = some a := by
  rw [List.getElem?_zipIdx] at h
  cases e : l[i]? with
  | none => rw [e] at h; cases h
  | some z => rw [e] at h; simp at h; exact ⟨h.2.symm, by rw [h.1]⟩
theorem yenum {α : Type} {l : List α} {f : α → V} {i : Nat} {a : α} {H H' : Hp} {v : V} (h : l[i]? = some a) (y : YPair (fun i => some (.int (i : Nat))) (fun i => (l.map f)[i]?) i H v H') :
    ∃ T, v = .ref T ∧ H T = none ∧ H' = upd H T (.tup [.int (i : Nat), f a]) := by
  obtain ⟨T, x1, y1, e1, e2, e3, h1, h2⟩ := y
  simp only [List.getElem?_map, h, Option.map_some, Option.some.injEq] at h1 h2
  exact ⟨T, e1, e2, by rw [e3, ← h1, ← h2]⟩
theorem yat {α : Type} {l : List α} {f : α → V} {i : Nat} {a : α} {H H' : Hp} {v : V} (h : l[i]? = some a) (y : YAt (l.map f) i H v H') : H' = H ∧ v = f a := by
  obtain ⟨e1, e2⟩ := y
  simp only [List.getElem?_map, h, Option.map_some, Option.some.injEq] at e2
  exact ⟨e1, e2.symm⟩
theorem yrange {n i a : Nat} {H H' : Hp} {v : V} (h : (List.range n)[i]? = some a) (y : YFn (fun i => .int (0 + (i : Nat))) i H v H') : H' = H ∧ v = .int (a : Int) ∧ a < n := by
  obtain ⟨e1, e2⟩ := y
  obtain ⟨h1, h2⟩ := List.getElem?_eq_some_iff.mp h
  simp at h2 h1
  exact ⟨e1, by rw [e2, h2]; simp, by omega⟩

/-! ### dicts by lists of keys -/
def dkv (ks : List Str) (f : Str → V) : List (Key × V) := ks.map fun k => (Sum.inr k, f k)
def dni (n : Nat) (f : Nat → V) : List (Key × V) := (List.range n).map fun (k : Nat) => (Sum.inl (k : Int), f k)
section
variable {ks : List Str} {f : Str → V} {k : Str} {v : V}
theorem dkv_len : (dkv ks f).length = ks.length := List.length_map _
theorem dkv_keys : (dkv ks f).map (·.1) = ks.map Sum.inr := by simp [dkv]
theorem valV_dkv : valV (dkv ks f) (Sum.inr k) = if k ∈ ks then some (f k) else none := by
  induction ks with
  | nil => rfl
  | cons a r ih =>
    show valV ((Sum.inr a, f a) :: dkv r f) (Sum.inr k) = _
    by_cases e : a = k
    · subst e
      rw [valV_pos rfl]; simp
    · rw [valV_neg (fun z => e (Sum.inr.inj z)), ih]
      simp [Ne.symm e]
theorem dkv_at {i : Nat} (h : ks[i]? = some k) : (dkv ks f)[i]? = some (Sum.inr k, f k) := by simp [dkv, h]
theorem dkv_of {i : Nat} {q : Key} (h : (dkv ks f)[i]? = some (q, v)) : ∃ k, ks[i]? = some k ∧ q = Sum.inr k ∧ v = f k := by
  simp only [dkv, List.getElem?_map, Option.map_eq_some_iff] at h
  obtain ⟨k, h1, h2⟩ := h
  cases h2
  exact ⟨k, h1, rfl, rfl⟩
theorem dkv_congr {g : Str → V} (h : ∀ k ∈ ks, f k = g k) : dkv ks f = dkv ks g := by
  unfold dkv
  exact List.map_congr_left fun a ha => by rw [h a ha]
theorem putK_dkv_new (h : k ∉ ks) : putK (dkv ks f) (Sum.inr k) v = dkv (ks ++ [k]) (PM.fset f k v) := by
  rw [putK_new v (by rw [valV_dkv, if_neg h])]
  have e1 : dkv ks f = dkv ks (PM.fset f k v) := dkv_congr fun a ha => (PM.fset_ne (fun z => h (by rw [← z]; exact ha))).symm
  rw [e1]
  simp [dkv, PM.fset_same]
theorem putK_dkv_old (h : k ∈ ks) : putK (dkv ks f) (Sum.inr k) v = dkv ks (PM.fset f k v) := by
  unfold putK
  rw [if_pos (by rw [valV_any, valV_dkv, if_pos h]; rfl)]
  unfold dkv
  rw [List.map_map]
  refine List.map_congr_left fun a _ => ?_
  by_cases e : a = k
  · subst e; simp [PM.fset_same]
  · simp [e, PM.fset_ne e]
theorem dropK_dkv : dropK (dkv ks f) (Sum.inr k) = dkv (ks.filter fun a => decide (a ≠ k)) f := by
  unfold dropK dkv
  rw [List.filter_map]
  congr 1
  refine List.filter_congr fun a _ => ?_
  simp
/-- dict(pairs) of keys that differ -/
theorem mergeK_dkv : ∀ {ks2 ks1 : List Str}, (ks1 ++ ks2).Nodup → mergeK (dkv ks1 f) (dkv ks2 f) = dkv (ks1 ++ ks2) f
  | [], ks1, _ => by simp [mergeK, dkv]
  | a :: r, ks1, h => by
    have hn : a ∉ ks1 := fun z => by
      have := (List.nodup_append.mp h).2.2 a z a List.mem_cons_self
      exact this rfl
    show mergeK (putK (dkv ks1 f) (Sum.inr a) (f a)) (dkv r f) = _
    rw [putK_dkv_new hn, dkv_congr (ks := ks1 ++ [a]) (g := f) (fun k _ => by by_cases e : k = a; · rw [e, PM.fset_same]
                                                                              · rw [PM.fset_ne e])]
    rw [mergeK_dkv (by simpa using h)]
    simp
theorem mergeK_nil (h : ks.Nodup) : mergeK [] (dkv ks f) = dkv ks f := by
  have := mergeK_dkv (f := f) (ks1 := []) (ks2 := ks) (by simpa using h)
  simpa [dkv] using this
end
end PMT

set_option Elab.async false
set_option linter.all false
set_option maxRecDepth 100000
set_option maxHeartbeats 2000000
/-! HK: rules with the text's facts K named. -/
namespace PMT
open PySem PySem.Spec PyProof.Rows L2
section
variable {X : Cx} (K : PySem.W.Frag) (hK : X.K = K)
include hK
theorem pe_fldK {e : Expr} {f : Str} {pos : Pos} {ta : TE} (he : PE X e ta) (hb : attributeBase e f X.env (eval e X.env) = eval e X.env) : PE X (.Attribute e f pos) (tFld K ta f) := by subst hK; exact pe_fld he hb
theorem pi_listK {tg l : Expr} {tl : TE} (hl : PE X l tl) : PI X tg l (iList K tl) := by subst hK; exact pi_list hl
theorem pi_tupK {tg l : Expr} {tl : TE} (hl : PE X l tl) : PI X tg l (iTup K tl) := by subst hK; exact pi_tup hl
theorem pi_enumK {e : Expr} {ta : TA} {p pos tpos : Pos} {elts : List Expr} {kk : Nat} (hg : Gl X "enumerate") (hm : X.mg "enumerate" = none) (ha : PA X [e] ta) (hs : starEach [e] X.env = [(false, eval e X.env)] := by rfl) :
    PI X (.Tuple elts kk tpos) (.Call (.Name "enumerate" p) [e] [] pos) (iEnum K ta) := by subst hK; exact pi_enum hg hm ha hs
theorem pi_enumTK {e : Expr} {ta : TA} {p pos tpos : Pos} {elts : List Expr} {kk : Nat} (hg : Gl X "enumerate") (hm : X.mg "enumerate" = none) (ha : PA X [e] ta) (hs : starEach [e] X.env = [(false, eval e X.env)] := by rfl) :
    PI X (.Tuple elts kk tpos) (.Call (.Name "enumerate" p) [e] [] pos) (RX.iEnumT K ta) := by subst hK; exact RX.pi_enumT hg hm ha hs
theorem op_inK : OpR X (compareOp .In) (rIn K false) := by subst hK; exact op_in_seq
theorem op_notInK : OpR X (compareOp .NotIn) (rIn K true) := by subst hK; exact op_notIn_seq
theorem op_eqDK (hu : X.A.units + 64 < cLine) : OpR X (compareOp .Eq) (rEqD K) := by subst hK; exact op_eqD hu
theorem op_neDK (hu : X.A.units + 64 < cLine) : OpR X (compareOp .NotEq) (rNeD K) := by subst hK; exact op_neD hu
theorem ix_listK : IxR X (rIxL K) := by subst hK; exact ix_list
theorem ix_tupK : IxR X (rIxT K) := by subst hK; exact ix_tup
theorem call_tupleK : CallR X (.type "tuple") (fun xs H Q => ∃ p ys, xs = [.ref p] ∧ ((SqL K H p ys ∧ ∀ l, H l = none → Q (.ref l) (upd H l (.tup ys))) ∨ (SqT K H p ys ∧ Q (.ref p) H))) := by subst hK; exact call_tuple_of
theorem call_listK : CallR X (.type "list") (fun xs H Q => ∃ p ys, xs = [.ref p] ∧ (SqL K H p ys ∨ SqT K H p ys) ∧ ∀ l, H l = none → Q (.ref l) (upd H l (.lst ys))) := by subst hK; exact call_list_of
theorem mt_indexK : MtR X "list.index" (rIndex K) := by subst hK; exact mt_index
theorem mt_tup_indexK : MtR X "tuple.index" (fun x xs H Q => ∃ p, ∃ ys : List Str, ∃ z j, x = .ref p ∧ xs = [.str z] ∧ SqT K H p (ys.map V.str) ∧ ys[j]? = some z ∧ (∀ m, m < j → ys[m]? ≠ some z) ∧ Q (.int (j : Nat)) H) := by subst hK; exact mt_tup_index
theorem mt_tcountK : MtR X "tuple.count" (RX.rTCnt K) := by subst hK; exact RX.mt_tcount
theorem sl_listK : SlR X (rSlL K) := by subst hK; exact sl_list
theorem sl_tupK : SlR X (rSlA K) := by subst hK; exact sl_tupA
theorem op_catTK : OpR X (binaryOp .Add) (rCatA K) := by subst hK; exact op_catA
theorem cr_minK {k : Nat} (hc : X.calm = true) (hr : Room k X.A) : CallR X (.builtin "min") (LX.rMinT K) := by subst hK; exact LX.cr_minT hc hr
theorem cr_sortedSK : CallR X (.builtin "sorted") (rSortedS K) := by subst hK; exact cr_sortedS
theorem call_lenK : CallR X (.builtin "len") (fun xs H Q => ∃ p ys, xs = [.ref p] ∧ (SqL K H p ys ∨ SqT K H p ys) ∧ Q (.int ys.length) H) := by subst hK; exact call_len_seq
theorem pe_bmK {o e : Expr} {es : List Expr} {to : TE} {t : TA} {name : Str} {apos cpos : Pos} {T id : String} {r : V → List V → Hp → VK → Prop} (pa : PlainAttrs T) (slot : Slot T name id) (hty : typeOf (.builtin id) = pure (.type "method_descriptor")) (hm : MtR X id r) (ho : PE X o to) (ha : PA X (e :: es) t)
    (hbase : attributeBase o name X.env (eval o X.env) = eval o X.env := by rfl)
    (hfew : ((backTo cpos (starEach (e :: es) X.env)).all (fun x => !x.1) && (backToKw cpos (keywordEach [] X.env)).all (fun x => x.1.isSome)
      && decide ((e :: es).length + ([] : List Keyword).length + (if ([] : List Keyword).isEmpty then 0 else 1) < 30)) = true := by rfl)
    (hline : (apos.endLine == cpos.line) = true := by rfl) (hs : starEach (e :: es) X.env = (false, eval e X.env) :: starEach es X.env := by rfl) (hplain : (backTo cpos (starEach es X.env)).any (·.1) = false := by rfl) :
    PE X (.Call (.Attribute o name apos) (e :: es) [] cpos) (tBM K T r to t) := by subst hK; exact pe_bm pa slot hty hm ho ha hbase hfew hline hs hplain
end
end PMT

set_option Elab.async false
set_option linter.all false
set_option maxRecDepth 100000
set_option maxHeartbeats 2000000
/-! RF: tuples whose object is known: their methods. -/
namespace PMT
open PySem PySem.Spec PyProof.Rows L2
/-- a tuple whose one object is known, no dict of its own -/
def TupF (H : Hp) (a : Addr) (xs : List V) : Prop := ∃ o : Obj, o.dict = none ∧ H a = some (.frz o (.tup xs))
theorem TupF.t {K : PySem.W.Frag} {H : Hp} {a : Addr} {xs : List V} (h : TupF H a xs) : SqT K H a xs := by
  obtain ⟨o, _, e⟩ := h
  exact .inl (.inr ⟨o, e⟩)
theorem TupF.ex {T : List (Addr × Str)} {H H' : Hp} {a : Addr} {xs : List V} (h : TupF H a xs) (e : Ex T H H') : TupF H' a xs := by
  obtain ⟨o, d, q⟩ := h
  exact ⟨o, d, Ex.k e q⟩
section
variable {X : Cx}
theorem call_tupleF (K : PySem.W.Frag) (hK : X.K = K) : CallR X (.type "tuple") (fun xs H Q => ∃ p ys, xs = [.ref p] ∧ SqL K H p ys ∧ ∀ l o, o.dict = none → H l = none → Q (.ref l) (upd H l (.frz o (.tup ys)))) := by
  subst hK
  intro pins s σ H xs us Q I r h
  obtain ⟨p, ys, rfl, hq, q⟩ := h
  obtain ⟨u, rfl, rx⟩ := vals1 r
  cases rx
  obtain ⟨its, r', pl, hz⟩ := I.list hq
  have hlen := r'.length
  refine call_tuple_list pl.isList (fun h' kp => ?_) (by simp only [List.size_toArray] <;> omega)
  have I1 : Inv X pins σ H { s with heap := h' } := I.kept (t' := s.toks) kp
  have I2 : Inv X pins σ (upd H h'.objs.size (.frz { cls := .type "tuple", data := .seq its.toArray } (.tup ys))) { s with heap := h'.push { cls := .type "tuple", data := .seq its.toArray } } :=
    I1.laid (t' := s.toks) (fun b o e => Heap.get?_push_of_some _ e) (Nat.le_refl _) (show ObjOk X.prog X.w _ _ _ (.frz _ (.tup ys)) from ⟨Heap.get?_push_size _ rfl, hz, its, r', IsTup.new _ _⟩)
  exact ⟨.ref h'.objs.size, _, I2, rfl, q _ _ rfl (I1.hok.fresh (Nat.le_refl _))⟩
def tTupF (t : TA) : TE := fun σ H Q => t σ H fun xs H1 => xs.length ≤ sizeLine ∧ ∀ p o, o.dict = none → H1 p = none → Q (.ref p) (upd H1 p (.frz o (.tup xs)))
theorem pe_tupF {es : List Expr} {t : TA} {x1 : Nat} {pos : Pos} (h : PA X es t) : PE X (.Tuple es x1 pos) (tTupF t) := by
  refine ⟨fun pins s σ H Q I hq => ?_⟩
  refine wpAny_Tuple_spliced (thn (h.run pos pins s σ H _ I hq) fun us s1 ⟨xs, H1, I1, r, z, q⟩ => ⟨by rw [← r.length]; exact z, ?_⟩)
  have hf : H1 s1.heap.objs.size = none := I1.hok.fresh (Nat.le_refl _)
  refine ⟨.ref s1.heap.objs.size, upd H1 s1.heap.objs.size (.frz { cls := .type "tuple", data := .seq us.toArray } (.tup xs)), I1.laid (t' := s1.toks) (fun b u e => Heap.get?_push_of_some _ e) (Nat.le_refl _) ?_, rfl, q _ _ rfl hf⟩
  exact ⟨Heap.get?_push_size _ rfl, z, us, r, ⟨_, Heap.get?_push_size _ rfl, rfl, _, rfl⟩⟩
/-- a method of such a tuple -/
def tBMT (r : V → List V → Hp → VK → Prop) (to : TE) (t : TA) : TE := fun σ H Q => to σ H fun x H1 => (∃ p xs, x = .ref p ∧ TupF H1 p xs) ∧ t σ H1 fun xs H2 => r x xs H2 Q
theorem pe_bmT {o e : Expr} {es : List Expr} {to : TE} {t : TA} {name : Str} {apos cpos : Pos} {id : String} {r : V → List V → Hp → VK → Prop} (pa : PlainAttrs "tuple") (slot : Slot "tuple" name id) (hty : typeOf (.builtin id) = pure (.type "method_descriptor")) (hm : MtR X id r) (ho : PE X o to) (ha : PA X (e :: es) t)
    (hbase : attributeBase o name X.env (eval o X.env) = eval o X.env := by rfl)
    (hfew : ((backTo cpos (starEach (e :: es) X.env)).all (fun x => !x.1) && (backToKw cpos (keywordEach [] X.env)).all (fun x => x.1.isSome)
      && decide ((e :: es).length + ([] : List Keyword).length + (if ([] : List Keyword).isEmpty then 0 else 1) < 30)) = true := by rfl)
    (hline : (apos.endLine == cpos.line) = true := by rfl) (hs : starEach (e :: es) X.env = (false, eval e X.env) :: starEach es X.env := by rfl) (hplain : (backTo cpos (starEach es X.env)).any (·.1) = false := by rfl) :
    PE X (.Call (.Attribute o name apos) (e :: es) [] cpos) (tBMT r to t) := by
  refine ⟨fun pins s σ H Q I h => ?_⟩
  refine wpAny_Call_method_late hbase hfew hline rfl (thn (ho.run pins s σ H _ I h) fun v s1 ⟨x, H1, I1, r1, ⟨p, xs, ex, ob, hd, hp⟩, q1⟩ => ?_)
  subst ex
  obtain ⟨hg, hz, its, rv, o', ho', hc', hd'⟩ := I1.hok p _ hp
  have r1' : v = Value.ref p := r1
  subst r1'
  have h1 : s1.TypeIs (.ref p) "tuple" := ⟨o', ho', hc'⟩
  have h2 : ∀ a, Value.ref p = .ref a → ∃ ob, s1.heap.get? a = some ob ∧ ob.dict = none := fun a e => by
    cases e
    exact ⟨ob, hg, hd⟩
  refine ⟨"tuple", id, pa, slot, hty, h1, h2, ?_⟩
  have hA := ha.run cpos pins s1 σ H1 _ I1 q1
  rw [hs] at hA ⊢
  refine Calls.callWith_builtin (by show (false || (backTo cpos (starEach es X.env)).any (·.1)) = false; rw [hplain] <;> rfl) (Calls.evalArgs_plain ?_)
  exact thn hA fun us s2 ⟨vs, H2, I2, r2, q2⟩ => hm pins s2 σ H2 (.ref p) vs (.ref p) us Q I2 r1 r2 q2
/-- t + u of two such tuples, u not empty -/
def rCatF (K : PySem.W.Frag) : R2 := fun x y H Q => ∃ a b xs ys, x = .ref a ∧ y = .ref b ∧ SqT K H a xs ∧ TupF H b ys ∧ ys ≠ [] ∧ xs.length + ys.length ≤ sizeLine ∧ ∀ p H', (∀ c u, H c = some u → H' c = some u) → (H' = H ∨ ∃ o, H' = upd H p o ∧ H p = none) → TupF H' p (xs ++ ys) → Q (.ref p) H'
theorem op_catF (K : PySem.W.Frag) (hK : X.K = K) : OpR X (binaryOp .Add) (rCatF K) := by
  subst hK
  intro pins s σ H x y v u Q I rx ry h
  obtain ⟨a, b, xs, ys, rfl, rfl, ha, hb, hy, hz, q⟩ := h
  cases rx
  cases ry
  obtain ⟨its, r1, p1, _⟩ := I.tuple ha
  obtain ⟨its2, r2, p2, _⟩ := I.tuple (hb.t (K := X.K))
  by_cases hx : xs = []
  · subst hx
    cases r1
    exact cat_tup0 p1 p2 ⟨.ref b, H, I, rfl, q b H (fun _ _ h => h) (.inl rfl) hb⟩
  · refine HT.cat_tup p1 p2 (fun z => hx (r1.nil_iff.mp z)) (fun z => absurd (r2.nil_iff.mp z) hy) (fun z => ?_) (by rw [← r1.length, ← r2.length]; exact hz)
    have hf : H s.heap.objs.size = none := I.hok.fresh (Nat.le_refl _)
    refine ⟨.ref s.heap.objs.size, _, I.laid (t' := s.toks) (o := .frz { cls := .type "tuple", data := .seq (its ++ its2).toArray } (.tup (xs ++ ys))) (fun b ob q => Heap.get?_push_of_some _ q) (Nat.le_refl _) ?_, rfl, q _ _ (fun c u h => by rw [upd_ne (ne_of_none h hf)]; exact h) (.inr ⟨_, rfl, hf⟩) ⟨_, rfl, upd_same⟩⟩
    exact ⟨Heap.get?_push_size _ rfl, by rw [List.length_append]; exact hz, _, r1.append r2, IsTup.new _ _⟩
end
end PMT

set_option Elab.async false
set_option linter.all false
set_option maxRecDepth 100000
set_option maxHeartbeats 2000000
/-! DE: data that == compares at depth. -/
namespace PMT
open PySem PySem.Spec PyProof.Rows L2
structure DE (α : Type) where
  e : α → PyData
  ok : α → Prop
  dep : Nat
  lay : ∀ a, ok a → (e a).canLay0 = true
  dp : ∀ a, (e a).depth ≤ dep
  eqv : ∀ a b, PyData.eqv (e a) (e b) = true ↔ a = b
theorem DE.shaped {α : Type} (d : DE α) (h : d.dep ≤ 64) (a : α) (o : d.ok a) : SeqAt.shaped (d.e a) = true := by
  unfold SeqAt.shaped
  rw [d.lay a o, Bool.true_and]
  exact decide_eq_true (Nat.le_trans (d.dp a) h)
theorem DE.ev {α : Type} [DecidableEq α] (d : DE α) (a b : α) : PyData.eqv (d.e a) (d.e b) = decide (a = b) := by
  by_cases h : a = b
  · rw [(d.eqv a b).mpr h, decide_eq_true h]
  · rw [decide_eq_false h]
    cases e : PyData.eqv (d.e a) (d.e b) with
    | false => rfl
    | true => exact absurd ((d.eqv a b).mp e) h
def deNat : DE Nat := ⟨fun n => .int (n : Int), fun _ => True, 1, fun _ _ => by simp [PyData.canLay0], fun _ => by simp [PyData.depth], fun a b => by simp only [PyData.eqv, beq_iff_eq]; omega⟩
def deInt : DE Int := ⟨fun n => .int n, fun _ => True, 1, fun _ _ => by simp [PyData.canLay0], fun _ => by simp [PyData.depth], fun a b => by simp [PyData.eqv]⟩
def deStr : DE Str := ⟨fun n => .str n, fun s => PyData.strOk s = true, 1, fun _ h => by simpa [PyData.canLay0] using h, fun _ => by simp [PyData.depth], fun a b => by simp [PyData.eqv]⟩
def eON : Option Nat → PyData
  | none => .none
  | some n => .int (n : Int)
def deON : DE (Option Nat) := ⟨eON, fun _ => True, 1, fun o _ => by cases o <;> simp [eON, PyData.canLay0], fun o => by cases o <;> simp [eON, PyData.depth], fun a b => by cases a <;> cases b <;> simp [eON, PyData.eqv] <;> omega⟩
def eOS : Option Str → PyData
  | none => .none
  | some n => .str n
def deOS : DE (Option Str) := ⟨eOS, fun o => ∀ s, o = some s → PyData.strOk s = true, 1, fun o h => by cases o <;> simp_all [eOS, PyData.canLay0], fun o => by cases o <;> simp [eOS, PyData.depth], fun a b => by cases a <;> cases b <;> simp [eOS, PyData.eqv]⟩
theorem lay_all {α : Type} (d : DE α) : ∀ l : List α, (∀ a ∈ l, d.ok a) → PyData.canLayAll0 (l.map d.e) = true
  | [], _ => rfl
  | a :: r, h => by simp [PyData.canLayAll0, d.lay a (h a List.mem_cons_self), lay_all d r fun b hb => h b (List.mem_cons_of_mem _ hb)]
theorem eqv_all {α : Type} (d : DE α) : ∀ l m : List α, PyData.eqvAll (l.map d.e) (m.map d.e) = true ↔ l = m
  | [], [] => by simp [PyData.eqvAll]
  | [], _ :: _ => by simp [PyData.eqvAll]
  | _ :: _, [] => by simp [PyData.eqvAll]
  | a :: r, b :: t => by simp [PyData.eqvAll, d.eqv a b, eqv_all d r t]
theorem dep_all {α : Type} (d : DE α) : ∀ l : List α, PyData.depthAll (l.map d.e) ≤ d.dep
  | [] => by simp [PyData.depthAll]
  | a :: r => by
    have h1 := d.dp a
    have h2 := dep_all d r
    simp only [List.map_cons, PyData.depthAll]
    omega
def deList {α : Type} (d : DE α) : DE (List α) := ⟨fun l => .list (l.map d.e), fun l => ∀ a ∈ l, d.ok a, d.dep + 1, fun l h => by simp [PyData.canLay0, lay_all d l h], fun l => by have := dep_all d l; simp only [PyData.depth]; omega, fun a b => by simp [PyData.eqv, eqv_all]⟩
def deTup {α : Type} (d : DE α) : DE (List α) := ⟨fun l => .tuple (l.map d.e), fun l => ∀ a ∈ l, d.ok a, d.dep + 1, fun l h => by simp [PyData.canLay0, lay_all d l h], fun l => by have := dep_all d l; simp only [PyData.depth]; omega, fun a b => by simp [PyData.eqv, eqv_all]⟩
def deP2 {α β : Type} (d : DE α) (f : DE β) : DE (α × β) := ⟨fun p => .tuple [d.e p.1, f.e p.2], fun p => d.ok p.1 ∧ f.ok p.2, max d.dep f.dep + 1, fun p h => by simp [PyData.canLay0, PyData.canLayAll0, d.lay _ h.1, f.lay _ h.2], fun p => by have h1 := d.dp p.1; have h2 := f.dp p.2; simp only [PyData.depth, PyData.depthAll]; omega,
  fun a b => by obtain ⟨a1, a2⟩ := a; obtain ⟨b1, b2⟩ := b; simp [PyData.eqv, PyData.eqvAll, d.eqv, f.eqv]⟩
def deP3 {α β γ : Type} (d : DE α) (f : DE β) (g : DE γ) : DE (α × β × γ) := ⟨fun p => .tuple [d.e p.1, f.e p.2.1, g.e p.2.2], fun p => d.ok p.1 ∧ f.ok p.2.1 ∧ g.ok p.2.2, max d.dep (max f.dep g.dep) + 1, fun p h => by simp [PyData.canLay0, PyData.canLayAll0, d.lay _ h.1, f.lay _ h.2.1, g.lay _ h.2.2], fun p => by have h1 := d.dp p.1; have h2 := f.dp p.2.1; have h3 := g.dp p.2.2; simp only [PyData.depth, PyData.depthAll]; omega,
  fun a b => by obtain ⟨a1, a2, a3⟩ := a; obtain ⟨b1, b2, b3⟩ := b; simp [PyData.eqv, PyData.eqvAll, d.eqv, f.eqv, g.eqv]⟩
section
variable {K : PySem.W.Frag} {H : Hp}
theorem dpAll {α : Type} {d : DE α} : ∀ {l : List α} {ys : List V}, Paired (fun a y => Dp K H y (d.e a)) l ys → DpAll K H ys (l.map d.e)
  | _, _, .nil => .nil
  | _, _, .cons h t => .cons h (dpAll t)
theorem dpMap {α : Type} {d : DE α} {f : α → V} (h : ∀ a, Dp K H (f a) (d.e a)) (l : List α) : DpAll K H (l.map f) (l.map d.e) := dpAll (Paired.ofMap fun a _ => h a)
theorem dp_list {α : Type} {d : DE α} {l : List α} {ys : List V} {p : Addr} (h : SqL K H p ys) (q : Paired (fun a y => Dp K H y (d.e a)) l ys) : Dp K H (.ref p) ((deList d).e l) := .lst h (dpAll q)
theorem dp_tup {α : Type} {d : DE α} {l : List α} {ys : List V} {p : Addr} (h : SqT K H p ys) (q : Paired (fun a y => Dp K H y (d.e a)) l ys) : Dp K H (.ref p) ((deTup d).e l) := .tup h (dpAll q)
theorem dp_listF {α : Type} {d : DE α} {l : List α} {f : α → V} {p : Addr} (h : SqL K H p (l.map f)) (q : ∀ a, Dp K H (f a) (d.e a)) : Dp K H (.ref p) ((deList d).e l) := .lst h (dpMap q l)
theorem dp_tupF {α : Type} {d : DE α} {l : List α} {f : α → V} {p : Addr} (h : SqT K H p (l.map f)) (q : ∀ a, Dp K H (f a) (d.e a)) : Dp K H (.ref p) ((deTup d).e l) := .tup h (dpMap q l)
theorem dp_p2 {α β : Type} {d : DE α} {f : DE β} {a : α × β} {x y : V} {p : Addr} (h : SqT K H p [x, y]) (h1 : Dp K H x (d.e a.1)) (h2 : Dp K H y (f.e a.2)) : Dp K H (.ref p) ((deP2 d f).e a) := .tup h (.cons h1 (.cons h2 .nil))
theorem dp_p3 {α β γ : Type} {d : DE α} {f : DE β} {g : DE γ} {a : α × β × γ} {x y z : V} {p : Addr} (h : SqT K H p [x, y, z]) (h1 : Dp K H x (d.e a.1)) (h2 : Dp K H y (f.e a.2.1)) (h3 : Dp K H z (g.e a.2.2)) : Dp K H (.ref p) ((deP3 d f g).e a) := .tup h (.cons h1 (.cons h2 (.cons h3 .nil)))
theorem dp_nat (n : Nat) : Dp K H (.int (n : Int)) (deNat.e n) := .int _
theorem dp_str (n : Str) : Dp K H (.str n) (deStr.e n) := .str _
/-- == of data -/
theorem rd_eq {α : Type} [DecidableEq α] {d : DE α} (hd : d.dep ≤ 64) {a b : α} {x y : V} {Q : VK} (h1 : Dp K H x (d.e a)) (h2 : Dp K H y (d.e b)) (oa : d.ok a) (ob : d.ok b) (q : Q (.bl (decide (a = b))) H) : rEqD K x y H Q :=
  ⟨_, _, h1, h2, d.shaped hd a oa, d.shaped hd b ob, by rw [d.ev]; exact q⟩
theorem rd_ne {α : Type} [DecidableEq α] {d : DE α} (hd : d.dep ≤ 64) {a b : α} {x y : V} {Q : VK} (h1 : Dp K H x (d.e a)) (h2 : Dp K H y (d.e b)) (oa : d.ok a) (ob : d.ok b) (q : Q (.bl (!decide (a = b))) H) : rNeD K x y H Q :=
  ⟨_, _, h1, h2, d.shaped hd a oa, d.shaped hd b ob, by rw [d.ev]; exact q⟩
end
end PMT

set_option Elab.async false
set_option linter.all false
set_option maxRecDepth 100000
set_option maxHeartbeats 2000000
/-! W1: wishes. -/
namespace PMT
open PySem PySem.Spec PyProof.Rows L2

abbrev iv (n : Nat) : V := .int (n : Int)
def rk (l : List Nat) : List (Key × V) := l.zipIdx.map fun (p : Nat × Nat) => (Sum.inl (p.1 : Int), iv p.2)
theorem rk_len {l : List Nat} : (rk l).length = l.length := by simp [rk]
theorem rk_keys {l : List Nat} : (rk l).map (·.1) = l.map fun (n : Nat) => (Sum.inl (n : Int) : Key) := by
  have : ∀ (l : List Nat) k, (l.zipIdx k).map (fun (p : Nat × Nat) => (Sum.inl (p.1 : Int) : Key)) = l.map fun (n : Nat) => (Sum.inl (n : Int) : Key) := by
    intro l
    induction l with
    | nil => intro k; rfl
    | cons a r ih => intro k; simp [ih]
  have h := this l 0
  unfold rk
  rw [List.map_map]
  exact h
theorem List.idxOf_cons_ne' {a n : Nat} {r : List Nat} (e : a ≠ n) : (a :: r).idxOf n = r.idxOf n + 1 := by
  rw [List.idxOf_cons]
  have : (a == n) = false := by simpa using e
  rw [this]; rfl
theorem valV_rk {l : List Nat} {n : Nat} : valV (rk l) (Sum.inl (n : Int)) = if n ∈ l then some (iv (l.idxOf n)) else none := by
  have : ∀ (l : List Nat) k, valV ((l.zipIdx k).map fun p => ((Sum.inl (p.1 : Int) : Key), iv p.2)) (Sum.inl (n : Int)) = if n ∈ l then some (iv (l.idxOf n + k)) else none := by
    intro l
    induction l with
    | nil => intro k; rfl
    | cons a r ih =>
      intro k
      rw [List.zipIdx_cons, List.map_cons]
      by_cases e : a = n
      · subst e
        rw [valV_pos rfl]; simp
      · rw [valV_neg (fun z => e (Int.ofNat.inj (Sum.inl.inj z))), ih]
        by_cases h : n ∈ r
        · rw [if_pos h, if_pos (List.mem_cons_of_mem _ h), List.idxOf_cons_ne' e]
          simp [iv]; omega
        · rw [if_neg h, if_neg (by simp [Ne.symm e, h])]
  simpa [rk] using this l 0
theorem mergeK_app : ∀ {b a : List (Key × V)}, ((a ++ b).map (·.1)).Nodup → mergeK a b = a ++ b
  | [], a, _ => by simp [mergeK]
  | p :: r, a, h => by
    have hn : valV a p.1 = none := by
      cases e : valV a p.1 with
      | none => rfl
      | some v =>
        have h1 : (a.any fun kv => decide (kv.1 = p.1)) = true := by rw [valV_any, e]; rfl
        obtain ⟨q, hq, e2⟩ := List.any_eq_true.mp h1
        rw [List.map_append, List.nodup_append] at h
        exact absurd (of_decide_eq_true e2) (h.2.2 q.1 (List.mem_map_of_mem hq) p.1 (by simp))
    show mergeK (putK a p.1 p.2) r = _
    rw [putK_new p.2 hn, mergeK_app (by simpa using h)]
    simp
theorem mergeK_self {b : List (Key × V)} (h : (b.map (·.1)).Nodup) : mergeK [] b = b := by
  have := mergeK_app (a := []) (b := b) (by simpa using h)
  simpa using this

def WishAt (K : PySem.W.Frag) (H : Hp) (a : Addr) (l : List Nat) : Prop :=
  ∃ dx o r, H a = some (.ins (He.ga K "Wish") dx [("order", .ref o), ("ranks", .ref r)]) ∧ SqT K H o (l.map iv) ∧ H r = some (.dK (rk l)) ∧ l.length ≤ 64
theorem WishAt.ex {K T H H' a l} (h : WishAt K H a l) (e : Ex T H H') : WishAt K H' a l := by
  obtain ⟨dx, o, r, h1, h2, h3, h4⟩ := h
  exact ⟨dx, o, r, Ex.k e h1, Ex.sqT e h2, Ex.k e h3, h4⟩
theorem Ch.made {T : List (Addr × Str)} {H1 H' : Hp} {x dx : Addr} {o u : HO} (h : Ch T (fun b => b = x) (upd (upd H1 dx o) x u) H') (h1 : H1 x = none) (h2 : H1 dx = none) : Ex T H1 H' := by
  refine ⟨fun b v e n _ => h.kp b v ?_ n (ne_of_none e h1), h.tb⟩
  rw [upd_ne (ne_of_none e h1), upd_ne (ne_of_none e h2)]
  exact e
theorem small {n : Nat} (h : n ≤ 64) : n < sizeLine := by rw [sizeLine_eq]; omega
theorem small' {n : Nat} (h : n ≤ 64) : n ≤ sizeLine := by rw [sizeLine_eq]; omega

section
variable {P : Program} {w : World} {K : PySem.W.Frag} {mg : Str → Option Value} {base : Heap}
def spWish_init (K : PySem.W.Frag) : Sp := fun vs H Q _ => ∃ x o dx l, vs = [.ref x, .ref o] ∧ H x = some (.ins (He.ga K "Wish") dx []) ∧ SqT K H o (l.map iv) ∧ l.Nodup ∧ l.length ≤ 64 ∧ LamX.Tabs (TL K) H ∧
  ∀ H', Ch (TL K) (fun b => b = x) H H' → WishAt K H' x l → Q .non H'
theorem ok_Wish_init (t : TX K mg base) : Does P w K mg base CX0 2 ("Wish", some "__init__") ["self", "order"] (spWish_init K) := by
  have nd := (sc_Wish_init).nd
  refine t.do_Wish_init (fun vs H Q E h => by obtain ⟨_, _, _, _, rfl, _⟩ := h; rfl) fun A outer s H vs Q E hr h => ⟨_, PSs.nox ((pss_cons (ps_fld (pv 0) (pe_callTy (call_tupleK K rfl) (by rfl) t.n_tuple (by decide +kernel) (pa_cons (pv 1) pa_nil)) rfl) (pss_one (ps_fld (pv 0) (pe_callTy (call_dictP rfl) (by rfl) t.n_dict (by decide +kernel) (pa_cons (pe_lc (X := ((X_Wish_init CX0 P w K mg base A outer s H E).nox)) (own := [("place", 2), ("one", 3)]) (g := (gTup K 2 (gCons (gName 2) (gCons (gName 3) gNil)))) rfl nd (pi_enumTK K rfl (by rfl) t.n_enumerate (pa_cons (pe_fldK K rfl (pv 0) rfl) pa_nil)) (blkOk_by (own := [("place", 2), ("one", 3)]) (N := ["self", "order", "place", "one"]) (sc := defScope PMH.s_Wish_init) (by decide +kernel)) (fun s1 H1 C1 l1 p1 => (pg_tup rfl (pgs_cons (pg_name (i := 2) nd rfl (Or.inl rfl)) (pgs_cons (pg_name (i := 3) nd rfl (Or.inl rfl)) pgs_nil)))) (fun s1 H1 C1 l1 p1 => pts_nil) (fun s1 H1 C1 l1 p1 => (pe_tup (pa_cons (pv 3) (pa_cons (pv 2) pa_nil))))) pa_nil)) rfl)))), ?_⟩
  obtain ⟨x, o, dx, l, rfl, hx, ho, hnd, hl, hT, hQ⟩ := h
  refine ⟨_, rfl, _, _, rfl, .inr ⟨ho, _, rfl, _, _, _, _, rfl, hx, t.c_Wish, t.a_Wish_order, by decide, ?_⟩⟩
  have ho1 : SqT K (upd H x (.ins (He.ga K "Wish") dx [("order", .ref o)])) o (l.map iv) := by
    rcases ho with (ho | ⟨ob, ho⟩) | ho
    · exact .inl (.inl (by rw [upd_ne (ne_of ho hx nofun)]; exact ho))
    · exact .inl (.inr ⟨ob, by rw [upd_ne (ne_of ho hx nofun)]; exact ho⟩)
    · exact .inr ho
  have c1 : Ch (TL K) (fun b => b = x) H (upd H x (.ins (He.ga K "Wish") dx [("order", .ref o)])) := Ch.put (Ch.refl hT) hx nt_ins (.inr rfl)
  refine ⟨_, rfl, _, _, _, _, _, rfl, upd_same, t.c_Wish, t.a_Wish_order, rfl, _, _, rfl, ho1, fun D hD => ?_⟩
  refine lcx RX.walk_enumT (ls := l.zipIdx) (by simp) (fun _ => true) (fun p v H => ∃ q, v = .ref q ∧ H q = some (.tup [iv p.1, iv p.2])) c1.tb hD (fun H e => Ex.sqT e ho1) (by simpa using small hl) ?_ ?_ ?_
  · intro a y H H' c ⟨zs, hz⟩ ⟨q, e, hq⟩
    exact ⟨q, e, c.k hq (ne_of hq hz nofun)⟩
  · intro i a v H2 H3 N M ha e hY hz _ hM
    obtain ⟨a1, a2⟩ := a
    obtain ⟨rfl, hli⟩ := zip_at ha
    obtain ⟨T, rfl, hTn, rfl⟩ := yenum hli hY
    have e3 : Ex (TL K) H2 (upd H2 T (.tup [.int (a2 : Nat), iv a1])) := (Ch.refl e.tb).new hTn
    refine ⟨T, _, rfl, SqT.of upd_same, rfl, _, _, rfl, _, _, rfl, rfl, rfl, ?_⟩
    refine ⟨_, rfl, _, rfl, by show 2 ≤ sizeLine; decide, fun p hp => ?_⟩
    exact hM rfl _ _ (e3.new hp) ⟨p, rfl, upd_same⟩
  · intro H2 ys e hD2 hp
    have e0 : l.zipIdx.filter (fun _ => true) = l.zipIdx := by simp
    rw [e0] at hp
    obtain ⟨as, has, hps⟩ := dpairs (K := K) (k := fun p : Nat × Nat => Sum.inl (p.1 : Int)) (u := fun p : Nat × Nat => iv p.2) hp
    subst has
    refine ⟨D, as, rk l, rfl, SqL.of hD2, hps, fun r hr => ?_⟩
    rw [mergeK_self (by rw [rk_keys]; exact hnd.map _ fun a b h z => h (Int.ofNat.inj (Sum.inl.inj z)))]
    have c2 : Ch (TL K) (fun b => b = x) H (upd H2 r (.dK (rk l))) := (c1.trans e.weak).new hr
    have hx2 : upd H2 r (.dK (rk l)) x = some (.ins (He.ga K "Wish") dx [("order", .ref o)]) := by
      have := Ex.k e (upd_same (H := H) (a := x))
      rw [upd_ne (ne_of_none this hr)]; exact this
    refine ⟨_, rfl, _, _, _, _, rfl, hx2, t.c_Wish, t.a_Wish_ranks, by show 1 < 1000; decide, ?_⟩
    have nr : r ≠ x := fun z => by subst z; rw [upd_same] at hx2; cases hx2
    refine hQ _ (Ch.put c2 hx2 nt_ins (.inr rfl)) ⟨dx, o, r, upd_same, ?_, by rw [upd_ne nr, upd_same], hl⟩
    have ho2 := Ex.sqT (e.new (o := .dK (rk l)) hr) ho1
    rcases ho2 with (ho | ⟨ob, ho⟩) | ho
    · exact .inl (.inl (by rw [upd_ne (ne_of ho hx2 nofun)]; exact ho))
    · exact .inl (.inr ⟨ob, by rw [upd_ne (ne_of ho hx2 nofun)]; exact ho⟩)
    · exact .inr ho

/-- a place, or nothing -/
abbrev ov : Option Nat → V
  | none => .non
  | some n => iv n
def rankOf (l : List Nat) : Option Nat → Option Nat
  | none => some l.length
  | some n => if n ∈ l then some (l.idxOf n) else none
def spWish_has (K : PySem.W.Frag) : Sp := fun vs H Q _ => ∃ a n l, vs = [.ref a, iv n] ∧ WishAt K H a l ∧ Q (.bl (decide (n ∈ l))) H
theorem ok_Wish_has (t : TX K mg base) : Does P w K mg base CX0 2 ("Wish", some "has") ["self", "one"] (spWish_has K) := by
  have nd := (sc_Wish_has).nd
  refine t.do_Wish_has (fun vs H Q E h => by obtain ⟨_, _, _, rfl, _⟩ := h; rfl) fun A outer s H vs Q E hr h => ⟨_, PSs.nox ((pss_one (ps_ret (pe_cmp (pc_din (hu_of hr) (pv 1) (pe_fldK K rfl (pv 0) rfl)) (by rfl))))), ?_⟩
  obtain ⟨a, n, l, rfl, ⟨dx, o, r, h1, h2, h3, h4⟩, hQ⟩ := h
  refine ⟨_, rfl, _, rfl, _, _, _, _, _, rfl, h1, t.c_Wish, t.a_Wish_ranks, rfl, r, _, rfl, DGet.k (k := Sum.inl (n : Int)) h3, ?_⟩
  rw [valV_rk]
  by_cases h : n ∈ l
  · rw [if_pos h]; simpa [h] using hQ
  · rw [if_neg h]; simpa [h] using hQ
def spWish_rank (K : PySem.W.Frag) : Sp := fun vs H Q _ => ∃ a x l, vs = [.ref a, ov x] ∧ WishAt K H a l ∧ Q (ov (rankOf l x)) H
theorem ok_Wish_rank (t : TX K mg base) : Does P w K mg base CX0 2 ("Wish", some "rank") ["self", "one"] (spWish_rank K) := by
  have nd := (sc_Wish_rank).nd
  refine t.do_Wish_rank (fun vs H Q E h => by obtain ⟨_, _, _, rfl, _⟩ := h; rfl) fun A outer s H vs Q E hr h => ⟨_, PSs.nox ((pss_one (ps_ret (pe_ifExp (pt_cmpR op_isN (pv 1) pe_non (nomark _)) (pe_callB (call_lenK K rfl) (by rfl) t.n_len PySem.boot_len (pa_cons (pe_fldK K rfl (pv 0) rfl) pa_nil)) (pe_dget1 (hu_of hr) (pe_fldK K rfl (pv 0) rfl) (pv 1) ⟨by rfl, by rfl, by rfl, by rfl⟩))))), ?_⟩
  obtain ⟨a, x, l, rfl, ⟨dx, o, r, h1, h2, h3, h4⟩, hQ⟩ := h
  refine ⟨_, rfl, rfl, _, rfl, ?_⟩
  cases x with
  | none =>
    refine iteT ⟨_, rfl, _, _, _, _, _, rfl, h1, t.c_Wish, t.a_Wish_order, rfl, o, _, rfl, .inr h2, ?_⟩
    simpa [rankOf] using hQ
  | some n =>
    refine iteF ⟨_, rfl, _, _, _, _, _, rfl, h1, t.c_Wish, t.a_Wish_ranks, rfl, r, rfl, .inl ⟨_, .of h3⟩, _, rfl, _, DGet.k (k := Sum.inl (n : Int)) h3, ?_⟩
    rw [valV_rk]
    by_cases h : n ∈ l
    · rw [if_pos h]; simpa [h, rankOf] using hQ
    · rw [if_neg h]; simpa [h, rankOf] using hQ
def betterB (l : List Nat) (x y : Option Nat) : Bool := match rankOf l x, rankOf l y with
  | none, _ => false
  | some _, none => true
  | some i, some j => decide (i < j)
def spWish_better (K : PySem.W.Frag) : Sp := fun vs H Q _ => ∃ a x y l, vs = [.ref a, ov x, ov y] ∧ WishAt K H a l ∧ Q (.bl (betterB l x y)) H
theorem ok_Wish_better (t : TX K mg base) : Does P w K mg base CX0 3 ("Wish", some "better") ["self", "one", "other"] (spWish_better K) := by
  obtain ⟨fd_Wish_rank, G_Wish_rank, b_Wish_rank, p_Wish_rank⟩ := ok_Wish_rank (P := P) (w := w) t
  have nd := (sc_Wish_better).nd
  refine t.do_Wish_better (fun vs H Q E h => by obtain ⟨_, _, _, _, rfl, _⟩ := h; rfl) fun A outer s H vs Q E hr h => ⟨_, PSs.nox ((pss_cons (ps_par (by rfl) nd (i := 3) (j := 4) rfl rfl (by decide) rfl rfl (pa_cons (pe_meth (pv 0) t.c_Wish t.m_Wish_rank G_Wish_rank (hr.mono (by decide)) b_Wish_rank .nil pass0 (pa_cons (pv 1) pa_nil)) (pa_cons (pe_meth (pv 0) t.c_Wish t.m_Wish_rank G_Wish_rank (hr.mono (by decide)) b_Wish_rank .nil pass0 (pa_cons (pv 2) pa_nil)) pa_nil)) (by rfl)) (pss_one (ps_ret (pe_and (pe_cmpR op_notN (pv 3) pe_non (nomark _)) (pe_one (pe_or (pe_cmpR op_isN (pv 4) pe_non (nomark _)) (pe_one (pe_cmpR op_lt (pv 3) (pv 4) (nomark _)))))))))), ?_⟩
  obtain ⟨a, x, y, l, rfl, hw, hQ⟩ := h
  obtain ⟨dx, o, r, h1, h2, h3, h4⟩ := id hw
  refine ⟨_, rfl, a, _, _, rfl, h1, rfl, _, rfl, a, x, l, rfl, hw, ?_⟩
  refine ⟨_, rfl, a, _, _, rfl, h1, rfl, _, rfl, a, y, l, rfl, hw, _, _, rfl, ?_⟩
  unfold betterB at hQ
  cases hx : rankOf l x with
  | none =>
    rw [hx] at hQ
    exact ⟨_, rfl, rfl, _, rfl, iteF hQ⟩
  | some i =>
    rw [hx] at hQ
    refine ⟨_, rfl, rfl, _, rfl, iteT ⟨_, rfl, rfl, _, rfl, ?_⟩⟩
    cases hy : rankOf l y with
    | none => rw [hy] at hQ; exact iteT hQ
    | some j =>
      rw [hy] at hQ
      refine iteF ⟨_, rfl, _, rfl, _, _, rfl, rfl, ?_⟩
      simpa using hQ
theorem cutV_to {xs : List V} {i : Nat} (h : i ≤ xs.length) : cutV xs none (some (i : Int)) = xs.take i := by
  unfold cutV
  rw [HT.sIx_none, HT.sIx_nat, List.drop_zero, Nat.sub_zero, Nat.min_eq_left h]
def aheadOf (l : List Nat) (x : Option Nat) : List Nat := match rankOf l x with
  | none => l
  | some i => l.take i
def spWish_ahead_of (K : PySem.W.Frag) : Sp := fun vs H Q _ => ∃ a x l, vs = [.ref a, ov x] ∧ WishAt K H a l ∧ LamX.Tabs (TL K) H ∧ ∀ p H', Ex (TL K) H H' → SqT K H' p ((aheadOf l x).map iv) → Q (.ref p) H'
theorem ok_Wish_ahead_of (t : TX K mg base) : Does P w K mg base CX0 3 ("Wish", some "ahead_of") ["self", "one"] (spWish_ahead_of K) := by
  obtain ⟨fd_Wish_rank, G_Wish_rank, b_Wish_rank, p_Wish_rank⟩ := ok_Wish_rank (P := P) (w := w) t
  have nd := (sc_Wish_ahead_of).nd
  refine t.do_Wish_ahead_of (fun vs H Q E h => by obtain ⟨_, _, _, rfl, _⟩ := h; rfl) fun A outer s H vs Q E hr h => ⟨_, PSs.nox ((pss_cons (ps_set (i := 2) nd rfl (Or.inl rfl) (pe_meth (pv 0) t.c_Wish t.m_Wish_rank G_Wish_rank (hr.mono (by decide)) b_Wish_rank .nil pass0 (pa_cons (pv 1) pa_nil))) (pss_one (ps_ret (pe_ifExp (pt_cmpR op_isN (pv 2) pe_non (nomark _)) (pe_fldK K rfl (pv 0) rfl) (pe_slice (sl_tupK K rfl) (pe_fldK K rfl (pv 0) rfl) po_none (po_some (pv 2)))))))), ?_⟩
  obtain ⟨a, x, l, rfl, hw, hT, hQ⟩ := h
  obtain ⟨dx, o, r, h1, h2, h3, h4⟩ := id hw
  refine ⟨_, rfl, a, _, _, rfl, h1, rfl, _, rfl, a, x, l, rfl, hw, ?_⟩
  unfold aheadOf at hQ
  cases hx : rankOf l x with
  | none =>
    rw [hx] at hQ
    exact ⟨_, rfl, rfl, _, rfl, iteT ⟨_, rfl, _, _, _, _, _, rfl, h1, t.c_Wish, t.a_Wish_order, rfl, hQ _ _ (Ch.refl hT) h2⟩⟩
  | some i =>
    rw [hx] at hQ
    have hi : i ≤ l.length := by
      cases x with
      | none => simp [rankOf] at hx; omega
      | some n =>
        by_cases h : n ∈ l
        · have := List.idxOf_lt_length_of_mem h
          simp [rankOf, h] at hx; omega
        · simp [rankOf, h] at hx
    refine ⟨_, rfl, rfl, _, rfl, iteF ⟨_, rfl, _, _, _, _, _, rfl, h1, t.c_Wish, t.a_Wish_order, rfl, _, rfl, _, rfl, o, _, rfl, h2, fun hw => ?_, fun _ p hp => ?_⟩⟩
    · refine hQ _ _ (Ch.refl hT) ?_
      rw [HT.sIx_nat, Nat.min_eq_left (by simpa using hi)] at hw
      have : i = l.length := by simpa using hw.2
      rw [this]
      show SqT K H o ((l.take l.length).map iv)
      rw [List.take_length]
      exact h2
    · refine hQ _ _ ((Ch.refl hT).new hp) (.inl (.inl ?_))
      rw [cutV_to (by simpa using hi), ← List.map_take]
      exact upd_same
def spWish_worst (K : PySem.W.Frag) : Sp := fun vs H Q _ => ∃ (a p : Addr) (xs l : List Nat), vs = [.ref a, .ref p] ∧ SqT K H p (xs.map iv) ∧ WishAt K H a l ∧ xs.length ≤ 64 ∧ LamX.Tabs (TL K) H ∧ ∀ y H', Ex (TL K) H H' → ((∀ m ∈ xs, m ∉ l) → y = .non) →
  ((∃ m ∈ xs, m ∈ l) → ∃ n, y = iv n ∧ n ∈ xs ∧ n ∈ l ∧ ∀ m ∈ xs, m ∈ l → l.idxOf m ≤ l.idxOf n) → Q y H'
theorem ok_Wish_worst (t : TX K mg base) : Does P w K mg base CX0 5 ("Wish", some "worst") ["self", "ones"] (spWish_worst K) := by
  have nd := (sc_Wish_worst).nd
  refine t.do_Wish_worst (fun vs H Q E h => by obtain ⟨_, _, _, _, rfl, _⟩ := h; rfl) fun A outer s H vs Q E hr h => ⟨_, PSs.nox ((pss_cons (ps_setLc (X := ((X_Wish_worst CX0 P w K mg base A outer s H E).nox)) (i := 2) (own := [("one", 3)]) (g := (gName 3)) rfl nd rfl rfl (sw_true rfl rfl rfl (by decide +kernel)) (pi_tupK K rfl (pv 1)) (blkOk_by (own := [("one", 3)]) (N := ["self", "ones", "listed", "one"]) (sc := defScope PMH.s_Wish_worst) (by decide +kernel)) (fun s1 H1 C1 l1 p1 => (pg_name (i := 3) nd rfl (Or.inl rfl))) (fun s1 H1 C1 l1 p1 => (pts_one (pt_cmp (pc_din (hu_of hr) (pv 3) (pe_fldK K rfl (pv 0) rfl))))) (fun s1 H1 C1 l1 p1 => (pv 3))) (pss_one (ps_ret (pe_ifExp (pt_cmpR (op_eqDK K rfl hr.units) (pv 2) (pe_lst pa_nil) (nomark _)) pe_non (LX.pe_maxLam (x := "one") (k := 1) (ix := 3) (T := TL K) (by rfl) (by rfl) (by rfl) t.n_max (pv 2) t.t_Wish_worst (by rfl) t.tm_Wish_worst (t.tu t.tm_Wish_worst) (hr.mono (by decide)) (LX.l1s_by (N := ["self", "ones", "listed", "one"]) (sc := defScope PMH.s_Wish_worst) (by decide +kernel)) (by rfl) (fun _ _ _ _ _ _ => by rfl) (fun _ _ _ _ _ _ hr2 => (pe_dget (hu_of hr2) (pe_fldK K rfl (pv 0) rfl) (pv 3) (fun _ _ => rfl))))))))), ?_⟩
  obtain ⟨a, p, xs, l, rfl, hp, hw, hxl, hT, hQ⟩ := h
  obtain ⟨dx, o, r_, h1, h2, h3, h4⟩ := id hw
  refine ⟨_, rfl, p, rfl, ⟨_, hp⟩, fun D hD => ?_⟩
  have key : ∀ {n : Nat} {H' : Hp}, Ex (TL K) H H' → DGet H' r_ (iv n) (if n ∈ l then some (iv (l.idxOf n)) else none) := fun {n H'} e => by
    rw [← valV_rk]; exact DGet.k (k := Sum.inl (n : Int)) (Ex.k e h3)
  refine lcf walk_tup (ls := xs) (by simp) (fun x => decide (x ∈ l)) iv hT hD (fun H e => Ex.sqT e hp) (small hxl) ?_ ?_
  · intro i n v H1 H2 N M hn e hY hN hM
    obtain ⟨rfl, rfl⟩ := yat hn hY
    refine ⟨rfl, _, rfl, _, rfl, a, _, dx, _, _, rfl, Ex.k e h1, t.c_Wish, t.a_Wish_ranks, rfl, r_, _, rfl, key e, _, rfl, ?_⟩
    by_cases h : n ∈ l
    · rw [if_pos h]
      exact ⟨_, rfl, hM (by simp [h]) _ (Ch.refl e.tb)⟩
    · rw [if_neg h]
      exact hN (by simp [h]) _ (Ch.refl e.tb)
  · intro H1 e hD1
    have hmem : ∀ n, n ∈ xs.filter (fun x => decide (x ∈ l)) ↔ n ∈ xs ∧ n ∈ l := fun n => by simp
    have hyl : (xs.filter (fun x => decide (x ∈ l))).length ≤ 64 := Nat.le_trans (List.length_filter_le _ _) hxl
    generalize hys : xs.filter (fun x => decide (x ∈ l)) = ys at hD1 hmem hyl
    refine ⟨_, rfl, by show 0 ≤ sizeLine; exact Nat.zero_le _, fun q hq => ?_⟩
    have e2 : Ex (TL K) H1 (upd H1 q (.lst [])) := (Ch.refl e.tb).new hq
    have hD2 := Ex.k e2 hD1
    refine rd_eq (d := deList deNat) (a := ys) (b := []) (by decide) (dp_listF (SqL.of hD2) dp_nat) (dp_listF (l := []) (f := iv) (SqL.of upd_same) dp_nat) (fun _ _ => trivial) (fun _ _ => trivial) ⟨_, rfl, ?_⟩
    cases ys with
    | nil => exact hQ _ _ (e.trans e2) (fun _ => rfl) fun ⟨m, h1, h2⟩ => absurd ((hmem m).mpr ⟨h1, h2⟩) (by simp)
    | cons b r =>
      rw [decide_eq_false (by simp)]
      refine ⟨_, rfl, D, _, fun v => match v with | .int i => ((l.idxOf i.toNat : Nat) : Int) | _ => 0, rfl, SqL.of hD2, by simp, e2.tb, fun H3 e3 t3 => ⟨fun y hy => ?_, fun y hy hb => ?_⟩⟩
      · obtain ⟨n, hn, rfl⟩ := List.mem_map.mp hy
        have hnl := ((hmem n).mp hn).2
        have e4 : Ex (TL K) H H3 := (e.trans e2).ext e3 t3
        have hd := key (n := n) e4
        rw [if_pos hnl] at hd
        exact ⟨_, rfl, a, _, dx, _, _, rfl, Ex.k e4 h1, t.c_Wish, t.a_Wish_ranks, rfl, _, rfl, r_, _, rfl, hd, rfl, by simp [iv]⟩
      · obtain ⟨n, hn, rfl⟩ := List.mem_map.mp hy
        refine hQ _ _ ((e.trans e2).ext e3 t3) (fun hno => absurd ((hmem n).mp hn).2 (hno n ((hmem n).mp hn).1)) fun _ => ⟨n, rfl, ((hmem n).mp hn).1, ((hmem n).mp hn).2, fun m h1 h2 => ?_⟩
        have := hb (iv m) (List.mem_map.mpr ⟨m, (hmem m).mpr ⟨h1, h2⟩, rfl⟩)
        simp [iv] at this
        omega
end
end PMT

set_option Elab.async false
set_option linter.all false
set_option maxRecDepth 100000
set_option maxHeartbeats 2000000
/-! W2: markets. -/
namespace PMT
open PySem PySem.Spec PyProof.Rows L2

theorem ip_cat {X : Cx} : PIp X .Add rExt2 := fun pins s σ H x y v u Q I rx ry h => iop_ext pins s σ H x y v u Q I rx ry h
/-- a market by numbers -/
structure NM where
  ls : List (List Nat)
  os : List (List Nat)
  qs : List Nat
def NM.l (m : NM) (k : Nat) : List Nat := m.ls.getD k []
def NM.o (m : NM) (r : Nat) : List Nat := m.os.getD r []
def NM.q (m : NM) (r : Nat) : Nat := m.qs.getD r 0
structure NM.Ok (m : NM) : Prop where
  lnd : ∀ l ∈ m.ls, l.Nodup ∧ l.length ≤ 64 ∧ ∀ r ∈ l, r < m.os.length
  ond : ∀ l ∈ m.os, l.Nodup ∧ l.length ≤ 64 ∧ ∀ r ∈ l, r < m.ls.length
  len : m.qs.length = m.os.length
  l64 : m.ls.length ≤ 64
  o64 : m.os.length ≤ 64
theorem NM.l_at {m : NM} {k : Nat} {l : List Nat} (h : m.ls[k]? = some l) : m.l k = l := by
  unfold NM.l; rw [List.getD_eq_getElem?_getD, h]; rfl
theorem NM.o_at {m : NM} {k : Nat} {l : List Nat} (h : m.os[k]? = some l) : m.o k = l := by
  unfold NM.o; rw [List.getD_eq_getElem?_getD, h]; rfl
theorem NM.q_at {m : NM} {k : Nat} {l : Nat} (h : m.qs[k]? = some l) : m.q k = l := by
  unfold NM.q; rw [List.getD_eq_getElem?_getD, h]; rfl
theorem NM.at_l {m : NM} {k : Nat} (h : k < m.ls.length) : m.ls[k]? = some (m.l k) := by
  unfold NM.l; rw [List.getD_eq_getElem?_getD, List.getElem?_eq_getElem h]; rfl
theorem NM.at_o {m : NM} {k : Nat} (h : k < m.os.length) : m.os[k]? = some (m.o k) := by
  unfold NM.o; rw [List.getD_eq_getElem?_getD, List.getElem?_eq_getElem h]; rfl
theorem NM.at_q {m : NM} {k : Nat} (h : k < m.qs.length) : m.qs[k]? = some (m.q k) := by
  unfold NM.q; rw [List.getD_eq_getElem?_getD, List.getElem?_eq_getElem h]; rfl
def MktAt (K : PySem.W.Frag) (H : Hp) (x : Addr) (m : NM) : Prop :=
  ∃ dx a b c ws vs, H x = some (.ins (He.ga K "Market") dx [("askers", .ref a), ("rooms", .ref b), ("seats", .ref c)]) ∧ H a = some (.lst (ws.map V.ref)) ∧ Paired (fun p l => WishAt K H p l) ws m.ls ∧
    H b = some (.lst (vs.map V.ref)) ∧ Paired (fun p l => WishAt K H p l) vs m.os ∧ SqT K H c (m.qs.map iv)
theorem MktAt.ex {K T H H' x m} (h : MktAt K H x m) (e : Ex T H H') : MktAt K H' x m := by
  obtain ⟨dx, a, b, c, ws, vs, h1, h2, h3, h4, h5, h6⟩ := h
  exact ⟨dx, a, b, c, ws, vs, Ex.k e h1, Ex.k e h2, Paired.mapP h3 fun _ _ z => z.ex e, Ex.k e h4, Paired.mapP h5 fun _ _ z => z.ex e, Ex.sqT e h6⟩
/-- an address of a wish -/
theorem wish_at {K : PySem.W.Frag} {H : Hp} {ws : List Addr} {ls : List (List Nat)} (h : Paired (fun p l => WishAt K H p l) ws ls) {k : Nat} {l : List Nat} (e : ls[k]? = some l) : ∃ p, ws[k]? = some p ∧ atI (ws.map V.ref) (k : Int) = some (.ref p) ∧ WishAt K H p l := by
  obtain ⟨p, h1, h2⟩ := Paired.get h e
  exact ⟨p, h1, atI_nat (by simp [h1]), h2⟩

section
variable {P : Program} {w : World} {K : PySem.W.Frag} {mg : Str → Option Value} {base : Heap}
def spCheckList (K : PySem.W.Frag) : Sp := fun vs H Q _ => ∃ (a : Addr) (n : Nat) (l : List Nat), vs = [.ref a, iv n] ∧ SqL K H a (l.map iv) ∧ l.Nodup ∧ l.length ≤ 64 ∧ (∀ x ∈ l, x < n) ∧ LamX.Tabs (TL K) H ∧ ∀ p H', Ex (TL K) H H' → SqT K H' p (l.map iv) → Q (.ref p) H'
theorem ok_check_list (t : TX K mg base) : Does P w K mg base CX0 5 ("check_list", none) ["order", "many"] (spCheckList K) := by
  have nd := (sc_check_list).nd
  refine t.do_check_list (fun vs H Q E h => by obtain ⟨_, _, _, rfl, _⟩ := h; rfl) fun A outer s H vs Q E hr h => ⟨_, PSs.nox ((pss_cons (ps_set (i := 2) nd rfl (Or.inl rfl) (pe_callTy (call_tupleK K rfl) (by rfl) t.n_tuple (by decide +kernel) (pa_cons (pv 0) pa_nil))) (pss_cons (ps_if (pt_cmpR op_ne (pe_callB call_lenD (by rfl) t.n_len PySem.boot_len (pa_cons (pe_callTy (call_dictP rfl) (by rfl) t.n_dict (by decide +kernel) (pa_cons (pe_lc (X := ((X_check_list CX0 P w K mg base A outer s H E).nox)) (own := [("one", 3)]) (g := (gName 3)) rfl nd (pi_tupK K rfl (pv 2)) (blkOk_by (own := [("one", 3)]) (N := ["order", "many", "found", "one"]) (sc := defScope PMH.s_check_list) (by decide +kernel)) (fun s1 H1 C1 l1 p1 => (pg_name (i := 3) nd rfl (Or.inl rfl))) (fun s1 H1 C1 l1 p1 => pts_nil) (fun s1 H1 C1 l1 p1 => (pe_tup (pa_cons (pv 3) (pa_cons pe_int pa_nil))))) pa_nil)) pa_nil)) (pe_callB (call_lenK K rfl) (by rfl) t.n_len PySem.boot_len (pa_cons (pv 2) pa_nil)) (nomark _)) (pss_one ps_never) pss_nil) (pss_cons (ps_if (pt_val (GX.pe_anyG (k := 1) (ix := 3) (T := TL K) (hr.mono (by decide)) (by rfl) (by rfl) t.n_any t.t_check_list (by rfl) t.tm_check_list (t.tu t.tm_check_list) (GX.gsc_by (N := ["order", "many", "found", "one"]) (sc := defScope PMH.s_check_list) (by decide +kernel)) (pi_tupK K rfl (pv 2)) (fun _ _ _ _ _ _ hr2 => (pe_not (pe_chain op_le op_lt pe_int (pv 3) (pv 1)))))) (pss_one ps_never) pss_nil) (pss_one (ps_ret (pv 2))))))), ?_⟩
  obtain ⟨a, n, l, rfl, ha, hnd, hl, hlt, hT, hQ⟩ := h
  refine ⟨_, rfl, a, _, rfl, .inl ⟨ha, fun f hf => ?_⟩⟩
  have e1 : Ex (TL K) H (upd H f (.tup (l.map iv))) := (Ch.refl hT).new hf
  have f1 : SqT K (upd H f (.tup (l.map iv))) f (l.map iv) := SqT.of upd_same
  -- the dict of pairs
  refine ⟨_, rfl, f, rfl, ⟨_, f1⟩, fun D hD => ?_⟩
  refine lcx walk_tup (ls := l) (by simp) (fun _ => true) (fun (p : Nat) v H => ∃ q, v = .ref q ∧ H q = some (.tup [iv p, iv 1])) e1.tb hD (fun H e => Ex.sqT e f1) (small hl) ?_ ?_ ?_
  · intro a y H H' c ⟨zs, hz⟩ ⟨q, e, hq⟩
    exact ⟨q, e, c.k hq (ne_of hq hz nofun)⟩
  · intro i x v H2 H3 N M ha e hY _ _ hM
    obtain ⟨rfl, rfl⟩ := yat ha hY
    exact ⟨rfl, _, rfl, by show 2 ≤ sizeLine; decide, fun p hp => hM rfl _ _ ((Ch.refl e.tb).new hp) ⟨p, rfl, upd_same⟩⟩
  intro H2 ys e hD2 hp
  have e0 : l.filter (fun _ => true) = l := by simp
  rw [e0] at hp
  obtain ⟨as, has, hps⟩ := dpairs (K := K) (k := fun (p : Nat) => Sum.inl (p : Int)) (u := fun _ => iv 1) hp
  subst has
  refine ⟨D, as, _, rfl, SqL.of hD2, hps, fun r hr => ?_⟩
  have kn : ((l.map fun (p : Nat) => ((Sum.inl (p : Int) : Key), iv 1)).map (·.1)).Nodup := by
    rw [List.map_map]
    exact hnd.map _ fun a b h z => h (Int.ofNat.inj (Sum.inl.inj z))
  rw [mergeK_self kn]
  have e3 : Ex (TL K) H (upd H2 r (.dK (l.map fun (p : Nat) => ((Sum.inl (p : Int) : Key), iv 1)))) := (e1.trans e).new hr
  have f3 := Ex.sqT ((Ch.refl e.tb).new (o := .dK (l.map fun (p : Nat) => ((Sum.inl (p : Int) : Key), iv 1))) hr) (Ex.sqT e f1)
  refine ⟨r, _, rfl, upd_same, _, rfl, f, _, rfl, .inr f3, rfl, _, rfl, ?_⟩
  have e4 : decide (V.int ((l.map fun (p : Nat) => ((Sum.inl (p : Int) : Key), iv 1)).length : Nat) = V.int ((l.map iv).length : Nat)) = true := by simp
  rw [e4]
  -- any
  refine ⟨_, rfl, f, rfl, ⟨_, f3⟩, e3.tb, fun H5 e5 t5 => ?_⟩
  have e6 := e3.ext e5 t5
  have f6 := Ex.sqT ((Ch.refl e3.tb).ext e5 t5) f3
  refine agx_no walk_tup (ls := l) (by simp) t5 (fun H e => Ex.sqT e f6) ?_ ?_
  · intro i x v H2 H3 M ha e hY hM
    obtain ⟨rfl, rfl⟩ := yat ha hY
    have hx := hlt x (List.mem_of_getElem? ha)
    refine ⟨_, rfl, _, _, rfl, rfl, _, rfl, ?_⟩
    rw [if_pos (by simp)]
    refine ⟨_, rfl, _, _, rfl, rfl, _, rfl, ?_⟩
    rw [decide_eq_true (by omega : (x : Int) < (n : Int))]
    exact hM _ (Ch.refl e.tb)
  · intro H7 e7
    exact ⟨_, rfl, _, rfl, hQ _ _ (e6.trans e7) (Ex.sqT e7 f6)⟩

def spMarket_init (K : PySem.W.Frag) : Sp := fun vs H Q _ => ∃ (x a b c : Addr) (dx : Addr) (as bs : List Addr) (m : NM), vs = [.ref x, .ref a, .ref b, .ref c] ∧ H x = some (.ins (He.ga K "Market") dx []) ∧ H a = some (.lst (as.map V.ref)) ∧ H b = some (.lst (bs.map V.ref)) ∧ H c = some (.lst (m.qs.map iv)) ∧
  Paired (fun p l => H p = some (.lst (l.map iv))) as m.ls ∧ Paired (fun p l => H p = some (.lst (l.map iv))) bs m.os ∧ m.Ok ∧ LamX.Tabs (TL K) H ∧ ∀ H', Ch (TL K) (fun b => b = x) H H' → MktAt K H' x m → Q .non H'
theorem WishAt.ch1 {T : List (Addr × Str)} {H H' : Hp} {D q : Addr} {zs : List V} {l : List Nat} (h : Ch T (fun b => b = D) H H') (hD : H D = some (.lst zs)) (e : WishAt K H q l) : WishAt K H' q l := by
  obtain ⟨dx, o, r, h1, h2, h3, h4⟩ := e
  exact ⟨dx, o, r, h.k h1 (ne_of h1 hD nofun), h.sqT1 hD h2, h.k h3 (ne_of h3 hD nofun), h4⟩
theorem WishAt.chX {T : List (Addr × Str)} {H H' : Hp} {x q C dx : Addr} {fs : List (Str × V)} {l : List Nat} (h : Ch T (fun b => b = x) H H') (hx : H x = some (.ins C dx fs)) (hf : fs.lookup ("order" : Str) = none) (e : WishAt K H q l) : WishAt K H' q l := by
  obtain ⟨dy, o, r, h1, h2, h3, h4⟩ := e
  have ne : q ≠ x := ne_of h1 hx fun z => by
    have e2 := (HO.ins.inj z).2.2
    rw [← e2] at hf
    exact absurd hf (by simp [List.lookup])
  exact ⟨dy, o, r, h.k h1 ne, h.sqT2 hx h2, h.k h3 (ne_of h3 hx nofun), h4⟩
theorem wish_made {H H1 : Hp} {p : Addr} {l : List Nat} {M : V → Hp → Prop} {E : XK} (e : Ex (TL K) H H1) (hp : SqT K H1 p (l.map iv)) (hnd : l.Nodup) (hl : l.length ≤ 64) (hM : ∀ y H4, Ex (TL K) H H4 → (∃ q, y = V.ref q ∧ WishAt K H4 q l) → M y H4) :
    ∀ x dx, H1 x = none → H1 dx = none → dx ≠ x → spWish_init K [.ref x, .ref p] (upd (upd H1 dx (.own x)) x (.ins (He.ga K "Wish") dx [])) (fun v H2 => v = .non ∧ M (.ref x) H2) E := by
  intro x dx hx hdx hne
  have e1 : Ex (TL K) H1 (upd H1 dx (.own x)) := (Ch.refl e.tb).new hdx
  have hx1 : upd H1 dx (.own x) x = none := by rw [upd_ne (Ne.symm hne)]; exact hx
  have e2 : Ex (TL K) H1 (upd (upd H1 dx (.own x)) x (.ins (He.ga K "Wish") dx [])) := e1.new hx1
  exact ⟨x, p, dx, l, rfl, upd_same, Ex.sqT e2 hp, hnd, hl, e2.tb, fun H' c w => ⟨rfl, hM _ _ (e.trans (Ch.made c hx hdx)) ⟨x, rfl, w⟩⟩⟩
theorem ok_Market_init (t : TX K mg base) : Does P w K mg base CX0 6 ("Market", some "__init__") ["self", "lists", "orders", "seats"] (spMarket_init K) := by
  obtain ⟨fd_Wish_init, G_Wish_init, b_Wish_init, p_Wish_init⟩ := ok_Wish_init (P := P) (w := w) t
  obtain ⟨fd_check_list, G_check_list, b_check_list, p_check_list⟩ := ok_check_list (P := P) (w := w) t
  have nd := (sc_Market_init).nd
  refine t.do_Market_init (fun vs H Q E h => by obtain ⟨_, _, _, _, _, _, _, _, rfl, _⟩ := h; rfl) fun A outer s H vs Q E hr h => ⟨_, PSs.nox ((pss_cons (ps_if (PW.pt (pw_or (pt_cmpR op_ne (pe_callB (call_lenK K rfl) (by rfl) t.n_len PySem.boot_len (pa_cons (pv 2) pa_nil)) (pe_callB (call_lenK K rfl) (by rfl) t.n_len PySem.boot_len (pa_cons (pv 3) pa_nil)) (nomark _)) (pw_or1 (pt_val (GX.pe_anyG (k := 1) (ix := 5) (T := TL K) (hr.mono (by decide)) (by rfl) (by rfl) t.n_any t.t_Market_init (by rfl) t.tm_Market_init (t.tu t.tm_Market_init) (GX.gsc_by (N := ["self", "lists", "orders", "seats", "order", "count"]) (sc := defScope PMH.s_Market_init) (by decide +kernel)) (pi_listK K rfl (pv 3)) (fun _ _ _ _ _ _ hr2 => (pe_cmpR op_lt (pv 5) pe_int (nomark _)))))))) (pss_one ps_never) pss_nil) (pss_cons (ps_fld (pv 0) (pe_lc (X := ((X_Market_init CX0 P w K mg base A outer s H E).nox)) (own := [("order", 4)]) (g := (gName 4)) rfl nd (pi_listK K rfl (pv 1)) (blkOk_by (own := [("order", 4)]) (N := ["self", "lists", "orders", "seats", "order", "count"]) (sc := defScope PMH.s_Market_init) (by decide +kernel)) (fun s1 H1 C1 l1 p1 => (pg_name (i := 4) nd rfl (Or.inl rfl))) (fun s1 H1 C1 l1 p1 => pts_nil) (fun s1 H1 C1 l1 p1 => (pe_make t.k_Wish G_Wish_init (hr.mono (by decide)) (by rfl) t.g_Wish b_Wish_init .nil pass0 (pa_cons (pe_call G_check_list (hr.mono (by decide)) (by rfl) t.g_check_list p_check_list b_check_list .nil pass0 (pa_cons (pv 4) (pa_cons (pe_callB (call_lenK K rfl) (by rfl) t.n_len PySem.boot_len (pa_cons (pv 2) pa_nil)) pa_nil))) pa_nil)))) rfl) (pss_cons (ps_fld (pv 0) (pe_lc (X := ((X_Market_init CX0 P w K mg base A outer s H E).nox)) (own := [("order", 4)]) (g := (gName 4)) rfl nd (pi_listK K rfl (pv 2)) (blkOk_by (own := [("order", 4)]) (N := ["self", "lists", "orders", "seats", "order", "count"]) (sc := defScope PMH.s_Market_init) (by decide +kernel)) (fun s1 H1 C1 l1 p1 => (pg_name (i := 4) nd rfl (Or.inl rfl))) (fun s1 H1 C1 l1 p1 => pts_nil) (fun s1 H1 C1 l1 p1 => (pe_make t.k_Wish G_Wish_init (hr.mono (by decide)) (by rfl) t.g_Wish b_Wish_init .nil pass0 (pa_cons (pe_call G_check_list (hr.mono (by decide)) (by rfl) t.g_check_list p_check_list b_check_list .nil pass0 (pa_cons (pv 4) (pa_cons (pe_callB (call_lenK K rfl) (by rfl) t.n_len PySem.boot_len (pa_cons (pv 1) pa_nil)) pa_nil))) pa_nil)))) rfl) (pss_one (ps_fld (pv 0) (pe_callTy (call_tupleK K rfl) (by rfl) t.n_tuple (by decide +kernel) (pa_cons (pv 3) pa_nil)) rfl)))))), ?_⟩
  obtain ⟨x, a, b, c, dx, as, bs, m, rfl, hx, ha, hb, hc, hpa, hpb, hok, hT, hQ⟩ := h
  have lenA := hpa.length
  have lenB := hpb.length
  refine ⟨_, rfl, b, _, rfl, .inl (SqL.of hb), _, rfl, c, _, rfl, .inl (SqL.of hc), rfl, _, rfl, ?_⟩
  have e0 : (!decide (V.int ((bs.map V.ref).length : Nat) = V.int ((m.qs.map iv).length : Nat))) = false := by simp [lenB, hok.len]
  rw [e0]
  refine ⟨_, rfl, c, rfl, ⟨_, SqL.of hc⟩, hT, fun H1 e1 t1 => ?_⟩
  have c1 : Ex (TL K) H H1 := (Ch.refl hT).ext e1 t1
  refine agx_no walk_list (ls := m.qs) (by simp) t1 (fun H e => Ex.sqL e (SqL.of (Ex.k c1 hc))) ?_ ?_
  · intro i q v H2 H3 M hq e hY hM
    obtain ⟨rfl, rfl⟩ := yat hq hY
    exact ⟨_, rfl, _, _, rfl, rfl, bcast (fun b => M (.bl b) H3) (decide_eq_false (by omega : ¬ (q : Int) < 0)) (hM _ (Ch.refl e.tb))⟩
  intro H2 e2
  have c2 := c1.trans e2
  refine ⟨_, rfl, _, rfl, a, rfl, ⟨_, SqL.of (Ex.k c2 ha)⟩, fun D hD => ?_⟩
  refine lcx walk_list (ls := as.zip m.ls) (by simp [lenA]) (fun _ => true) (fun pl v H => ∃ q, v = .ref q ∧ WishAt K H q pl.2) c2.tb hD (fun H e => Ex.sqL e (SqL.of (Ex.k c2 ha))) (small (by simp [lenA, hok.l64])) ?_ ?_ ?_
  · intro pl y H H' c ⟨zs, hz⟩ ⟨q, e, hq⟩
    exact ⟨q, e, WishAt.ch1 c hz hq⟩
  · intro i pl v H3 H4 N M hi e hY _ _ hM
    obtain ⟨p, l⟩ := pl
    have hpi := zip_get hi
    obtain ⟨rfl, rfl⟩ := yat hpi.1 hY
    have hl := hok.lnd l (List.mem_of_getElem? hpi.2)
    have h3 := Ex.k (c2.trans e) (paired_at hpa hpi.1 hpi.2)
    refine ⟨rfl, _, rfl, _, rfl, b, _, rfl, .inl (SqL.of (Ex.k (c2.trans e) hb)), p, bs.length, l, by simp, SqL.of h3, hl.1, hl.2.1, by rw [lenB]; exact hl.2.2, e.tb, fun p' H5 e5 s5 => ?_⟩
    exact wish_made e5 s5 hl.1 hl.2.1 (hM rfl)
  intro H3 ys e3 hD3 hp3
  have fz : (as.zip m.ls).filter (fun _ => true) = as.zip m.ls := by simp
  rw [fz] at hp3
  obtain ⟨ws, rfl, hw⟩ := refs_of hp3
  have hws : Paired (fun p l => WishAt K H3 p l) ws m.ls := by
    have := Paired.mapR (F := fun p l => WishAt K H3 p l) (g := fun pl : Addr × List Nat => pl.2) (Paired.flip hw)
    rwa [zip_snd hpa] at this
  have c3 := c2.trans e3
  have hx3 := Ex.k c3 hx
  refine ⟨_, rfl, x, _, dx, _, rfl, hx3, t.c_Market, t.a_Market_askers, by decide, ?_⟩
  have u4 : Ch (TL K) (fun b => b = x) H3 (upd H3 x (.ins (He.ga K "Market") dx [("askers", .ref D)])) := Ch.put (Ch.refl c3.tb) hx3 nt_ins (.inr rfl)
  have c4 : Ch (TL K) (fun b => b = x) H (upd H3 x (.ins (He.ga K "Market") dx [("askers", .ref D)])) := (Ex.weak c3).trans u4
  have ha4 := u4.k hD3 (ne_of hD3 hx3 nofun)
  have hw4 : Paired (fun p l => WishAt K _ p l) ws m.ls := Paired.mapP hws fun _ _ z => WishAt.chX u4 hx3 rfl z
  have hb4 := c4.k hb (ne_of hb hx nofun)
  have hc4 := c4.k hc (ne_of hc hx nofun)
  have hpb4 : Paired (fun p l => (upd H3 x (.ins (He.ga K "Market") dx [("askers", .ref D)])) p = some (.lst (l.map iv))) bs m.os := Paired.mapP hpb fun p l z => c4.k z (ne_of z hx nofun)
  refine ⟨_, rfl, b, rfl, ⟨_, SqL.of hb4⟩, fun D2 hD2 => ?_⟩
  refine lcx walk_list (ls := bs.zip m.os) (by simp [lenB]) (fun _ => true) (fun pl v H => ∃ q, v = .ref q ∧ WishAt K H q pl.2) c4.tb hD2 (fun H e => Ex.sqL e (SqL.of hb4)) (small (by simp [lenB, hok.o64])) ?_ ?_ ?_
  · intro pl y H H' c ⟨zs, hz⟩ ⟨q, e, hq⟩
    exact ⟨q, e, WishAt.ch1 c hz hq⟩
  · intro i pl v H5 H6 N M hi e hY _ _ hM
    obtain ⟨p, l⟩ := pl
    have hpi := zip_get hi
    obtain ⟨rfl, rfl⟩ := yat hpi.1 hY
    have hl := hok.ond l (List.mem_of_getElem? hpi.2)
    have h3 := Ex.k e (paired_at hpb4 hpi.1 hpi.2)
    have ha5 := Ex.k e (c4.k ha (ne_of ha hx nofun))
    refine ⟨rfl, _, rfl, _, rfl, a, _, rfl, .inl (SqL.of ha5), p, as.length, l, by simp, SqL.of h3, hl.1, hl.2.1, by rw [lenA]; exact hl.2.2, e.tb, fun p' H5 e5 s5 => ?_⟩
    exact wish_made e5 s5 hl.1 hl.2.1 (hM rfl)
  intro H5 ys e5 hD5 hp5
  have fz : (bs.zip m.os).filter (fun _ => true) = bs.zip m.os := by simp
  rw [fz] at hp5
  obtain ⟨vs, rfl, hv⟩ := refs_of hp5
  have hvs : Paired (fun p l => WishAt K H5 p l) vs m.os := by
    have := Paired.mapR (F := fun p l => WishAt K H5 p l) (g := fun pl : Addr × List Nat => pl.2) (Paired.flip hv)
    rwa [zip_snd hpb] at this
  have hx5 := Ex.k e5 (upd_same (H := H3) (a := x) (o := .ins (He.ga K "Market") dx [("askers", .ref D)]))
  refine ⟨_, rfl, x, _, dx, _, rfl, hx5, t.c_Market, t.a_Market_rooms, by show 1 < 1000; decide, ?_⟩
  have u6 : Ch (TL K) (fun b => b = x) H5 (upd H5 x (.ins (He.ga K "Market") dx [("askers", .ref D), ("rooms", .ref D2)])) := Ch.put (Ch.refl e5.tb) hx5 nt_ins (.inr rfl)
  have c6 := (c4.trans (Ex.weak e5)).trans u6
  have ha6 := u6.k (Ex.k e5 ha4) (ne_of (Ex.k e5 ha4) hx5 nofun)
  have hw6 : Paired (fun p l => WishAt K (upd H5 x (.ins (He.ga K "Market") dx [("askers", .ref D), ("rooms", .ref D2)])) p l) ws m.ls := Paired.mapP hw4 fun _ _ z => WishAt.chX u6 hx5 rfl (WishAt.ex z e5)
  have hb6 := u6.k hD5 (ne_of hD5 hx5 nofun)
  have hv6 : Paired (fun p l => WishAt K (upd H5 x (.ins (He.ga K "Market") dx [("askers", .ref D), ("rooms", .ref D2)])) p l) vs m.os := Paired.mapP hvs fun _ _ z => WishAt.chX u6 hx5 rfl z
  have hc6 := c6.k hc (ne_of hc hx nofun)
  have hx6 : (upd H5 x (.ins (He.ga K "Market") dx [("askers", .ref D), ("rooms", .ref D2)])) x = _ := upd_same
  refine ⟨_, rfl, c, _, rfl, .inl ⟨SqL.of hc6, fun q hq => ?_⟩⟩
  have e7 : Ex (TL K) _ (upd (upd H5 x (.ins (He.ga K "Market") dx [("askers", .ref D), ("rooms", .ref D2)])) q (.tup (m.qs.map iv))) := (Ch.refl c6.tb).new hq
  have hx7 := Ex.k e7 hx6
  refine ⟨_, rfl, x, _, dx, _, rfl, hx7, t.c_Market, t.a_Market_seats, by show 2 < 1000; decide, ?_⟩
  have u8 : Ch (TL K) (fun b => b = x) _ (upd (upd (upd H5 x (.ins (He.ga K "Market") dx [("askers", .ref D), ("rooms", .ref D2)])) q (.tup (m.qs.map iv))) x (.ins (He.ga K "Market") dx [("askers", .ref D), ("rooms", .ref D2), ("seats", .ref q)])) := Ch.put (Ch.refl e7.tb) hx7 nt_ins (.inr rfl)
  have hq7 := upd_same (H := upd H5 x (.ins (He.ga K "Market") dx [("askers", .ref D), ("rooms", .ref D2)])) (a := q) (o := .tup (m.qs.map iv))
  refine hQ _ ((c6.trans (Ex.weak e7)).trans u8) ⟨dx, D, D2, q, ws, vs, upd_same, u8.k (Ex.k e7 ha6) (ne_of (Ex.k e7 ha6) hx7 nofun), Paired.mapP hw6 fun _ _ z => WishAt.chX u8 hx7 rfl (WishAt.ex z e7),
    u8.k (Ex.k e7 hb6) (ne_of (Ex.k e7 hb6) hx7 nofun), Paired.mapP hv6 fun _ _ z => WishAt.chX u8 hx7 rfl (WishAt.ex z e7), SqT.of (u8.k hq7 (ne_of hq7 hx7 nofun))⟩

def spSize (K : PySem.W.Frag) : Sp := fun vs H Q _ => ∃ (x : Addr) (m : NM), vs = [.ref x] ∧ MktAt K H x m ∧ Q (iv m.ls.length) H
theorem ok_Market_size (t : TX K mg base) : Does P w K mg base CX0 2 ("Market", some "size") ["self"] (spSize K) := by
  have nd := (sc_Market_size).nd
  refine t.do_Market_size (fun vs H Q E h => by obtain ⟨_, _, rfl, _⟩ := h; rfl) fun A outer s H vs Q E hr h => ⟨_, PSs.nox ((pss_one (ps_ret (pe_callB (call_lenK K rfl) (by rfl) t.n_len PySem.boot_len (pa_cons (pe_fldK K rfl (pv 0) rfl) pa_nil))))), ?_⟩
  obtain ⟨x, m, rfl, ⟨dx, a, b, c, ws, vs, h1, h2, h3, h4, h5, h6⟩, hQ⟩ := h
  refine ⟨_, rfl, x, _, dx, _, _, rfl, h1, t.c_Market, t.a_Market_askers, rfl, a, _, rfl, .inl (SqL.of h2), ?_⟩
  have e := h3.length
  rw [List.length_map, e]
  exact hQ
def spMlikes (K : PySem.W.Frag) : Sp := fun vs H Q _ => ∃ (x : Addr) (m : NM) (k r : Nat), vs = [.ref x, iv k, iv r] ∧ MktAt K H x m ∧ k < m.ls.length ∧ r < m.os.length ∧ Q (.bl (decide (r ∈ m.l k) && decide (k ∈ m.o r))) H
theorem ok_Market_likes (t : TX K mg base) : Does P w K mg base CX0 3 ("Market", some "likes") ["self", "asker", "room"] (spMlikes K) := by
  obtain ⟨fd_Wish_has, G_Wish_has, b_Wish_has, p_Wish_has⟩ := ok_Wish_has (P := P) (w := w) t
  have nd := (sc_Market_likes).nd
  refine t.do_Market_likes (fun vs H Q E h => by obtain ⟨_, _, _, _, rfl, _⟩ := h; rfl) fun A outer s H vs Q E hr h => ⟨_, PSs.nox ((pss_one (ps_ret (pe_and (pe_meth (pe_ix (ix_listK K rfl) (pe_fldK K rfl (pv 0) rfl) (pv 1) (fun _ _ => rfl)) t.c_Wish t.m_Wish_has G_Wish_has (hr.mono (by decide)) b_Wish_has .nil pass0 (pa_cons (pv 2) pa_nil)) (pe_one (pe_meth (pe_ix (ix_listK K rfl) (pe_fldK K rfl (pv 0) rfl) (pv 2) (fun _ _ => rfl)) t.c_Wish t.m_Wish_has G_Wish_has (hr.mono (by decide)) b_Wish_has .nil pass0 (pa_cons (pv 1) pa_nil))))))), ?_⟩
  obtain ⟨x, m, k, r, rfl, ⟨dx, a, b, c, ws, vs, h1, h2, h3, h4, h5, h6⟩, hk, hr', hQ⟩ := h
  obtain ⟨p, q1, q2, q3⟩ := wish_at h3 (m.at_l hk)
  obtain ⟨p', q1', q2', q3'⟩ := wish_at h5 (m.at_o hr')
  obtain ⟨_, _, _, w1, _⟩ := id q3
  obtain ⟨_, _, _, w1', _⟩ := id q3'
  refine ⟨_, rfl, x, _, dx, _, _, rfl, h1, t.c_Market, t.a_Market_askers, rfl, _, rfl, a, _, _, _, rfl, rfl, SqL.of h2, q2, p, _, _, rfl, w1, rfl, _, rfl, p, r, _, rfl, q3, _, rfl, ?_⟩
  by_cases hm : r ∈ m.l k
  · simp only [decide_eq_true hm, if_true]
    refine ⟨_, rfl, x, _, dx, _, _, rfl, h1, t.c_Market, t.a_Market_rooms, rfl, _, rfl, b, _, _, _, rfl, rfl, SqL.of h4, q2', p', _, _, rfl, w1', rfl, _, rfl, p', k, _, rfl, q3', ?_⟩
    simpa [hm] using hQ
  · simp only [decide_eq_false hm]
    simpa [hm] using hQ
end
end PMT

set_option Elab.async false
set_option linter.all false
set_option maxRecDepth 100000
set_option maxHeartbeats 2000000
/-! W3: pairs, matchings. -/
namespace PMT
open PySem PySem.Spec PyProof.Rows L2

def NM.prsK (m : NM) (k : Nat) : List (Nat × Nat) := ((m.l k).filter fun r => decide (k ∈ m.o r)).map fun r => (k, r)
def NM.prs (m : NM) : List (Nat × Nat) := (List.range m.ls.length).flatMap m.prsK
theorem NM.mem_prs {m : NM} {k r : Nat} : (k, r) ∈ m.prs ↔ k < m.ls.length ∧ r ∈ m.l k ∧ k ∈ m.o r := by
  unfold NM.prs NM.prsK
  simp only [List.mem_flatMap, List.mem_range, List.mem_map, List.mem_filter, decide_eq_true_eq]
  constructor
  · rintro ⟨a, h1, r', ⟨h2, h3⟩, e⟩
    cases e
    exact ⟨h1, h2, h3⟩
  · rintro ⟨h1, h2, h3⟩
    exact ⟨k, h1, r, ⟨h2, h3⟩, rfl⟩
/-- a tuple of pairs -/
def PairsT (K : PySem.W.Frag) (H : Hp) (p : Addr) (l : List (Nat × Nat)) : Prop := ∃ as : List Addr, SqT K H p (as.map V.ref) ∧ Paired (fun q pr => H q = some (.tup [iv pr.1, iv pr.2])) as l
theorem PairsT.ex {K T H H' p l} (h : PairsT K H p l) (e : Ex T H H') : PairsT K H' p l := by
  obtain ⟨as, h1, h2⟩ := h
  exact ⟨as, Ex.sqT e h1, Paired.mapP h2 fun _ _ z => Ex.k e z⟩
theorem line_big : 10000 < sizeLine := by rw [sizeLine_eq]; decide
theorem Paired.app {α β : Type} {F : α → β → Prop} : ∀ {l l' : List α} {r r' : List β}, Paired F l r → Paired F l' r' → Paired F (l ++ l') (r ++ r')
  | _, _, _, _, .nil, h => h
  | _, _, _, _, .cons h t, h' => .cons h (Paired.app t h')
theorem NM.l_len {m : NM} (ok : m.Ok) (k : Nat) : (m.l k).length ≤ 64 := by
  by_cases h : k < m.ls.length
  · exact (ok.lnd _ (List.mem_of_getElem? (m.at_l h))).2.1
  · unfold NM.l
    rw [List.getD_eq_getElem?_getD, List.getElem?_eq_none (by omega)]
    simp
theorem NM.prsK_len {m : NM} (ok : m.Ok) (k : Nat) : (m.prsK k).length ≤ 64 := by
  unfold NM.prsK
  rw [List.length_map]
  exact Nat.le_trans (List.length_filter_le _ _) (m.l_len ok k)
section
variable {P : Program} {w : World} {K : PySem.W.Frag} {mg : Str → Option Value} {base : Heap}
def spPairs (K : PySem.W.Frag) : Sp := fun vs H Q _ => ∃ (x : Addr) (m : NM), vs = [.ref x] ∧ MktAt K H x m ∧ m.Ok ∧ LamX.Tabs (TL K) H ∧ ∀ p H', Ex (TL K) H H' → PairsT K H' p m.prs → Q (.ref p) H'
theorem ok_Market_pairs (t : TX K mg base) : Does P w K mg base CX0 3 ("Market", some "pairs") ["self"] (spPairs K) := by
  obtain ⟨fd_Wish_has, G_Wish_has, b_Wish_has, p_Wish_has⟩ := ok_Wish_has (P := P) (w := w) t
  have nd := (sc_Market_pairs).nd
  refine t.do_Market_pairs (fun vs H Q E h => by obtain ⟨_, _, rfl, _⟩ := h; rfl) fun A outer s H vs Q E hr h => ⟨_, PSs.nox ((pss_cons (ps_set (i := 1) nd rfl (Or.inl rfl) (pe_lst pa_nil)) (pss_cons (ps_for PassesOwn.never rfl (pi_enumK K rfl (by rfl) t.n_enumerate (pa_cons (pe_fldK K rfl (pv 0) rfl) pa_nil)) (pg_tup rfl (pgs_cons (pg_name (i := 2) nd rfl (Or.inr rfl)) (pgs_cons (pg_name (i := 3) nd rfl (Or.inl rfl)) pgs_nil))) (pss_one (ps_aug (i := 1) nd rfl (Or.inl rfl) (pe_lc (X := ((X_Market_pairs CX0 P w K mg base A outer s H E).nox)) (own := [("room", 4)]) (g := (gName 4)) rfl nd (pi_tupK K rfl (pe_fldK K rfl (pv 3) rfl)) (blkOk_by (own := [("room", 4)]) (N := ["self", "found", "asker", "wish", "room"]) (sc := defScope PMH.s_Market_pairs) (by decide +kernel)) (fun s1 H1 C1 l1 p1 => (pg_name (i := 4) nd rfl (Or.inl rfl))) (fun s1 H1 C1 l1 p1 => (pts_one (pt_val (pe_meth (pe_ix (ix_listK K rfl) (pe_fldK K rfl (pv 0) rfl) (pv 4) (fun _ _ => rfl)) t.c_Wish t.m_Wish_has G_Wish_has (hr.mono (by decide)) b_Wish_has .nil pass0 (pa_cons (pv 2) pa_nil))))) (fun s1 H1 C1 l1 p1 => (pe_tup (pa_cons (pv 2) (pa_cons (pv 4) pa_nil))))) ip_cat))) (pss_one (ps_ret (pe_callTy (call_tupleK K rfl) (by rfl) t.n_tuple (by decide +kernel) (pa_cons (pv 1) pa_nil))))))), ?_⟩
  obtain ⟨x, m, rfl, hm, hok, hT, hQ⟩ := h
  obtain ⟨dx, a, b, c, ws, vs, h1, h2, h3, h4, h5, h6⟩ := id hm
  have lw := h3.length
  refine ⟨by show 0 ≤ sizeLine; exact Nat.zero_le _, fun F hF => ?_⟩
  have e1 : Ex (TL K) H (upd H F (.lst [])) := (Ch.refl hT).new hF
  refine ⟨_, rfl, x, _, dx, _, _, rfl, Ex.k e1 h1, t.c_Market, t.a_Market_askers, rfl, a, _, rfl, SqL.of (Ex.k e1 h2), ?_⟩
  refine for_it (walk_enum (xs := ws.map V.ref)) (fun i σ H' => (∃ u v y, σ = [some (.ref x), some (.ref F), u, v, y]) ∧ Ex (TL K) H H' ∧ ∃ as : List Addr, H' F = some (.lst (as.map V.ref)) ∧ as.length ≤ 64 * i ∧ Paired (fun q pr => H' q = some (.tup [iv pr.1, iv pr.2])) as ((List.range i).flatMap m.prsK)) ?_ ?_ ?_ ?_
  · exact ⟨⟨none, none, none, rfl⟩, e1, [], upd_same, Nat.zero_le _, .nil⟩
  · intro i σ H' _ p
    exact SqL.of (Ex.k p.2.1 h2)
  · intro i v σ H2 H3 hi p hY
    obtain ⟨⟨u, v', y, rfl⟩, e, as, hF2, hlen, hps⟩ := p
    have hi' : i < m.ls.length := by rw [List.length_map, lw] at hi; exact hi
    obtain ⟨q, q1, q2, q3⟩ := wish_at h3 (m.at_l hi')
    obtain ⟨T, rfl, hTn, rfl⟩ := yenum q1 hY
    have e3 : Ex (TL K) H (upd H2 T (.tup [.int (i : Nat), .ref q])) := e.new hTn
    have e23 : Ex (TL K) H2 (upd H2 T (.tup [.int (i : Nat), .ref q])) := (Ch.refl e.tb).new hTn
    obtain ⟨dy, o, rr, w1, w2, w3, w4⟩ := WishAt.ex q3 e3
    refine ⟨T, _, rfl, SqT.of upd_same, rfl, _, _, rfl, _, _, rfl, rfl, ?_⟩
    refine ⟨_, rfl, _, rfl, q, _, dy, _, _, rfl, w1, t.c_Wish, t.a_Wish_order, rfl, o, rfl, ⟨_, w2⟩, fun D hD => ?_⟩
    have hFD : F ≠ D := ne_of_none (Ex.k e23 hF2) hD
    refine lcx walk_tup (ls := m.l i) (by simp) (fun r => decide (i ∈ m.o r)) (fun r v H => ∃ q, v = .ref q ∧ H q = some (.tup [iv i, iv r]) ∧ q ≠ F) e3.tb hD (fun H e => Ex.sqT e w2) (small (m.l_len hok i)) ?_ ?_ ?_
    · intro r y H H' c ⟨zs, hz⟩ ⟨q, e, hq, hn⟩
      exact ⟨q, e, c.k hq (ne_of hq hz nofun), hn⟩
    · intro j r v H4 H5 N M hj e5 hY _ hN hM
      obtain ⟨rfl, rfl⟩ := yat hj hY
      have hr5 : r < m.os.length := (hok.lnd _ (List.mem_of_getElem? (m.at_l hi'))).2.2 r (List.mem_of_getElem? hj)
      obtain ⟨p, p1, p2, p3⟩ := wish_at h5 (m.at_o hr5)
      have e6 := e3.trans e5
      have p4 := WishAt.ex p3 e6
      obtain ⟨_, _, _, z1, _⟩ := id p4
      refine ⟨rfl, _, rfl, x, _, dx, _, _, rfl, Ex.k e6 h1, t.c_Market, t.a_Market_rooms, rfl, _, rfl, b, _, _, _, rfl, rfl, SqL.of (Ex.k e6 h4), p2, p, _, _, rfl, z1, rfl, _, rfl, p, i, _, rfl, p4, _, rfl, ?_⟩
      by_cases hk : i ∈ m.o r
      · simp only [decide_eq_true hk, if_true]
        refine ⟨_, rfl, _, rfl, by show 2 ≤ sizeLine; decide, fun p hp => ?_⟩
        refine hM (by simp [hk]) _ _ ((Ch.refl e5.tb).new hp) ⟨p, rfl, upd_same, fun z => ?_⟩
        subst z
        rw [Ex.k (e23.trans e5) hF2] at hp
        cases hp
      · simp only [decide_eq_false hk]
        exact hN (by simp [hk]) _ (Ch.refl e5.tb)
    · intro H5 ys e5 hD5 hp5
      obtain ⟨bs, rfl, hb⟩ := refs_of hp5
      have hl5 := hb.length
      have hb64 : bs.length ≤ 64 := by rw [← hl5]; exact Nat.le_trans (List.length_filter_le _ _) (m.l_len hok i)
      have i64 := hok.l64
      have hF5 := Ex.k (e23.trans e5) hF2
      refine ⟨F, D, _, _, rfl, rfl, hF5, hD5, ?_, ?_⟩
      · rw [List.length_map, List.length_map]
        have := line_big
        omega
      · have c6 : Ch (TL K) (fun b => b = F) H5 (upd H5 F (.lst ((as ++ bs).map V.ref))) := Ch.put (Ch.refl e5.tb) hF5 nt_lst (.inr rfl)
        rw [← List.map_append]
        refine ⟨⟨_, _, _, rfl⟩, Ch.put0 (e3.trans e5) hF5 nt_lst hF, as ++ bs, upd_same, by rw [List.length_append]; omega, ?_⟩
        rw [List.range_succ, List.flatMap_append]
        refine Paired.app (Paired.mapP hps fun q pr z => c6.k (Ex.k (e23.trans e5) z) (ne_of (Ex.k (e23.trans e5) z) hF5 nofun)) ?_
        simp only [List.flatMap_cons, List.flatMap_nil, List.append_nil]
        unfold NM.prsK
        refine Paired.mapR (F := fun q (pr : Nat × Nat) => _ = some (HO.tup [iv pr.1, iv pr.2])) (g := fun r => (i, r)) (Paired.flip (Paired.mapP hb fun r q z => c6.k z.1 (ne_of z.1 hF5 nofun)))
  · intro σ H' p
    obtain ⟨⟨u, v', y, rfl⟩, e, as, hF2, hlen, hps⟩ := p
    refine ⟨_, rfl, F, _, rfl, .inl ⟨SqL.of hF2, fun q hq => ?_⟩⟩
    have e2 : Ex (TL K) H' (upd H' q (.tup (as.map V.ref))) := (Ch.refl e.tb).new hq
    refine hQ q _ (e.trans e2) ⟨as, SqT.of upd_same, Paired.mapP ?_ fun _ _ z => Ex.k e2 z⟩
    rw [List.length_map, lw] at hps
    exact hps

/-- who is in a room, by numbers -/
def insN (μ : List (Option Nat)) (r : Nat) : List Nat := (μ.zipIdx.filter fun p => decide (p.1 = some r)).map (·.2)
theorem mem_insN {μ : List (Option Nat)} {r k : Nat} : k ∈ insN μ r ↔ μ[k]? = some (some r) := by
  unfold insN
  simp only [List.mem_map, List.mem_filter, decide_eq_true_eq, Prod.exists]
  constructor
  · rintro ⟨a, b, ⟨h1, h2⟩, rfl⟩
    rw [List.mem_zipIdx_iff_getElem?] at h1
    rw [← h2]; exact h1
  · intro h
    exact ⟨some r, k, ⟨by rw [List.mem_zipIdx_iff_getElem?]; exact h, rfl⟩, rfl⟩
theorem insN_lt {μ : List (Option Nat)} {r k : Nat} (h : k ∈ insN μ r) : k < μ.length := (List.getElem?_eq_some_iff.mp (mem_insN.mp h)).1
theorem insN_nodup {μ : List (Option Nat)} {r : Nat} : (insN μ r).Nodup := by
  unfold insN
  have h : (μ.zipIdx.map (·.2)).Nodup := by
    have : μ.zipIdx.map (·.2) = List.range μ.length := by
      rw [List.zipIdx_map_snd, List.range_eq_range']
    rw [this]; exact List.nodup_range
  exact h.sublist (List.filter_sublist.map _)
theorem insN_len {μ : List (Option Nat)} {r : Nat} : (insN μ r).length ≤ μ.length := by
  unfold insN
  rw [List.length_map]
  have := List.length_filter_le (fun p : Option Nat × Nat => decide (p.1 = some r)) μ.zipIdx
  simpa using this
theorem ov_eq {a : Option Nat} {r : Nat} : decide (ov a = iv r) = decide (a = some r) := by
  cases a with
  | none => simp [ov, iv]
  | some n => by_cases h : n = r <;> simp [ov, iv, h] <;> omega
/-- what holds them: a list or a tuple -/
def Sq (K : PySem.W.Frag) : Bool → Hp → Addr → List V → Prop
  | true => SqL K
  | false => SqT K
def spThose (K : PySem.W.Frag) (b : Bool) : Sp := fun vs H Q _ => ∃ (p : Addr) (μ : List (Option Nat)) (r : Nat), vs = [.ref p, iv r] ∧ Sq K b H p (μ.map ov) ∧ μ.length ≤ 64 ∧ LamX.Tabs (TL K) H ∧ ∀ q H', Ex (TL K) H H' → SqT K H' q ((insN μ r).map iv) → Q (.ref q) H'
theorem ok_those_in_L (t : TX K mg base) : Does P w K mg base CX0 2 ("those_in", none) ["match", "room"] (spThose K true) := by
  have nd := (sc_those_in).nd
  refine t.do_those_in (fun vs H Q E h => by obtain ⟨_, _, _, rfl, _⟩ := h; rfl) fun A outer s H vs Q E hr h => ⟨_, PSs.nox ((pss_one (ps_ret (pe_callTy (call_tupleK K rfl) (by rfl) t.n_tuple (by decide +kernel) (pa_cons (pe_lc (X := ((X_those_in CX0 P w K mg base A outer s H E).nox)) (own := [("asker", 2), ("one", 3)]) (g := (gTup K 2 (gCons (gName 2) (gCons (gName 3) gNil)))) rfl nd (pi_enumK K rfl (by rfl) t.n_enumerate (pa_cons (pv 0) pa_nil)) (blkOk_by (own := [("asker", 2), ("one", 3)]) (N := ["match", "room", "asker", "one"]) (sc := defScope PMH.s_those_in) (by decide +kernel)) (fun s1 H1 C1 l1 p1 => (pg_tup rfl (pgs_cons (pg_name (i := 2) nd rfl (Or.inl rfl)) (pgs_cons (pg_name (i := 3) nd rfl (Or.inl rfl)) pgs_nil)))) (fun s1 H1 C1 l1 p1 => (pts_one (pt_cmpR op_eq (pv 3) (pv 1) (nomark _)))) (fun s1 H1 C1 l1 p1 => (pv 2))) pa_nil))))), ?_⟩
  obtain ⟨p, μ, r, rfl, hp, hl, hT, hQ⟩ := h
  refine ⟨_, rfl, p, _, rfl, hp, fun D hD => ?_⟩
  refine lcf walk_enum (ls := μ.zipIdx) (by simp) (fun z => decide (z.1 = some r)) (fun z => iv z.2) hT hD (fun H e => Ex.sqL e hp) (by simpa using small hl) ?_ ?_
  · intro i z v H2 H3 N M hz e hY hN hM
    obtain ⟨a, j⟩ := z
    obtain ⟨rfl, hli⟩ := zip_at hz
    obtain ⟨T, rfl, hTn, rfl⟩ := yenum hli hY
    have e3 : Ex (TL K) H2 (upd H2 T (.tup [.int (j : Nat), ov a])) := (Ch.refl e.tb).new hTn
    refine ⟨T, _, rfl, SqT.of upd_same, rfl, _, _, rfl, _, _, rfl, rfl, rfl, ?_⟩
    refine ⟨_, rfl, _, rfl, by cases a <;> rfl, _, rfl, ?_⟩
    rw [ov_eq]
    by_cases ha : a = some r
    · rw [decide_eq_true ha]
      exact ⟨_, rfl, hM (by simp [ha]) _ e3⟩
    · rw [decide_eq_false ha]
      exact hN (by simp [ha]) _ e3
  · intro H2 e2 hD2
    refine ⟨D, _, rfl, .inl ⟨SqL.of hD2, fun q hq => ?_⟩⟩
    refine hQ q _ (e2.new hq) (SqT.of ?_)
    unfold insN
    rw [List.map_map]
    exact upd_same
theorem ok_those_in_T (t : TX K mg base) : Does P w K mg base CX0 2 ("those_in", none) ["match", "room"] (spThose K false) := by
  have nd := (sc_those_in).nd
  refine t.do_those_in (fun vs H Q E h => by obtain ⟨_, _, _, rfl, _⟩ := h; rfl) fun A outer s H vs Q E hr h => ⟨_, PSs.nox ((pss_one (ps_ret (pe_callTy (call_tupleK K rfl) (by rfl) t.n_tuple (by decide +kernel) (pa_cons (pe_lc (X := ((X_those_in CX0 P w K mg base A outer s H E).nox)) (own := [("asker", 2), ("one", 3)]) (g := (gTup K 2 (gCons (gName 2) (gCons (gName 3) gNil)))) rfl nd (pi_enumTK K rfl (by rfl) t.n_enumerate (pa_cons (pv 0) pa_nil)) (blkOk_by (own := [("asker", 2), ("one", 3)]) (N := ["match", "room", "asker", "one"]) (sc := defScope PMH.s_those_in) (by decide +kernel)) (fun s1 H1 C1 l1 p1 => (pg_tup rfl (pgs_cons (pg_name (i := 2) nd rfl (Or.inl rfl)) (pgs_cons (pg_name (i := 3) nd rfl (Or.inl rfl)) pgs_nil)))) (fun s1 H1 C1 l1 p1 => (pts_one (pt_cmpR op_eq (pv 3) (pv 1) (nomark _)))) (fun s1 H1 C1 l1 p1 => (pv 2))) pa_nil))))), ?_⟩
  obtain ⟨p, μ, r, rfl, hp, hl, hT, hQ⟩ := h
  refine ⟨_, rfl, p, _, rfl, hp, fun D hD => ?_⟩
  refine lcf RX.walk_enumT (ls := μ.zipIdx) (by simp) (fun z => decide (z.1 = some r)) (fun z => iv z.2) hT hD (fun H e => Ex.sqT e hp) (by simpa using small hl) ?_ ?_
  · intro i z v H2 H3 N M hz e hY hN hM
    obtain ⟨a, j⟩ := z
    obtain ⟨rfl, hli⟩ := zip_at hz
    obtain ⟨T, rfl, hTn, rfl⟩ := yenum hli hY
    have e3 : Ex (TL K) H2 (upd H2 T (.tup [.int (j : Nat), ov a])) := (Ch.refl e.tb).new hTn
    refine ⟨T, _, rfl, SqT.of upd_same, rfl, _, _, rfl, _, _, rfl, rfl, rfl, ?_⟩
    refine ⟨_, rfl, _, rfl, by cases a <;> rfl, _, rfl, ?_⟩
    rw [ov_eq]
    by_cases ha : a = some r
    · rw [decide_eq_true ha]
      exact ⟨_, rfl, hM (by simp [ha]) _ e3⟩
    · rw [decide_eq_false ha]
      exact hN (by simp [ha]) _ e3
  · intro H2 e2 hD2
    refine ⟨D, _, rfl, .inl ⟨SqL.of hD2, fun q hq => ?_⟩⟩
    refine hQ q _ (e2.new hq) (SqT.of ?_)
    unfold insN
    rw [List.map_map]
    exact upd_same

def spCheckMatch (K : PySem.W.Frag) : Sp := fun vs H Q _ => ∃ (x p : Addr) (m : NM) (μ : List (Option Nat)), vs = [.ref x, .ref p] ∧ MktAt K H x m ∧ m.Ok ∧ SqT K H p (μ.map ov) ∧ μ.length = m.ls.length ∧ (∀ r, some r ∈ μ → r < m.os.length) ∧ (∀ r, (insN μ r).length ≤ m.q r) ∧ LamX.Tabs (TL K) H ∧ ∀ H', Ex (TL K) H H' → Q (.ref p) H'
theorem ok_check_match (t : TX K mg base) : Does P w K mg base CX0 5 ("check_match", none) ["market", "match"] (spCheckMatch K) := by
  obtain ⟨fd_Market_size, G_Market_size, b_Market_size, p_Market_size⟩ := ok_Market_size (P := P) (w := w) t
  have nd := (sc_check_match).nd
  refine t.do_check_match (fun vs H Q E h => by obtain ⟨_, _, _, _, rfl, _⟩ := h; rfl) fun A outer s H vs Q E hr h => ⟨_, PSs.nox ((pss_cons (ps_set (i := 2) nd rfl (Or.inl rfl) (pe_callTy (call_tupleK K rfl) (by rfl) t.n_tuple (by decide +kernel) (pa_cons (pv 1) pa_nil))) (pss_cons (ps_if (PW.pt (pw_or (pt_cmpR op_ne (pe_callB (call_lenK K rfl) (by rfl) t.n_len PySem.boot_len (pa_cons (pv 2) pa_nil)) (pe_meth0 (pv 0) t.c_Market t.m_Market_size G_Market_size (hr.mono (by decide)) b_Market_size .nil pass0) (nomark _)) (pw_or1 (pt_val (GX.pe_anyG (k := 1) (ix := 3) (T := TL K) (hr.mono (by decide)) (by rfl) (by rfl) t.n_any t.t_check_match (by rfl) t.tm_check_match (t.tu t.tm_check_match) (GX.gsc_by (N := ["market", "match", "found", "room", "count", "one"]) (sc := defScope PMH.s_check_match) (by decide +kernel)) (pi_tupK K rfl (pv 2)) (fun _ _ _ _ _ _ hr2 => (pe_and (pe_cmpR op_notN (pv 3) pe_non (nomark _)) (pe_one (pe_not (pe_chain op_le op_lt pe_int (pv 3) (pe_callB (call_lenK K rfl) (by rfl) t.n_len PySem.boot_len (pa_cons (pe_fldK K rfl (pv 0) rfl) pa_nil)))))))))))) (pss_one ps_never) pss_nil) (pss_cons (ps_for PassesOwn.never rfl (pi_enumTK K rfl (by rfl) t.n_enumerate (pa_cons (pe_fldK K rfl (pv 0) rfl) pa_nil)) (pg_tup rfl (pgs_cons (pg_name (i := 3) nd rfl (Or.inr rfl)) (pgs_cons (pg_name (i := 4) nd rfl (Or.inl rfl)) pgs_nil))) (pss_one (ps_if (pt_cmpR op_gt (pe_callB (call_lenK K rfl) (by rfl) t.n_len PySem.boot_len (pa_cons (pe_lc (X := ((X_check_match CX0 P w K mg base A outer s H E).nox)) (own := [("one", 5)]) (g := (gName 5)) rfl nd (pi_tupK K rfl (pv 2)) (blkOk_by (own := [("one", 5)]) (N := ["market", "match", "found", "room", "count", "one"]) (sc := defScope PMH.s_check_match) (by decide +kernel)) (fun s1 H1 C1 l1 p1 => (pg_name (i := 5) nd rfl (Or.inl rfl))) (fun s1 H1 C1 l1 p1 => (pts_one (pt_cmpR op_eq (pv 5) (pv 3) (nomark _)))) (fun s1 H1 C1 l1 p1 => (pv 5))) pa_nil)) (pv 4) (nomark _)) (pss_one ps_never) pss_nil))) (pss_one (ps_ret (pv 2))))))), ?_⟩
  obtain ⟨x, p, m, μ, rfl, hm, hok, hp, hl, hr0, hcap, hT, hQ⟩ := h
  obtain ⟨dx, a, b, c, ws, vs, h1, h2, h3, h4, h5, h6⟩ := id hm
  have lv := h5.length
  refine ⟨_, rfl, p, _, rfl, .inr ⟨hp, _, rfl, p, _, rfl, .inr hp, _, rfl, x, _, _, rfl, h1, rfl, x, m, rfl, hm, rfl, _, rfl, ?_⟩⟩
  have e0 : (!decide (V.int ((μ.map ov).length : Nat) = iv m.ls.length)) = false := by simp [hl]
  rw [e0]
  refine ⟨_, rfl, p, rfl, ⟨_, hp⟩, hT, fun H1 e1 t1 => ?_⟩
  have c1 : Ex (TL K) H H1 := (Ch.refl hT).ext e1 t1
  refine agx_no walk_tup (ls := μ) (by simp) t1 (fun H e => Ex.sqT e (Ex.sqT c1 hp)) ?_ ?_
  · intro i a' v H2 H3 M hi e hY hM
    obtain ⟨rfl, rfl⟩ := yat hi hY
    refine ⟨_, rfl, rfl, ?_⟩
    cases a' with
    | none => exact ⟨_, rfl, hM _ (Ch.refl e.tb)⟩
    | some r =>
      have hr1 := hr0 r (List.mem_of_getElem? hi)
      refine ⟨_, rfl, _, rfl, _, _, rfl, rfl, _, rfl, ?_⟩
      rw [if_pos (by simp)]
      refine ⟨_, rfl, x, _, dx, _, _, rfl, Ex.k (c1.trans e) h1, t.c_Market, t.a_Market_rooms, rfl, b, _, rfl, .inl (SqL.of (Ex.k (c1.trans e) h4)), _, _, rfl, rfl, _, rfl, ?_⟩
      exact bcast (fun b => M (.bl (!b)) _) (decide_eq_true (by rw [List.length_map, lv]; omega)) (hM _ (Ch.refl e.tb))
  intro H2 e2
  have c2 := c1.trans e2
  refine ⟨_, rfl, _, rfl, x, _, dx, _, _, rfl, Ex.k c2 h1, t.c_Market, t.a_Market_seats, rfl, c, _, rfl, Ex.sqT c2 h6, ?_⟩
  refine for_it (RX.walk_enumT (xs := m.qs.map iv)) (fun i σ H' => (∃ u v y, σ = [some (.ref x), some (.ref p), some (.ref p), u, v, y]) ∧ Ex (TL K) H H') ?_ ?_ ?_ ?_
  · exact ⟨⟨_, _, _, rfl⟩, c2⟩
  · intro i σ H' _ p
    exact Ex.sqT p.2 h6
  · intro i v σ H3 H4 hi q hY
    obtain ⟨⟨u, v', y, rfl⟩, e⟩ := q
    have hi' : i < m.qs.length := by simpa using hi
    obtain ⟨T, rfl, hTn, rfl⟩ := yenum (m.at_q hi') hY
    have e3 := e.new (o := .tup [.int (i : Nat), iv (m.q i)]) hTn
    have hp3 := Ex.sqT e3 hp
    refine ⟨T, _, rfl, SqT.of upd_same, rfl, _, _, rfl, _, _, rfl, rfl, ?_⟩
    refine ⟨_, rfl, p, rfl, ⟨_, hp3⟩, fun D hD => ?_⟩
    refine lcf walk_tup (ls := μ) (by simp) (fun z => decide (z = some i)) ov e3.tb hD (fun H e => Ex.sqT e hp3) (small (by rw [hl]; exact hok.l64)) ?_ ?_
    · intro j a' v H5 H6 N M hj e5 hY hN hM
      obtain ⟨rfl, rfl⟩ := yat hj hY
      refine ⟨rfl, _, rfl, _, rfl, by cases a' <;> rfl, _, rfl, ?_⟩
      rw [ov_eq]
      by_cases ha : a' = some i
      · rw [decide_eq_true ha]
        exact ⟨_, rfl, hM (by simp [ha]) _ (Ch.refl e5.tb)⟩
      · rw [decide_eq_false ha]
        exact hN (by simp [ha]) _ (Ch.refl e5.tb)
    · intro H5 e5 hD5
      refine ⟨D, _, rfl, .inl (SqL.of hD5), _, rfl, _, _, rfl, rfl, _, rfl, ?_⟩
      have hlen : (μ.filter fun z => decide (z = some i)).length = (insN μ i).length := by
        unfold insN
        rw [List.length_map]
        have : μ = μ.zipIdx.map (·.1) := by simp
        conv => lhs; rw [this]
        rw [List.filter_map, List.length_map]
        rfl
      have hc := hcap i
      have e9 : decide ((m.q i : Int) < ((List.map ov (μ.filter fun z => decide (z = some i))).length : Nat)) = false := decide_eq_false (by rw [List.length_map, hlen]; omega)
      rw [e9]
      exact ⟨⟨_, _, _, rfl⟩, e3.trans e5⟩
  · intro σ H' q
    obtain ⟨⟨u, v', y, rfl⟩, e⟩ := q
    exact ⟨_, rfl, hQ _ e⟩

def spUnwanted (K : PySem.W.Frag) : Sp := fun vs H Q _ => ∃ (x p : Addr) (m : NM) (μ : List (Option Nat)), vs = [.ref x, .ref p] ∧ MktAt K H x m ∧ m.Ok ∧ SqT K H p (μ.map ov) ∧ μ.length = m.ls.length ∧ (∀ k r, μ[k]? = some (some r) → r ∈ m.l k ∧ k ∈ m.o r) ∧ LamX.Tabs (TL K) H ∧ ∀ q H', Ex (TL K) H H' → SqT K H' q [] → Q (.ref q) H'
theorem ok_unwanted (t : TX K mg base) : Does P w K mg base CX0 4 ("unwanted", none) ["market", "match"] (spUnwanted K) := by
  obtain ⟨fd_Market_likes, G_Market_likes, b_Market_likes, p_Market_likes⟩ := ok_Market_likes (P := P) (w := w) t
  have nd := (sc_unwanted).nd
  refine t.do_unwanted (fun vs H Q E h => by obtain ⟨_, _, _, _, rfl, _⟩ := h; rfl) fun A outer s H vs Q E hr h => ⟨_, PSs.nox ((pss_one (ps_ret (pe_callTy (call_tupleK K rfl) (by rfl) t.n_tuple (by decide +kernel) (pa_cons (pe_lc (X := ((X_unwanted CX0 P w K mg base A outer s H E).nox)) (own := [("asker", 2), ("room", 3)]) (g := (gTup K 2 (gCons (gName 2) (gCons (gName 3) gNil)))) rfl nd (pi_enumTK K rfl (by rfl) t.n_enumerate (pa_cons (pv 1) pa_nil)) (blkOk_by (own := [("asker", 2), ("room", 3)]) (N := ["market", "match", "asker", "room"]) (sc := defScope PMH.s_unwanted) (by decide +kernel)) (fun s1 H1 C1 l1 p1 => (pg_tup rfl (pgs_cons (pg_name (i := 2) nd rfl (Or.inl rfl)) (pgs_cons (pg_name (i := 3) nd rfl (Or.inl rfl)) pgs_nil)))) (fun s1 H1 C1 l1 p1 => (pts_one (PW.pt (pw_and (pt_cmpR op_notN (pv 3) pe_non (nomark _)) (pw_and1 (pt_not (pt_val (pe_meth (pv 0) t.c_Market t.m_Market_likes G_Market_likes (hr.mono (by decide)) b_Market_likes .nil pass0 (pa_cons (pv 2) (pa_cons (pv 3) pa_nil)))))))))) (fun s1 H1 C1 l1 p1 => (pe_tup (pa_cons (pv 2) (pa_cons (pv 3) pa_nil))))) pa_nil))))), ?_⟩
  obtain ⟨x, p, m, μ, rfl, hm, hok, hp, hl, hw, hT, hQ⟩ := h
  obtain ⟨dx, a, b, c, ws, vs, h1, _⟩ := id hm
  refine ⟨_, rfl, p, _, rfl, hp, fun D hD => ?_⟩
  refine lcf RX.walk_enumT (ls := μ.zipIdx) (by simp) (fun _ => false) (fun _ => .non) hT hD (fun H e => Ex.sqT e hp) (by simpa using small (by rw [hl]; exact hok.l64)) ?_ ?_
  · intro i z v H2 H3 N M hz e hY hN hM
    obtain ⟨a, j⟩ := z
    obtain ⟨rfl, hli⟩ := zip_at hz
    obtain ⟨T, rfl, hTn, rfl⟩ := yenum hli hY
    have e3 : Ex (TL K) H2 (upd H2 T (.tup [.int (j : Nat), ov a])) := (Ch.refl e.tb).new hTn
    refine ⟨T, _, rfl, SqT.of upd_same, rfl, _, _, rfl, _, _, rfl, rfl, rfl, ?_⟩
    refine ⟨_, rfl, rfl, _, rfl, ?_⟩
    cases a with
    | none => exact hN rfl _ e3
    | some r =>
      obtain ⟨w1, w2⟩ := hw j r hli
      have hj : j < m.ls.length := by rw [← hl]; exact (List.getElem?_eq_some_iff.mp hli).1
      have hr1 : r < m.os.length := (hok.lnd _ (List.mem_of_getElem? (m.at_l hj))).2.2 r w1
      refine ⟨_, rfl, x, _, _, rfl, Ex.k (e.trans e3) h1, rfl, _, rfl, _, rfl, x, m, j, r, rfl, hm.ex (e.trans e3), hj, hr1, _, rfl, ?_⟩
      simp only [decide_eq_true w1, decide_eq_true w2]
      exact hN rfl _ e3
  · intro H2 e2 hD2
    have : (List.map (fun _ => V.non) (μ.zipIdx.filter fun _ => false)) = [] := by simp
    rw [this] at hD2
    exact ⟨D, _, rfl, .inl ⟨SqL.of hD2, fun q hq => hQ q _ (e2.new hq) (SqT.of upd_same)⟩⟩

def spCheckWords (K : PySem.W.Frag) : Sp := fun vs H Q _ => ∃ (a : Addr) (l : List Str), vs = [.ref a] ∧ SqT K H a (l.map V.str) ∧ l.Nodup ∧ l.length ≤ 64 ∧ LamX.Tabs (TL K) H ∧ ∀ H', Ex (TL K) H H' → Q (.ref a) H'
theorem ok_check_words (t : TX K mg base) : Does P w K mg base CX0 2 ("check_words", none) ["words"] (spCheckWords K) := by
  have nd := (sc_check_words).nd
  refine t.do_check_words (fun vs H Q E h => by obtain ⟨_, _, rfl, _⟩ := h; rfl) fun A outer s H vs Q E hr h => ⟨_, PSs.nox ((pss_cons (ps_set (i := 1) nd rfl (Or.inl rfl) (pe_callTy (call_tupleK K rfl) (by rfl) t.n_tuple (by decide +kernel) (pa_cons (pv 0) pa_nil))) (pss_cons (ps_if (pt_cmpR op_ne (pe_callB call_lenD (by rfl) t.n_len PySem.boot_len (pa_cons (pe_callTy (call_dictP rfl) (by rfl) t.n_dict (by decide +kernel) (pa_cons (pe_lc (X := ((X_check_words CX0 P w K mg base A outer s H E).nox)) (own := [("word", 2)]) (g := (gName 2)) rfl nd (pi_tupK K rfl (pv 1)) (blkOk_by (own := [("word", 2)]) (N := ["words", "found", "word"]) (sc := defScope PMH.s_check_words) (by decide +kernel)) (fun s1 H1 C1 l1 p1 => (pg_name (i := 2) nd rfl (Or.inl rfl))) (fun s1 H1 C1 l1 p1 => pts_nil) (fun s1 H1 C1 l1 p1 => (pe_tup (pa_cons (pv 2) (pa_cons pe_int pa_nil))))) pa_nil)) pa_nil)) (pe_callB (call_lenK K rfl) (by rfl) t.n_len PySem.boot_len (pa_cons (pv 1) pa_nil)) (nomark _)) (pss_one ps_never) pss_nil) (pss_one (ps_ret (pv 1)))))), ?_⟩
  obtain ⟨f, l, rfl, f1, hnd, hl, hT, hQ⟩ := h
  refine ⟨_, rfl, f, _, rfl, .inr ⟨f1, ?_⟩⟩
  refine ⟨_, rfl, f, rfl, ⟨_, f1⟩, fun D hD => ?_⟩
  refine lcx walk_tup (ls := l) (by simp) (fun _ => true) (fun (p : Str) v H => ∃ q, v = .ref q ∧ H q = some (.tup [.str p, iv 1])) hT hD (fun H e => Ex.sqT e f1) (small hl) ?_ ?_ ?_
  · intro a y H H' c ⟨zs, hz⟩ ⟨q, e, hq⟩
    exact ⟨q, e, c.k hq (ne_of hq hz nofun)⟩
  · intro i x v H2 H3 N M ha e hY _ _ hM
    obtain ⟨rfl, rfl⟩ := yat ha hY
    exact ⟨rfl, _, rfl, by show 2 ≤ sizeLine; decide, fun p hp => hM rfl _ _ ((Ch.refl e.tb).new hp) ⟨p, rfl, upd_same⟩⟩
  intro H2 ys e hD2 hp
  have e0 : l.filter (fun _ => true) = l := by simp
  rw [e0] at hp
  obtain ⟨as, has, hps⟩ := dpairs (K := K) (k := fun (p : Str) => Sum.inr p) (u := fun _ => iv 1) hp
  subst has
  refine ⟨D, as, _, rfl, SqL.of hD2, hps, fun r hr => ?_⟩
  have kn : ((l.map fun (p : Str) => ((Sum.inr p : Key), iv 1)).map (·.1)).Nodup := by
    rw [List.map_map]
    exact hnd.map _ fun a b h z => h (Sum.inr.inj z)
  rw [mergeK_self kn]
  have e3 : Ex (TL K) H (upd H2 r (.dK (l.map fun (p : Str) => ((Sum.inr p : Key), iv 1)))) := e.new hr
  refine ⟨r, _, rfl, upd_same, _, rfl, f, _, rfl, .inr (Ex.sqT e3 f1), rfl, _, rfl, ?_⟩
  have e4 : decide (V.int ((l.map fun (p : Str) => ((Sum.inr p : Key), iv 1)).length : Nat) = V.int ((l.map V.str).length : Nat)) = true := by simp
  rw [e4]
  exact ⟨_, rfl, hQ _ e3⟩
end
end PMT

set_option Elab.async false
set_option linter.all false
set_option maxRecDepth 100000
set_option maxHeartbeats 2000000
/-! W4: asking. -/
namespace PMT
open PySem PySem.Spec PyProof.Rows L2
def NM.M (m : NM) : PM.Mkt Nat Nat := ⟨List.range m.ls.length, List.range m.os.length, m.l, m.o, m.q⟩
theorem NM.wf {m : NM} (ok : m.Ok) : m.M.WF where
  A := List.nodup_range
  R := List.nodup_range
  lst := fun a h => (ok.lnd _ (List.mem_of_getElem? (m.at_l (List.mem_range.mp h)))).1
  ord := fun a h => (ok.ond _ (List.mem_of_getElem? (m.at_o (List.mem_range.mp h)))).1
abbrev hf (hd : List (Option Nat)) : Nat → Option Nat := fun j => hd.getD j none
abbrev nf (nx : List Nat) : Nat → Nat := fun j => nx.getD j 0
abbrev Step := Nat × Nat × Option Nat
structure AskAt (K : PySem.W.Frag) (H : Hp) (x mk a b c : Addr) (nx : List Nat) (hd : List (Option Nat)) (st : List Step) : Prop where
  ins : ∃ dx, H x = some (.ins (He.ga K "Asking") dx [("market", .ref mk), ("next", .ref a), ("held", .ref b), ("steps", .ref c)])
  n : H a = some (.lst (nx.map iv))
  h : H b = some (.lst (hd.map ov))
  s : ∃ es : List Addr, H c = some (.lst (es.map V.ref)) ∧ Paired (fun q e => SqT K H q [iv e.1, iv e.2.1, ov e.2.2]) es st
  ab : a ≠ b
  ac : a ≠ c
  bc : b ≠ c
def S3 (a b c : Addr) : Addr → Prop := fun y => y = a ∨ y = b ∨ y = c
theorem AskAt.ex {K T H H' x mk a b c nx hd st} (z : AskAt K H x mk a b c nx hd st) (e : Ex T H H') : AskAt K H' x mk a b c nx hd st := by
  obtain ⟨⟨dx, h1⟩, h2, h3, ⟨es, h4, h5⟩, h6, h7, h8⟩ := z
  exact ⟨⟨dx, Ex.k e h1⟩, Ex.k e h2, Ex.k e h3, ⟨es, Ex.k e h4, Paired.mapP h5 fun _ _ z => Ex.sqT e z⟩, h6, h7, h8⟩
theorem atI_iv {nx : List Nat} {k : Nat} (h : k < nx.length) : atI (nx.map iv) (k : Int) = some (iv (nf nx k)) := atI_nat (by
  simp [nf, List.getD_eq_getElem?_getD, List.getElem?_eq_getElem h])
theorem atI_ov {nx : List (Option Nat)} {k : Nat} (h : k < nx.length) : atI (nx.map ov) (k : Int) = some (ov (hf nx k)) := atI_nat (by
  simp [hf, List.getD_eq_getElem?_getD, List.getElem?_eq_getElem h])
def wantsB (m : NM) (nx : List Nat) (hd : List (Option Nat)) (k : Nat) : Bool := decide (hf hd k = none) && decide (nf nx k < (m.l k).length)
theorem ov_none {a : Option Nat} : decide (ov a = V.non) = decide (a = none) := by cases a <;> simp [ov, iv]
section
variable {P : Program} {w : World} {K : PySem.W.Frag} {mg : Str → Option Value} {base : Heap}
def spAsking_init (K : PySem.W.Frag) : Sp := fun vs H Q _ => ∃ (x mk : Addr) (dx : Addr) (m : NM), vs = [.ref x, .ref mk] ∧ H x = some (.ins (He.ga K "Asking") dx []) ∧ MktAt K H mk m ∧ m.Ok ∧ LamX.Tabs (TL K) H ∧
  ∀ a b c H', Ch (TL K) (fun b => b = x) H H' → AskAt K H' x mk a b c (List.replicate m.ls.length 0) (List.replicate m.ls.length none) [] → New H a → New H b → New H c → Q .non H'
theorem MktAt.chX {T : List (Addr × Str)} {H H' : Hp} {x q C dx : Addr} {fs : List (Str × V)} {m : NM} (h : Ch T (fun b => b = x) H H') (hx : H x = some (.ins C dx fs)) (hf : fs.lookup ("order" : Str) = none) (hf2 : fs.lookup ("askers" : Str) = none) (e : MktAt K H q m) : MktAt K H' q m := by
  obtain ⟨dy, a, b, c, ws, vs, h1, h2, h3, h4, h5, h6⟩ := e
  have ne : q ≠ x := ne_of h1 hx fun z => by
    have e2 := (HO.ins.inj z).2.2
    rw [← e2] at hf2
    exact absurd hf2 (by simp [List.lookup])
  exact ⟨dy, a, b, c, ws, vs, h.k h1 ne, h.k h2 (ne_of h2 hx nofun), Paired.mapP h3 fun _ _ z => WishAt.chX h hx hf z, h.k h4 (ne_of h4 hx nofun), Paired.mapP h5 fun _ _ z => WishAt.chX h hx hf z, h.sqT2 hx h6⟩
theorem flat_rep {α : Type} (k : Nat) (v : α) : (List.replicate k [v]).flatten = List.replicate k v := by
  induction k with
  | zero => rfl
  | succ k ih => rw [List.replicate_succ, List.flatten_cons, ih, List.replicate_succ]; rfl
theorem ok_Asking_init (t : TX K mg base) : Does P w K mg base CX0 3 ("Asking", some "__init__") ["self", "market"] (spAsking_init K) := by
  obtain ⟨fd_Market_size, G_Market_size, b_Market_size, p_Market_size⟩ := ok_Market_size (P := P) (w := w) t
  have nd := (sc_Asking_init).nd
  refine t.do_Asking_init (fun vs H Q E h => by obtain ⟨_, _, _, _, rfl, _⟩ := h; rfl) fun A outer s H vs Q E hr h => ⟨_, PSs.nox ((pss_cons (ps_fld (pv 0) (pv 1) rfl) (pss_cons (ps_fld (pv 0) (pe_op op_rep (pe_lst (pa_cons pe_int pa_nil)) (pe_meth0 (pv 1) t.c_Market t.m_Market_size G_Market_size (hr.mono (by decide)) b_Market_size .nil pass0)) rfl) (pss_cons (ps_fld (pv 0) (pe_op op_rep (pe_lst (pa_cons pe_non pa_nil)) (pe_meth0 (pv 1) t.c_Market t.m_Market_size G_Market_size (hr.mono (by decide)) b_Market_size .nil pass0)) rfl) (pss_one (ps_fld (pv 0) (pe_lst pa_nil) rfl)))))), ?_⟩
  obtain ⟨x, mk, dx, m, rfl, hx, hm, hok, hT, hQ⟩ := h
  obtain ⟨dm, _, _, _, _, _, hm1, _⟩ := id hm
  have l64 := hok.l64
  -- self.market
  refine ⟨_, rfl, _, rfl, x, _, dx, _, rfl, hx, t.c_Asking, t.a_Asking_market, by decide, ?_⟩
  have c1 : Ch (TL K) (fun b => b = x) H (upd H x (.ins (He.ga K "Asking") dx [("market", .ref mk)])) := Ch.put (Ch.refl hT) hx nt_ins (.inr rfl)
  have m1 := MktAt.chX c1 hx rfl rfl hm
  obtain ⟨dm, _, _, _, _, _, hm2, _⟩ := id m1
  -- self.next
  refine ⟨by show 1 ≤ sizeLine; decide, fun p hp => ?_⟩
  have e2 := (Ch.refl (S := No) c1.tb).new (o := .lst [V.int 0]) hp
  refine ⟨_, rfl, mk, _, _, rfl, Ex.k e2 hm2, rfl, mk, m, rfl, m1.ex e2, p, _, _, rfl, rfl, upd_same, by omega, by omega, by have := line_big; simp; omega, fun a ha => ?_⟩
  have er : (List.replicate (m.ls.length : Int).toNat [V.int 0]).flatten = (List.replicate m.ls.length 0).map iv := by
    rw [flat_rep]; simp [iv]
  rw [er]
  have e3 := e2.new (o := .lst ((List.replicate m.ls.length 0).map iv)) ha
  have hx3 := Ex.k e3 (upd_same (H := H) (a := x) (o := .ins (He.ga K "Asking") dx [("market", .ref mk)]))
  refine ⟨_, rfl, x, _, dx, _, rfl, hx3, t.c_Asking, t.a_Asking_next, by show 1 < 1000; decide, ?_⟩
  have u4 := Ch.put (S := fun b => b = x) (o := .ins (He.ga K "Asking") dx [("market", .ref mk), ("next", .ref a)]) (Ch.refl e3.tb) hx3 nt_ins (.inr rfl)
  have c4 := (c1.trans (Ex.weak e3)).trans u4
  have m4 := MktAt.chX u4 hx3 rfl rfl (m1.ex e3)
  have ha4 := u4.k (upd_same) (ne_of upd_same hx3 nofun)
  have ha0 : New H a := c1.backN (Ex.backN e2 (New.of ha)) fun z => absurd z.symm (New.ne (New.of ha) (Ex.k e2 (upd_same (H := H) (a := x))))
  -- self.held
  refine ⟨by show 1 ≤ sizeLine; decide, fun p2 hp2 => ?_⟩
  have e5 := (Ch.refl (S := No) c4.tb).new (o := .lst [V.non]) hp2
  obtain ⟨dm, _, _, _, _, _, hm4, _⟩ := id m4
  refine ⟨_, rfl, mk, _, _, rfl, Ex.k e5 hm4, rfl, mk, m, rfl, m4.ex e5, p2, _, _, rfl, rfl, upd_same, by omega, by omega, by have := line_big; simp; omega, fun b hb => ?_⟩
  have er : (List.replicate (m.ls.length : Int).toNat [V.non]).flatten = (List.replicate m.ls.length none).map ov := by
    rw [flat_rep]; simp [ov]
  rw [er]
  have e6 := e5.new (o := .lst ((List.replicate m.ls.length none).map ov)) hb
  have hx6 := Ex.k e6 (upd_same (a := x) (o := .ins (He.ga K "Asking") dx [("market", .ref mk), ("next", .ref a)]))
  refine ⟨_, rfl, x, _, dx, _, rfl, hx6, t.c_Asking, t.a_Asking_held, by show 2 < 1000; decide, ?_⟩
  have u7 := Ch.put (S := fun b => b = x) (o := .ins (He.ga K "Asking") dx [("market", .ref mk), ("next", .ref a), ("held", .ref b)]) (Ch.refl e6.tb) hx6 nt_ins (.inr rfl)
  have c7 := (c4.trans (Ex.weak e6)).trans u7
  have ha6 := Ex.k e6 ha4
  have ha7 := u7.k ha6 (ne_of ha6 hx6 nofun)
  have hb7 := u7.k (upd_same) (ne_of upd_same hx6 nofun)
  have hb0 : New H b := c4.backN (Ex.backN e5 (New.of hb)) fun z => absurd z.symm (New.ne (New.of hb) (Ex.k e5 (upd_same (a := x))))
  have nab : a ≠ b := New.ne (New.of hb) (Ex.k e5 ha4)
  -- self.steps
  refine ⟨by show 0 ≤ sizeLine; exact Nat.zero_le _, fun c hc => ?_⟩
  have e8 := (Ch.refl (S := No) c7.tb).new (o := .lst []) hc
  have hx8 := Ex.k e8 (upd_same (a := x) (o := .ins (He.ga K "Asking") dx [("market", .ref mk), ("next", .ref a), ("held", .ref b)]))
  refine ⟨_, rfl, x, _, dx, _, rfl, hx8, t.c_Asking, t.a_Asking_steps, by show 3 < 1000; decide, ?_⟩
  have u9 := Ch.put (S := fun b => b = x) (o := .ins (He.ga K "Asking") dx [("market", .ref mk), ("next", .ref a), ("held", .ref b), ("steps", .ref c)]) (Ch.refl e8.tb) hx8 nt_ins (.inr rfl)
  have c9 := (c7.trans (Ex.weak e8)).trans u9
  have ha8 := Ex.k e8 ha7
  have hb8 := Ex.k e8 hb7
  have hc0 : New H c := c7.backN (New.of hc) fun z => absurd z.symm (New.ne (New.of hc) (upd_same (a := x)))
  refine hQ a b c _ c9 ⟨⟨dx, upd_same⟩, u9.k ha8 (ne_of ha8 hx8 nofun), u9.k hb8 (ne_of hb8 hx8 nofun), ⟨[], u9.k upd_same (ne_of upd_same hx8 nofun), .nil⟩, nab, New.ne (New.of hc) ha7, New.ne (New.of hc) hb7⟩ ha0 hb0 hc0

def spWants (K : PySem.W.Frag) : Sp := fun vs H Q _ => ∃ (x mk a b c : Addr) (m : NM) (nx : List Nat) (hd : List (Option Nat)) (st : List Step) (k : Nat), vs = [.ref x, iv k] ∧ AskAt K H x mk a b c nx hd st ∧ MktAt K H mk m ∧ nx.length = m.ls.length ∧ hd.length = m.ls.length ∧ k < m.ls.length ∧ Q (.bl (wantsB m nx hd k)) H
theorem ok_Asking_wants (t : TX K mg base) : Does P w K mg base CX0 2 ("Asking", some "wants") ["self", "asker"] (spWants K) := by
  have nd := (sc_Asking_wants).nd
  refine t.do_Asking_wants (fun vs H Q E h => by obtain ⟨_, _, _, _, _, _, _, _, _, _, rfl, _⟩ := h; rfl) fun A outer s H vs Q E hr h => ⟨_, PSs.nox ((pss_one (ps_ret (pe_and (pe_cmpR op_isN (pe_ix (ix_listK K rfl) (pe_fldK K rfl (pv 0) rfl) (pv 1) (fun _ _ => rfl)) pe_non (nomark _)) (pe_one (pe_cmpR op_lt (pe_ix (ix_listK K rfl) (pe_fldK K rfl (pv 0) rfl) (pv 1) (fun _ _ => rfl)) (pe_callB (call_lenK K rfl) (by rfl) t.n_len PySem.boot_len (pa_cons (pe_fldK K rfl (pe_ix (ix_listK K rfl) (pe_fldK K rfl (pe_fldK K rfl (pv 0) rfl) rfl) (pv 1) (fun _ _ => rfl)) rfl) pa_nil)) (nomark _))))))), ?_⟩
  obtain ⟨x, mk, a, b, c, m, nx, hd, st, k, rfl, hA, hm, l1, l2, hk, hQ⟩ := h
  obtain ⟨⟨dx, hx⟩, ha, hb, _, _, _, _⟩ := hA
  obtain ⟨dm, am, bm, cm, ws, vs, m1, m2, m3, m4, m5, m6⟩ := id hm
  obtain ⟨p, q1, q2, q3⟩ := wish_at m3 (m.at_l hk)
  obtain ⟨dw, o, r_, w1, w2, w3, w4⟩ := id q3
  refine ⟨_, rfl, x, _, dx, _, _, rfl, hx, t.c_Asking, t.a_Asking_held, rfl, _, rfl, b, _, _, _, rfl, rfl, SqL.of hb, atI_ov (by omega), rfl, _, rfl, ?_⟩
  unfold wantsB at hQ
  rw [ov_none]
  cases e : hf hd k with
  | some r =>
    rw [e] at hQ
    exact hQ
  | none =>
    rw [e] at hQ
    refine ⟨_, rfl, x, _, dx, _, _, rfl, hx, t.c_Asking, t.a_Asking_next, rfl, _, rfl, a, _, _, _, rfl, rfl, SqL.of ha, atI_iv (by omega), ?_⟩
    refine ⟨_, rfl, x, _, dx, _, _, rfl, hx, t.c_Asking, t.a_Asking_market, rfl, mk, _, dm, _, _, rfl, m1, t.c_Market, t.a_Market_askers, rfl, _, rfl, am, _, _, _, rfl, rfl, SqL.of m2, q2, p, _, dw, _, _, rfl, w1, t.c_Wish, t.a_Wish_order, rfl, o, _, rfl, .inr w2, _, _, rfl, rfl, ?_⟩
    rw [List.length_map]
    have e5 : (decide ((nf nx k : Int) < ((m.l k).length : Nat))) = decide (nf nx k < (m.l k).length) := by simp
    exact bcast (fun b => Q (.bl b) H) e5 (by simpa using hQ)

def rIxLn (K : PySem.W.Frag) : V → V → Hp → VK → Prop := fun x y H Q => ∃ (p : Addr) (xs : List V) (j : Nat) (v : V), x = .ref p ∧ y = iv j ∧ SqL K H p xs ∧ xs[j]? = some v ∧ Q v H
theorem pget_list {X : Cx} : PGet X (rIxLn X.K) := by
  intro pins s σ H o i ov' iv' Q I ro ri h
  obtain ⟨p, xs, j, v, rfl, rfl, hq, he, q⟩ := h
  cases ro
  obtain ⟨tk, rfl⟩ := ri
  obtain ⟨its, r, pl, hz⟩ := I.list hq
  obtain ⟨u, hu, ru⟩ := r.get he
  have hl := r.length
  have hn := line63
  have hj := (List.getElem?_eq_some_iff.mp he).1
  exact wpAny_getItem_list pl.isList (by omega) (by omega) (by simpa using hu) ⟨v, H, I, ru, q⟩

theorem AskAt.setN {H : Hp} {x mk a b c : Addr} {nx nx' : List Nat} {hd : List (Option Nat)} {st : List Step} (z : AskAt K H x mk a b c nx hd st) : AskAt K (upd H a (.lst (nx'.map iv))) x mk a b c nx' hd st := by
  obtain ⟨⟨dx, h1⟩, h2, h3, ⟨es, h4, h5⟩, h6, h7, h8⟩ := z
  refine ⟨⟨dx, by rw [upd_ne (ne_of h1 h2 nofun)]; exact h1⟩, upd_same, by rw [upd_ne (Ne.symm h6)]; exact h3, ⟨es, by rw [upd_ne (Ne.symm h7)]; exact h4, Paired.mapP h5 fun q e z => ?_⟩, h6, h7, h8⟩
  rcases z with (z | ⟨o, z⟩) | z
  · exact .inl (.inl (by rw [upd_ne (ne_of z h2 nofun)]; exact z))
  · exact .inl (.inr ⟨o, by rw [upd_ne (ne_of z h2 nofun)]; exact z⟩)
  · exact .inr z
theorem AskAt.setH {H : Hp} {x mk a b c : Addr} {nx : List Nat} {hd hd' : List (Option Nat)} {st : List Step} (z : AskAt K H x mk a b c nx hd st) : AskAt K (upd H b (.lst (hd'.map ov))) x mk a b c nx hd' st := by
  obtain ⟨⟨dx, h1⟩, h2, h3, ⟨es, h4, h5⟩, h6, h7, h8⟩ := z
  refine ⟨⟨dx, by rw [upd_ne (ne_of h1 h3 nofun)]; exact h1⟩, by rw [upd_ne h6]; exact h2, upd_same, ⟨es, by rw [upd_ne (Ne.symm h8)]; exact h4, Paired.mapP h5 fun q e z => ?_⟩, h6, h7, h8⟩
  rcases z with (z | ⟨o, z⟩) | z
  · exact .inl (.inl (by rw [upd_ne (ne_of z h3 nofun)]; exact z))
  · exact .inl (.inr ⟨o, by rw [upd_ne (ne_of z h3 nofun)]; exact z⟩)
  · exact .inr z
theorem insN_M {m : NM} {hd : List (Option Nat)} {r : Nat} (hl : hd.length = m.ls.length) (b : Nat) : b ∈ PM.ins m.M (hf hd) r ↔ b ∈ insN hd r := by
  rw [PM.mem_ins, mem_insN]
  simp only [NM.M, List.mem_range, hf, List.getD_eq_getElem?_getD]
  constructor
  · rintro ⟨h1, h2⟩
    rw [List.getElem?_eq_getElem (by omega)] at h2 ⊢
    exact congrArg some h2
  · intro h
    have := (List.getElem?_eq_some_iff.mp h).1
    exact ⟨by omega, by rw [h]; rfl⟩
theorem insN_M_len {m : NM} (ok : m.Ok) {hd : List (Option Nat)} {r : Nat} (hl : hd.length = m.ls.length) : (PM.ins m.M (hf hd) r).length = (insN hd r).length :=
  PM.nodup_same_len (PM.ins_nodup (m.wf ok)) insN_nodup fun b => insN_M hl b
def spAsk (K : PySem.W.Frag) : Sp := fun vs H Q _ => ∃ (x mk a b c : Addr) (m : NM) (nx : List Nat) (hd : List (Option Nat)) (st : List Step) (k r : Nat) (H0 : Hp), vs = [.ref x, iv k] ∧ AskAt K H x mk a b c nx hd st ∧ MktAt K H0 mk m ∧ Ex (TL K) H0 H ∧ New H0 a ∧ New H0 b ∧ New H0 c ∧ m.Ok ∧
  nx.length = m.ls.length ∧ hd.length = m.ls.length ∧ k < m.ls.length ∧ hf hd k = none ∧ (m.l k)[nf nx k]? = some r ∧ st.length ≤ 5000 ∧ PM.DA m.M (hf hd) (nf nx) ∧ 
  ∀ v H' out hd', Ch (TL K) (S3 a b c) H H' → AskAt K H' x mk a b c (nx.set k (nf nx k + 1)) hd' (st ++ [(k, r, out)]) → hd'.length = m.ls.length → PM.AskOut m.M (hf hd) k r out (hf hd') → Q v H'

def tAskTail (K : PySem.W.Frag) : TS :=
  tSeq (tIfS (tTest (tOp rNe (tVar 4) (tVar 1)))
      (tSeq (tAsg (tVar 2) (gSub (tFld K (tVar 0) "held") (tVar 1) rSetL))
        (tIfS (tTest (tOp (fun x y H Q => y = V.non ∧ Q (V.bl !decide (x = V.non)) H) (tVar 4) (tC V.non)))
          (tAsg (tC V.non) (gSub (tFld K (tVar 0) "held") (tVar 4) rSetL)) tNext))
      tNext)
    (tSeq (tDrop (tBM K "list" rAppend (tFld K (tVar 0) "steps") (tCons (tTup (tCons (tVar 1) (tCons (tVar 2) (tCons (tVar 4) tNil)))) tNil)))
      (tRet (tOp (rIxL K) (tFld K (tVar 0) "steps") (tUn (rU fun i => V.int (-i)) (tC (V.int 1))))))
theorem set_ov {hd : List (Option Nat)} {k : Nat} {v : Option Nat} : (hd.map ov).set k (ov v) = (hd.set k v).map ov := by rw [List.map_set]
theorem ov_ne {a : Option Nat} {k : Nat} : (!decide (ov a = iv k)) = !decide (a = some k) := by rw [ov_eq]
theorem ixN_lt {n k : Nat} (h : k < n) : ixN n (k : Int) = some k := by
  unfold ixN
  rw [if_pos (by omega), if_pos (by omega)]
  rfl
theorem ask_tail (t : TX K mg base) {x mk a b c : Addr} {nx : List Nat} {hd hd' : List (Option Nat)} {st : List Step} {k r n : Nat} {out : Option Nat} {H H3 : Hp} {i3 i5 i6 : Option V} {D : Ends} (hA : AskAt K H3 x mk a b c nx hd st) (hc : Ch (TL K) (S3 a b c) H H3) (hk : k < n) (hl : hd.length = n) (hst : st.length ≤ 5000)
    (hcase : (out = some k ∧ hd' = hd) ∨ (out = none ∧ hd' = hd.set k (some r)) ∨ (∃ w, out = some w ∧ w ≠ k ∧ w < n ∧ hd' = (hd.set k (some r)).set w none))
    (hQ : ∀ v H', Ch (TL K) (S3 a b c) H H' → AskAt K H' x mk a b c nx hd' (st ++ [(k, r, out)]) → D.rt v H') : tAskTail K D [some (.ref x), some (iv k), some (iv r), i3, some (ov out), i5, i6] H3 := by
  have fin : ∀ H4, AskAt K H4 x mk a b c nx hd' st → Ch (TL K) (S3 a b c) H H4 → tSeq (tDrop (tBM K "list" rAppend (tFld K (tVar 0) "steps") (tCons (tTup (tCons (tVar 1) (tCons (tVar 2) (tCons (tVar 4) tNil)))) tNil)))
      (tRet (tOp (rIxL K) (tFld K (tVar 0) "steps") (tUn (rU fun i => V.int (-i)) (tC (V.int 1))))) D [some (.ref x), some (iv k), some (iv r), i3, some (ov out), i5, i6] H4 := by
    intro H4 hA4 c4
    obtain ⟨dx, hx⟩ := hA4.ins
    obtain ⟨es, hs1, hs2⟩ := hA4.s
    have hlen := hs2.length
    refine ⟨_, rfl, x, _, dx, _, _, rfl, hx, t.c_Asking, t.a_Asking_steps, rfl, .inl ⟨rfl, _, SqL.of hs1⟩, ?_⟩
    refine ⟨_, rfl, _, rfl, _, rfl, by show 3 ≤ sizeLine; decide, fun q hq => ?_⟩
    have e5 : Ex (TL K) H4 (upd H4 q (.tup [iv k, iv r, ov out])) := (Ch.refl c4.tb).new hq
    have hA5 := hA4.ex e5
    obtain ⟨es5, hs5, hs6⟩ := hA5.s
    have hes : es5.map V.ref = es.map V.ref := by
      have := Ex.k e5 hs1
      rw [hs5] at this
      exact HO.lst.inj (Option.some.inj this)
    have hqt := upd_same (H := H4) (a := q) (o := .tup [iv k, iv r, ov out])
    have ncq : q ≠ c := fun z => by subst z; rw [hs1] at hq; cases hq
    refine ⟨c, es5.map V.ref, .ref q, rfl, rfl, hs5, ?_, ?_⟩
    · rw [hes, List.length_map, hlen]
      have := line_big
      omega
    have c6 : Ch (TL K) (fun y => y = c) (upd H4 q (.tup [iv k, iv r, ov out])) (upd (upd H4 q (.tup [iv k, iv r, ov out])) c (.lst (es5.map V.ref ++ [.ref q]))) := Ch.put (Ch.refl e5.tb) hs5 nt_lst (.inr rfl)
    have hA6 : AskAt K (upd (upd H4 q (.tup [iv k, iv r, ov out])) c (.lst (es5.map V.ref ++ [.ref q]))) x mk a b c nx hd' (st ++ [(k, r, out)]) := by
      obtain ⟨⟨dx, h1⟩, h2, h3, _, h6, h7, h8⟩ := hA5
      refine ⟨⟨dx, by rw [upd_ne (ne_of h1 hs5 nofun)]; exact h1⟩, by rw [upd_ne h7]; exact h2, by rw [upd_ne h8]; exact h3, ⟨es5 ++ [q], by rw [upd_same, List.map_append]; rfl, ?_⟩, h6, h7, h8⟩
      exact Paired.snoc (Paired.mapP hs6 fun _ _ z => c6.sqT1 hs5 z) (SqT.of (c6.k hqt ncq))
    obtain ⟨dx6, hx6⟩ := hA6.ins
    refine ⟨_, rfl, x, _, dx6, _, _, rfl, hx6, t.c_Asking, t.a_Asking_steps, rfl, _, rfl, c, _, _, .ref q, rfl, rfl, SqL.of upd_same, atI_last _ _, ?_⟩
    exact hQ _ _ (c4.trans ((Ex.weak e5).trans (Ch.weak c6 fun y z => .inr (.inr z)))) hA6
  refine ⟨_, rfl, _, rfl, by cases out <;> rfl, _, rfl, ?_⟩
  rw [ov_ne]
  obtain ⟨dx, hx⟩ := hA.ins
  rcases hcase with ⟨h1, h2⟩ | ⟨h1, h2⟩ | ⟨v, h1, h3, h4, h2⟩
  · subst h1 h2
    simp only [decide_true, Bool.not_true]
    exact fin H3 hA hc
  · subst h1
    have e9 : (!decide ((none : Option Nat) = some k)) = true := by simp
    rw [e9]
    refine ⟨_, rfl, _, rfl, x, _, dx, _, _, rfl, hx, t.c_Asking, t.a_Asking_held, rfl, _, rfl, b, _, _, k, rfl, rfl, hA.h, ixN_lt (by rw [List.length_map]; omega), ?_⟩
    have e7 : (hd.map ov).set k (iv r) = (hd.set k (some r)).map ov := set_ov (v := some r)
    rw [e7, ← h2]
    exact ⟨_, rfl, rfl, _, rfl, fin _ hA.setH (Ch.putN hc hA.h nt_lst (.inr (.inr (.inl rfl))))⟩
  · subst h1
    have e9 : (!decide ((some v : Option Nat) = some k)) = true := by simp [h3]
    rw [e9]
    refine ⟨_, rfl, _, rfl, x, _, dx, _, _, rfl, hx, t.c_Asking, t.a_Asking_held, rfl, _, rfl, b, _, _, k, rfl, rfl, hA.h, ixN_lt (by rw [List.length_map]; omega), ?_⟩
    have e7 : (hd.map ov).set k (iv r) = (hd.set k (some r)).map ov := set_ov (v := some r)
    rw [e7]
    have hA4 := hA.setH (hd' := hd.set k (some r))
    have c4 : Ch (TL K) (S3 a b c) H (upd H3 b (.lst ((hd.set k (some r)).map ov))) := Ch.putN hc hA.h nt_lst (.inr (.inr (.inl rfl)))
    obtain ⟨dx4, hx4⟩ := hA4.ins
    refine ⟨_, rfl, rfl, _, rfl, ?_⟩
    refine ⟨_, rfl, x, _, dx4, _, _, rfl, hx4, t.c_Asking, t.a_Asking_held, rfl, _, rfl, b, _, _, v, rfl, rfl, hA4.h, ixN_lt (by rw [List.length_map, List.length_set]; omega), ?_⟩
    have e8 : ((hd.set k (some r)).map ov).set v V.non = ((hd.set k (some r)).set v none).map ov := set_ov (v := none)
    rw [e8, ← h2]
    exact fin _ hA4.setH (Ch.putN c4 hA4.h nt_lst (.inr (.inr (.inl rfl))))
theorem ok_Asking_ask (t : TX K mg base) : Does P w K mg base CX0 6 ("Asking", some "ask") ["self", "asker"] (spAsk K) := by
  obtain ⟨fd_those_in_L, G_those_in_L, b_those_in_L, p_those_in_L⟩ := ok_those_in_L (P := P) (w := w) t
  obtain ⟨fd_Wish_has, G_Wish_has, b_Wish_has, p_Wish_has⟩ := ok_Wish_has (P := P) (w := w) t
  obtain ⟨fd_Wish_worst, G_Wish_worst, b_Wish_worst, p_Wish_worst⟩ := ok_Wish_worst (P := P) (w := w) t
  have nd := (sc_Asking_ask).nd
  refine t.do_Asking_ask (fun vs H Q E h => by obtain ⟨_, _, _, _, _, _, _, _, _, _, _, _, rfl, _⟩ := h; rfl) fun A outer s H vs Q E hr h => ⟨_, PSs.nox ((pss_cons (ps_set (i := 2) nd rfl (Or.inl rfl) (pe_ix (ix_tupK K rfl) (pe_fldK K rfl (pe_ix (ix_listK K rfl) (pe_fldK K rfl (pe_fldK K rfl (pv 0) rfl) rfl) (pv 1) (fun _ _ => rfl)) rfl) (pe_ix (ix_listK K rfl) (pe_fldK K rfl (pv 0) rfl) (pv 1) (fun _ _ => rfl)) (fun _ _ => rfl))) (pss_cons (ps_augS (pe_fldK K rfl (pv 0) rfl) (pv 1) pget_list pe_int ip_add set_list) (pss_cons (ps_par (by rfl) nd (i := 5) (j := 6) rfl rfl (by decide) rfl rfl (pa_cons (pe_ix (ix_listK K rfl) (pe_fldK K rfl (pe_fldK K rfl (pv 0) rfl) rfl) (pv 2) (fun _ _ => rfl)) (pa_cons (pe_ix (ix_tupK K rfl) (pe_fldK K rfl (pe_fldK K rfl (pv 0) rfl) rfl) (pv 2) (fun _ _ => rfl)) pa_nil)) (by rfl)) (pss_cons (ps_set (i := 3) nd rfl (Or.inl rfl) (pe_call G_those_in_L (hr.mono (by decide)) (by rfl) t.g_those_in p_those_in_L b_those_in_L .nil pass0 (pa_cons (pe_fldK K rfl (pv 0) rfl) (pa_cons (pv 2) pa_nil)))) (pss_cons (ps_set (i := 4) nd rfl (Or.inl rfl) (pv 1)) (pss_cons (ps_if (PW.pt (pw_and (pt_val (pe_meth (pv 5) t.c_Wish t.m_Wish_has G_Wish_has (hr.mono (by decide)) b_Wish_has .nil pass0 (pa_cons (pv 1) pa_nil))) (pw_and1 (pt_cmpR op_gt (pv 6) pe_int (nomark _))))) (pss_cons (ps_set (i := 4) nd rfl (Or.inl rfl) pe_non) (pss_one (ps_if (pt_cmpR op_eq (pe_callB (call_lenK K rfl) (by rfl) t.n_len PySem.boot_len (pa_cons (pv 3) pa_nil)) (pv 6) (nomark _)) (pss_one (ps_set (i := 4) nd rfl (Or.inl rfl) (pe_meth (pv 5) t.c_Wish t.m_Wish_worst G_Wish_worst (hr.mono (by decide)) b_Wish_worst .nil pass0 (pa_cons (pe_op (op_catTK K rfl) (pv 3) (pe_tup (pa_cons (pv 1) pa_nil))) pa_nil)))) pss_nil))) pss_nil) (pss_cons (ps_if (pt_cmpR op_ne (pv 4) (pv 1) (nomark _)) (pss_cons (ps_asg (pv 2) (pg_sub (pe_fldK K rfl (pv 0) rfl) (pv 1) set_list)) (pss_one (ps_if (pt_cmpR op_notN (pv 4) pe_non (nomark _)) (pss_one (ps_asg pe_non (pg_sub (pe_fldK K rfl (pv 0) rfl) (pv 4) set_list))) pss_nil))) pss_nil) (pss_cons (ps_expr (pe_bmK K rfl PySem.F.plainAttrs_list PySem.F.slot_list_append PySem.F.type_list_append mt_append (pe_fldK K rfl (pv 0) rfl) (pa_cons (pe_tup (pa_cons (pv 1) (pa_cons (pv 2) (pa_cons (pv 4) pa_nil)))) pa_nil))) (pss_one (ps_ret (pe_ix (ix_listK K rfl) (pe_fldK K rfl (pv 0) rfl) (pe_un un_neg pe_int) (fun _ _ => rfl))))))))))))), ?_⟩
  obtain ⟨x, mk, a, b, c, m, nx, hd, st, k, r, H0, rfl, hA, hm0, e0, na, nb, nc, hok, l1, l2, hk, hnone, hr0, hst, D, hQ⟩ := h
  obtain ⟨dx, hx⟩ := hA.ins
  have hm := hm0.ex e0
  obtain ⟨dm, am, bm, cm, ws, vs, m1, m2, m3, m4, m5, m6⟩ := id hm
  obtain ⟨p, q1, q2, q3⟩ := wish_at m3 (m.at_l hk)
  obtain ⟨dw, o, r_, w1, w2, w3, w4⟩ := id q3
  have rlt : r < m.os.length := (hok.lnd _ (List.mem_of_getElem? (m.at_l hk))).2.2 r (List.mem_of_getElem? hr0)
  have rmem : r ∈ m.l k := List.mem_of_getElem? hr0
  have hj : (m.l k).idxOf r = nf nx k := (PM.idx_of_get? (hok.lnd _ (List.mem_of_getElem? (m.at_l hk))).1 hr0).1
  have ne3 : ∀ y, S3 a b c y → New H0 y := fun y z => by
    rcases z with rfl | rfl | rfl
    · exact na
    · exact nb
    · exact nc
  -- room
  refine ⟨_, rfl, x, _, dx, _, _, rfl, hx, t.c_Asking, t.a_Asking_market, rfl, mk, _, dm, _, _, rfl, m1, t.c_Market, t.a_Market_askers, rfl, _, rfl, am, _, _, _, rfl, rfl, SqL.of m2, q2, p, _, dw, _, _, rfl, w1, t.c_Wish, t.a_Wish_order, rfl, ?_⟩
  refine ⟨_, rfl, x, _, dx, _, _, rfl, hx, t.c_Asking, t.a_Asking_next, rfl, _, rfl, a, _, _, _, rfl, rfl, SqL.of hA.n, atI_iv (by omega), ?_⟩
  refine ⟨o, _, _, _, rfl, rfl, w2, atI_nat (v := iv r) (by rw [List.getElem?_map, hr0]; rfl), ?_⟩
  -- next
  refine ⟨_, rfl, x, _, dx, _, _, rfl, hx, t.c_Asking, t.a_Asking_next, rfl, _, rfl, a, _, k, iv (nf nx k), rfl, rfl, SqL.of hA.n, ?_, _, _, rfl, rfl, a, _, _, k, rfl, rfl, hA.n, ?_, ?_⟩
  · rw [List.getElem?_map]
    show Option.map iv (nx[k]?) = some (iv (nx.getD k 0))
    rw [List.getD_eq_getElem?_getD, List.getElem?_eq_getElem (by omega)]
    rfl
  · rw [List.length_map]
    unfold ixN
    rw [if_pos (by omega), if_pos (by omega)]
    rfl
  have en : (nx.map iv).set k (V.int (((nf nx k : Nat) : Int) + 1)) = (nx.set k (nf nx k + 1)).map iv := by
    rw [List.map_set]; simp [iv]
  rw [en]
  have hA1 := hA.setN (nx' := nx.set k (nf nx k + 1))
  have c1 : Ch (TL K) (S3 a b c) H (upd H a (.lst ((nx.set k (nf nx k + 1)).map iv))) := Ch.put (Ch.refl e0.tb) hA.n nt_lst (.inr (.inl rfl))
  generalize hH1 : upd H a (.lst ((nx.set k (nf nx k + 1)).map iv)) = H1 at hA1 c1
  clear hH1
  have e1 : Ex (TL K) H0 H1 := Ch.base e0 c1 ne3
  have hmm := hm0.ex e1
  obtain ⟨dx1, hx1⟩ := hA1.ins
  obtain ⟨dm1, am1, bm1, cm1, ws1, vs1, n1, n2, n3, n4, n5, n6⟩ := id hmm
  obtain ⟨pr, y1, y2, y3⟩ := wish_at n5 (m.at_o rlt)
  -- wish, count
  refine ⟨_, rfl, x, _, dx1, _, _, rfl, hx1, t.c_Asking, t.a_Asking_market, rfl, mk, _, dm1, _, _, rfl, n1, t.c_Market, t.a_Market_rooms, rfl, _, rfl, bm1, _, _, _, rfl, rfl, SqL.of n4, y2, ?_⟩
  have qlt : r < m.qs.length := by rw [hok.len]; exact rlt
  refine ⟨_, rfl, x, _, dx1, _, _, rfl, hx1, t.c_Asking, t.a_Asking_market, rfl, mk, _, dm1, _, _, rfl, n1, t.c_Market, t.a_Market_seats, rfl, _, rfl, cm1, _, _, _, rfl, rfl, n6, atI_nat (v := iv (m.q r)) (by rw [List.getElem?_map, m.at_q qlt]; rfl), _, _, rfl, ?_⟩
  -- inside
  refine ⟨_, rfl, x, _, dx1, _, _, rfl, hx1, t.c_Asking, t.a_Asking_held, rfl, _, rfl, b, hd, r, rfl, SqL.of hA1.h, by rw [l2]; exact hok.l64, e1.tb, fun q H2 e2 hq2 => ?_⟩
  have e02 := e1.trans e2
  have hA2 := hA1.ex e2
  have c2 := c1.trans (Ex.weak e2)
  have hw2 := WishAt.ex y3 e2
  obtain ⟨_, _, _, hwx, _⟩ := id hw2
  have ins_iff : ∀ b, b ∈ PM.ins m.M (hf hd) r ↔ b ∈ insN hd r := insN_M l2
  have ins_len := insN_M_len hok (r := r) l2
  have likes_of : ∀ b, b ∈ insN hd r → b < m.ls.length ∧ r ∈ m.l b ∧ b ∈ m.o r := fun b hb => by
    have h1 := PM.mem_ins.mp ((ins_iff b).mpr hb)
    have h2 := (D.hd b h1.1 r h1.2).1
    exact ⟨List.mem_range.mp h2.1, h2.2.2.1, h2.2.2.2⟩
  have knot : k ∉ insN hd r := fun z => by
    have := (PM.mem_ins.mp ((ins_iff k).mpr z)).2
    rw [hnone] at this; cases this
  have cap := D.cap r
  have leq : ∀ {out hd'}, PM.AskOut m.M (hf hd) k r out (hf hd') → (out = some k ∧ hd' = hd) ∨ (out = none ∧ hd' = hd.set k (some r)) ∨ (∃ w, out = some w ∧ w ≠ k ∧ w < m.ls.length ∧ hd' = (hd.set k (some r)).set w none) → ∀ {H3 : Hp} {i3 i5 i6 : Option V}, Ch (TL K) (S3 a b c) H H3 → AskAt K H3 x mk a b c (nx.set k (nf nx k + 1)) hd st →
      tAskTail K { nx := fun _ H' => Q .non H', rt := Q } [some (.ref x), some (iv k), some (iv r), i3, some (ov out), i5, i6] H3 := fun {out hd'} ho hc {H3 i3 i5 i6} c3 a3 =>
    ask_tail t a3 c3 hk l2 hst hc fun v H' c' a' => hQ v H' out hd' c' a' (by
      rcases hc with ⟨_, h⟩ | ⟨_, h⟩ | ⟨w, _, _, _, h⟩ <;> rw [h] <;> simp [l2]) ho
  refine ⟨_, rfl, ?_⟩
  refine ⟨_, rfl, pr, _, _, rfl, hwx, rfl, _, rfl, pr, k, m.o r, rfl, hw2, _, rfl, ?_⟩
  by_cases hko : k ∈ m.o r
  rotate_left
  · rw [decide_eq_false hko]
    exact leq (out := some k) (hd' := hd) (.self fun z => absurd z.2.2.2 hko) (.inl ⟨rfl, rfl⟩) c2 hA2
  rw [decide_eq_true hko]
  have lk : m.M.likes k r := ⟨List.mem_range.mpr hk, List.mem_range.mpr rlt, rmem, hko⟩
  refine ⟨_, rfl, _, _, rfl, rfl, _, rfl, ?_⟩
  by_cases hq0 : m.q r = 0
  · have e9 : decide ((0 : Int) < (m.q r : Int)) = false := by simp [hq0]
    rw [e9]
    refine leq (out := some k) (hd' := hd) (.self fun _ => ⟨?_, fun b hb => ?_⟩) (.inl ⟨rfl, rfl⟩) c2 hA2
    · show m.q r ≤ _
      omega
    · have h1 : (PM.ins m.M (hf hd) r).length ≤ m.q r := cap
      rw [hq0] at h1
      rw [List.length_eq_zero_iff.mp (Nat.le_zero.mp h1)] at hb
      cases hb
  have e9 : decide ((0 : Int) < (m.q r : Int)) = true := by simp; omega
  rw [e9]
  refine ⟨_, rfl, q, _, rfl, .inr hq2, _, rfl, rfl, _, rfl, ?_⟩
  by_cases hfull : (insN hd r).length = m.q r
  rotate_left
  · have e8 : decide (V.int (((insN hd r).map iv).length : Nat) = iv (m.q r)) = false := by simp [iv]; omega
    rw [e8]
    refine leq (out := none) (hd' := hd.set k (some r)) ?_ (.inr (.inl ⟨rfl, rfl⟩)) c2 hA2
    have e7 : hf (hd.set k (some r)) = PM.fset (hf hd) k (some r) := PM.getD_set (by omega)
    rw [e7]
    refine .take lk ?_
    have h1 : (PM.ins m.M (hf hd) r).length ≤ m.q r := cap
    show (PM.ins m.M (hf hd) r).length < m.q r
    omega
  have e8 : decide (V.int (((insN hd r).map iv).length : Nat) = iv (m.q r)) = true := by simp [iv, hfull]
  rw [e8]
  refine ⟨_, rfl, pr, _, _, rfl, hwx, rfl, _, rfl, _, rfl, by show 1 ≤ sizeLine; decide, fun s1 hs1 => ?_⟩
  have e3 : Ex (TL K) H2 (upd H2 s1 (.tup [iv k])) := (Ch.refl e2.tb).new hs1
  have i64 : (insN hd r).length ≤ 63 := by
    have h1 := PM.nodup_sub_len (l₂ := List.range m.ls.length) (List.nodup_cons.mpr ⟨knot, insN_nodup (μ := hd) (r := r)⟩) fun y hy => by
      rcases List.mem_cons.mp hy with rfl | hy
      · exact List.mem_range.mpr hk
      · exact List.mem_range.mpr (likes_of y hy).1
    have := hok.l64
    simp at h1
    omega
  have ne_in : (insN hd r).map iv ≠ [] := fun z => hq0 (by
    have h2 : ((insN hd r).map iv).length = 0 := by rw [z]; rfl
    rw [List.length_map] at h2
    omega)
  refine ⟨q, s1, _, _, rfl, rfl, Ex.sqT e3 hq2, SqT.of upd_same, ?_, fun z => absurd z ne_in, fun _ z => (by cases z), fun _ _ s2 hs2 => ?_⟩
  · rw [List.length_map]
    have := line_big
    simp; omega
  have e4 : Ex (TL K) H2 (upd (upd H2 s1 (.tup [iv k])) s2 (.tup ((insN hd r).map iv ++ [iv k]))) := e3.new hs2
  have hs2t : SqT K (upd (upd H2 s1 (.tup [iv k])) s2 (.tup ((insN hd r).map iv ++ [iv k]))) s2 ((insN hd r ++ [k]).map iv) := SqT.of (by rw [upd_same, List.map_append]; rfl)
  have hw4 := WishAt.ex hw2 e4
  obtain ⟨_, _, _, hwx4, _⟩ := id hw4
  refine ⟨pr, s2, insN hd r ++ [k], m.o r, rfl, hs2t, hw4, by rw [List.length_append]; simp; omega, e4.tb, fun y H5 e5 _ h2 => ?_⟩
  obtain ⟨v, rfl, hv1, hv2, hv3⟩ := h2 ⟨k, by simp, hko⟩
  have ful : m.M.q r ≤ (PM.ins m.M (hf hd) r).length := by
    show m.q r ≤ _
    omega
  have e25 := e4.trans e5
  have strict : ∀ b, b ∈ insN hd r ++ [k] → b ∈ m.o r → b ≠ v → (m.o r).idxOf b < (m.o r).idxOf v := fun b h1 h2 h3 => by
    have h4 := hv3 b h1 h2
    have h5 : (m.o r).idxOf b ≠ (m.o r).idxOf v := fun z => h3 (PM.idx_inj h2 z)
    omega
  by_cases hvk : v = k
  · subst hvk
    refine leq (out := some v) (hd' := hd) (.self fun _ => ⟨ful, fun b hb => ?_⟩) (.inl ⟨rfl, rfl⟩) (c2.trans (Ex.weak e25)) (hA2.ex e25)
    have hb := (ins_iff b).mp hb
    exact strict b (List.mem_append_left _ hb) (likes_of b hb).2.2 fun z => knot (z ▸ hb)
  · have hvi : v ∈ insN hd r := by
      rcases List.mem_append.mp hv1 with z | z
      · exact z
      · exact absurd (List.mem_singleton.mp z) hvk
    refine leq (out := some v) (hd' := (hd.set k (some r)).set v none) ?_ (.inr (.inr ⟨v, rfl, hvk, (likes_of v hvi).1, rfl⟩)) (c2.trans (Ex.weak e25)) (hA2.ex e25)
    have e7 : hf ((hd.set k (some r)).set v none) = PM.fset (PM.fset (hf hd) k (some r)) v none := by
      have h1 : hf (hd.set k (some r)) = PM.fset (hf hd) k (some r) := PM.getD_set (by omega)
      rw [← h1]
      exact PM.getD_set (by rw [List.length_set]; have := (likes_of v hvi).1; omega)
    rw [e7]
    refine .swap v lk hvk ((ins_iff v).mpr hvi) ful (strict k (by simp) hko (Ne.symm hvk)) fun b hb hbv => ?_
    have hb := (ins_iff b).mp hb
    exact strict b (List.mem_append_left _ hb) (likes_of b hb).2.2 hbv
end
end PMT

set_option Elab.async false
set_option linter.all false
set_option maxRecDepth 100000
set_option maxHeartbeats 2000000
/-! W5: asking goes on; trace. -/
namespace PMT
open PySem PySem.Spec PyProof.Rows L2
inductive Run (m : NM) : List Step → List Nat → List (Option Nat) → Prop
  | nil : Run m [] (List.replicate m.ls.length 0) (List.replicate m.ls.length none)
  | step {st nx hd k r out hd'} : Run m st nx hd → k < m.ls.length → hf hd k = none → (m.l k)[nf nx k]? = some r → PM.AskOut m.M (hf hd) k r out (hf hd') → hd'.length = m.ls.length → Run m (st ++ [(k, r, out)]) (nx.set k (nf nx k + 1)) hd'
theorem Run.len {m : NM} {st nx hd} (R : Run m st nx hd) : nx.length = m.ls.length ∧ hd.length = m.ls.length := by
  induction R with
  | nil => simp
  | step _ _ _ _ _ h ih => exact ⟨by rw [List.length_set]; exact ih.1, h⟩
theorem hf_rep {n k : Nat} : hf (List.replicate n none) k = none := by
  simp only [hf, List.getD_eq_getElem?_getD, List.getElem?_replicate]
  split <;> rfl
theorem nf_rep {n k : Nat} : nf (List.replicate n 0) k = 0 := by
  simp only [nf, List.getD_eq_getElem?_getD, List.getElem?_replicate]
  split <;> rfl
theorem Run.da {m : NM} (ok : m.Ok) {st nx hd} (R : Run m st nx hd) : PM.DA m.M (hf hd) (nf nx) := by
  induction R with
  | nil =>
    refine ⟨fun a _ r h => ?_, fun a _ => ?_, fun r => ?_, fun a r _ h _ => ?_⟩
    · rw [hf_rep] at h; cases h
    · rw [nf_rep]; exact Nat.zero_le _
    · have : PM.ins m.M (hf (List.replicate m.ls.length none)) r = [] := by
        refine List.eq_nil_iff_forall_not_mem.mpr fun b hb => ?_
        have := (PM.mem_ins.mp hb).2
        rw [hf_rep] at this; cases this
      rw [this]; exact Nat.zero_le _
    · rw [nf_rep] at h; exact absurd h (Nat.not_lt_zero _)
  | @step st1 nx1 hd1 k r out hd2 R hk hn hr ho hl ih =>
    have e : nf (nx1.set k (nf nx1 k + 1)) = PM.fset (nf nx1) k (nf nx1 k + 1) := PM.getD_set (by rw [R.len.1]; exact hk)
    rw [e]
    exact PM.ask_da (m.wf ok) ih (List.mem_range.mpr hk) hn hr ho
theorem sum_set {l : List Nat} {k : Nat} (h : k < l.length) : (l.set k (nf l k + 1)).sum = l.sum + 1 := by
  induction l generalizing k with
  | nil => simp at h
  | cons a r ih =>
    cases k with
    | zero => simp [nf]; omega
    | succ k =>
      have := ih (k := k) (by simpa using h)
      simp only [nf, List.set_cons_succ, List.getD_cons_succ, List.sum_cons] at this ⊢
      omega
theorem sum_le {l : List Nat} {c : Nat} (h : ∀ x ∈ l, x ≤ c) : l.sum ≤ c * l.length := by
  induction l with
  | nil => simp
  | cons a r ih =>
    have h1 := h a List.mem_cons_self
    have h2 := ih fun x hx => h x (List.mem_cons_of_mem _ hx)
    simp only [List.sum_cons, List.length_cons, Nat.mul_succ]
    omega
theorem Run.st_sum {m : NM} {st nx hd} (R : Run m st nx hd) : st.length = nx.sum := by
  induction R with
  | nil => simp
  | step R hk _ _ _ _ ih =>
    rw [List.length_append, sum_set (by rw [R.len.1]; exact hk), ih]
    rfl
theorem Run.st_le {m : NM} (ok : m.Ok) {st nx hd} (R : Run m st nx hd) : st.length ≤ 4096 := by
  rw [R.st_sum]
  have h1 : nx.sum ≤ 64 * nx.length := sum_le fun x hx => by
    obtain ⟨k, hk, e⟩ := List.getElem_of_mem hx
    have h2 := (R.da ok).nx k (List.mem_range.mpr (by rw [← R.len.1]; exact hk))
    have h3 : nf nx k = x := by
      show nx.getD k 0 = x
      rw [List.getD_eq_getElem?_getD, List.getElem?_eq_getElem hk, e]; rfl
    have h4 := m.l_len ok k
    rw [h3] at h2
    exact Nat.le_trans h2 h4
  rw [R.len.1] at h1
  have := ok.l64
  have h5 : 64 * m.ls.length ≤ 64 * 64 := Nat.mul_le_mul_left _ this
  omega
section
variable {P : Program} {w : World} {K : PySem.W.Frag} {mg : Str → Option Value} {base : Heap}
def spGoOn (K : PySem.W.Frag) : Sp := fun vs H Q _ => ∃ (x mk a b c : Addr) (m : NM) (nx : List Nat) (hd : List (Option Nat)) (st : List Step) (H0 : Hp), vs = [.ref x] ∧ AskAt K H x mk a b c nx hd st ∧ MktAt K H0 mk m ∧ Ex (TL K) H0 H ∧ New H0 a ∧ New H0 b ∧ New H0 c ∧ m.Ok ∧ Run m st nx hd ∧
  ∀ v H' nx' hd' st', Ch (TL K) (S3 a b c) H H' → AskAt K H' x mk a b c nx' hd' st' → Run m st' nx' hd' → (∀ k, k < m.ls.length → wantsB m nx' hd' k = false) → Q v H'
/-- the list of who waits -/
theorem waits_lc {H1 H0 : Hp} {x mk a b c D : Addr} {m : NM} {nx : List Nat} {hd : List (Option Nat)} {st : List Step} {σ : L2.St} {Qd : Hp → Prop} {vs : List Nat} (hA : AskAt K H1 x mk a b c nx hd st) (hm : MktAt K H0 mk m) (e0 : Ex (TL K) H0 H1) (ok : m.Ok) (l1 : nx.length = m.ls.length) (l2 : hd.length = m.ls.length) (hD : H1 D = none)
    (hx : ∀ i (v : V), ((wipe σ vs).set i (some v))[i]? = some (some v) → True) (hv : vs = [2]) (hσ : ∃ y z, σ = [some (.ref x), y, z])
    (hQ : ∀ H2, Ex (TL K) H1 H2 → H2 D = some (.lst (((List.range m.ls.length).filter (wantsB m nx hd)).map iv)) → Qd H2) :
    ∃ W : Nat → Nat → Hp → Prop, (∃ m, W 0 m (upd H1 D (.lst []))) ∧ ∀ i mm H, W i mm H →
      ((Itr 0 m.ls.length).stop i H ∧ Qd H) ∨ ((Itr 0 m.ls.length).go i H ∧ ∃ Nx : Hp → Prop, (∀ H', Nx H' → ∃ m', m' < mm ∧ W (i + 1) m' H') ∧ ∀ x H', (Itr 0 m.ls.length).yld i H x H' → gName 2 x (wipe σ vs) H' fun σ2 H2 => wipe σ2 vs = wipe σ vs ∧ tB (tMeth (He.ga K "Asking") "wants" (spWants K) [] E0 (tVar 0) (tCons (tVar 2) tNil)) σ2 H2 fun b H3 =>
        if b = true then tVar 2 σ2 H3 fun y H4 => ∃ acc, H4 D = some (.lst acc) ∧ acc.length < sizeLine ∧ Nx (upd H4 D (.lst (acc ++ [y]))) else Nx H3) := by
  obtain ⟨y, z, rfl⟩ := hσ
  subst hv
  refine lcf (walk_range (lo := 0)) (ls := List.range m.ls.length) (by simp) (wantsB m nx hd) iv e0.tb hD (fun _ _ => trivial) (by rw [List.length_range]; exact small ok.l64) ?_ hQ
  intro i k v H2 H3 N M hi e hY hN hM
  obtain ⟨rfl, rfl, hk⟩ := yrange hi hY
  have hA2 := hA.ex e
  obtain ⟨dx, hx⟩ := hA2.ins
  refine ⟨rfl, _, rfl, x, dx, _, rfl, hx, rfl, _, rfl, x, mk, a, b, c, m, nx, hd, st, k, rfl, hA2, hm.ex (e0.trans e), l1, l2, hk, _, rfl, ?_⟩
  cases hw : wantsB m nx hd k with
  | true => exact ⟨_, rfl, hM hw _ (Ch.refl e.tb)⟩
  | false => exact hN hw _ (Ch.refl e.tb)
theorem ok_Asking_go_on (t : TX K mg base) : Does P w K mg base CX0 7 ("Asking", some "go_on") ["self"] (spGoOn K) := by
  obtain ⟨fd_Market_size, G_Market_size, b_Market_size, p_Market_size⟩ := ok_Market_size (P := P) (w := w) t
  obtain ⟨fd_Asking_wants, G_Asking_wants, b_Asking_wants, p_Asking_wants⟩ := ok_Asking_wants (P := P) (w := w) t
  obtain ⟨fd_Asking_ask, G_Asking_ask, b_Asking_ask, p_Asking_ask⟩ := ok_Asking_ask (P := P) (w := w) t
  have nd := (sc_Asking_go_on).nd
  refine t.do_Asking_go_on (fun vs H Q E h => by obtain ⟨_, _, _, _, _, _, _, _, _, _, rfl, _⟩ := h; rfl) fun A outer s H vs Q E hr h => ⟨_, PSs.nox ((pss_cons (ps_setLc (X := ((X_Asking_go_on CX0 P w K mg base A outer s H E).nox)) (i := 1) (own := [("asker", 2)]) (g := (gName 2)) rfl nd rfl rfl (sw_true rfl rfl rfl (by decide +kernel)) (pi_range1 (by rfl) t.n_range (pa_cons (pe_meth0 (pe_fldK K rfl (pv 0) rfl) t.c_Market t.m_Market_size G_Market_size (hr.mono (by decide)) b_Market_size .nil pass0) pa_nil)) (blkOk_by (own := [("asker", 2)]) (N := ["self", "waiting", "asker"]) (sc := defScope PMH.s_Asking_go_on) (by decide +kernel)) (fun s1 H1 C1 l1 p1 => (pg_name (i := 2) nd rfl (Or.inl rfl))) (fun s1 H1 C1 l1 p1 => (pts_one (pt_val (pe_meth (pv 0) t.c_Asking t.m_Asking_wants G_Asking_wants (hr.mono (by decide)) b_Asking_wants .nil pass0 (pa_cons (pv 2) pa_nil))))) (fun s1 H1 C1 l1 p1 => (pv 2))) (pss_cons (ps_while PassesOwn.never (pt_cmpR (op_neDK K rfl hr.units) (pv 1) (pe_lst pa_nil) (nomark _)) (pss_cons (ps_expr (pe_meth (pv 0) t.c_Asking t.m_Asking_ask G_Asking_ask (hr.mono (by decide)) b_Asking_ask .nil pass0 (pa_cons (pe_ix (ix_listK K rfl) (pv 1) pe_int (fun _ _ => rfl)) pa_nil))) (pss_one (ps_setLc (X := ((X_Asking_go_on CX0 P w K mg base A outer s H E).nox)) (i := 1) (own := [("asker", 2)]) (g := (gName 2)) rfl nd rfl rfl (sw_true rfl rfl rfl (by decide +kernel)) (pi_range1 (by rfl) t.n_range (pa_cons (pe_meth0 (pe_fldK K rfl (pv 0) rfl) t.c_Market t.m_Market_size G_Market_size (hr.mono (by decide)) b_Market_size .nil pass0) pa_nil)) (blkOk_by (own := [("asker", 2)]) (N := ["self", "waiting", "asker"]) (sc := defScope PMH.s_Asking_go_on) (by decide +kernel)) (fun s1 H1 C1 l1 p1 => (pg_name (i := 2) nd rfl (Or.inl rfl))) (fun s1 H1 C1 l1 p1 => (pts_one (pt_val (pe_meth (pv 0) t.c_Asking t.m_Asking_wants G_Asking_wants (hr.mono (by decide)) b_Asking_wants .nil pass0 (pa_cons (pv 2) pa_nil))))) (fun s1 H1 C1 l1 p1 => (pv 2)))))) (pss_one (ps_ret (pe_callTy (call_tupleK K rfl) (by rfl) t.n_tuple (by decide +kernel) (pa_cons (pe_fldK K rfl (pv 0) rfl) pa_nil))))))), ?_⟩
  obtain ⟨x, mk, a, b, c, m, nx, hd, st, H0, rfl, hA, hm0, e0, na, nb, nc, hok, R, hQ⟩ := h
  obtain ⟨dx, hx⟩ := hA.ins
  have hm := hm0.ex e0
  obtain ⟨dm, am, bm, cm, ws, vs, m1, _⟩ := id hm
  have ne3 : ∀ y, S3 a b c y → New H0 y := fun y z => by
    rcases z with rfl | rfl | rfl
    · exact na
    · exact nb
    · exact nc
  have l64 := hok.l64
  refine ⟨_, rfl, x, _, dx, _, _, rfl, hx, t.c_Asking, t.a_Asking_market, rfl, mk, _, _, rfl, m1, rfl, mk, m, rfl, hm, _, rfl, by omega, by omega, fun D hD => ?_⟩
  refine waits_lc (σ := [some (.ref x), none, none]) hA hm0 e0 hok R.len.1 R.len.2 hD (fun _ _ _ => trivial) rfl ⟨_, _, rfl⟩ fun H1 e1 hD1 => ?_
  refine ⟨fun mm σ H' => ∃ (nx' : List Nat) (hd' : List (Option Nat)) (st' : List Step) (wl : Addr) (z : Option V), σ = [some (.ref x), some (.ref wl), z] ∧ Ch (TL K) (S3 a b c) H H' ∧ AskAt K H' x mk a b c nx' hd' st' ∧ Run m st' nx' hd' ∧
    H' wl = some (.lst (((List.range m.ls.length).filter (wantsB m nx' hd')).map iv)) ∧ mm = 5000 - st'.length, ⟨_, nx, hd, st, D, _, rfl, Ex.weak e1, hA.ex e1, R, hD1, rfl⟩, ?_⟩
  rintro mm σ H2 ⟨nx', hd', st', wl, z, rfl, c2, hA2, R2, hwl, rfl⟩
  refine ⟨_, rfl, by show 0 ≤ sizeLine; exact Nat.zero_le _, fun q hq => ?_⟩
  have e3 : Ex (TL K) H2 (upd H2 q (.lst [])) := (Ch.refl c2.tb).new hq
  refine rd_ne (d := deList deNat) (a := (List.range m.ls.length).filter (wantsB m nx' hd')) (b := []) (by decide) (dp_listF (SqL.of (Ex.k e3 hwl)) dp_nat) (dp_listF (l := []) (f := iv) (SqL.of upd_same) dp_nat) (fun _ _ => trivial) (fun _ _ => trivial) ⟨_, rfl, ?_⟩
  have c3 := c2.trans (Ex.weak e3)
  have hA3 := hA2.ex e3
  cases hf' : (List.range m.ls.length).filter (wantsB m nx' hd') with
  | nil =>
    have e9 : (!decide (([] : List Nat) = [])) = false := by simp
    rw [e9]
    obtain ⟨dx3, hx3⟩ := hA3.ins
    refine ⟨_, rfl, x, _, dx3, _, _, rfl, hx3, t.c_Asking, t.a_Asking_held, rfl, b, _, rfl, .inl ⟨SqL.of hA3.h, fun p hp => ?_⟩⟩
    have e4 : Ex (TL K) _ (upd (upd H2 q (.lst [])) p (.tup (hd'.map ov))) := (Ch.refl c3.tb).new hp
    refine hQ _ _ nx' hd' st' (c3.trans (Ex.weak e4)) (hA3.ex e4) R2 fun k hk => ?_
    have h1 : k ∉ (List.range m.ls.length).filter (wantsB m nx' hd') := by rw [hf']; simp
    simp only [List.mem_filter, List.mem_range, not_and, Bool.not_eq_true] at h1
    exact h1 hk
  | cons k rest =>
    have e9 : (!decide ((k :: rest : List Nat) = [])) = true := by simp
    rw [e9]
    have hk1 : k ∈ (List.range m.ls.length).filter (wantsB m nx' hd') := by rw [hf']; simp
    simp only [List.mem_filter, List.mem_range] at hk1
    obtain ⟨hk, hw⟩ := hk1
    unfold wantsB at hw
    simp only [Bool.and_eq_true, decide_eq_true_eq] at hw
    obtain ⟨r, hr0⟩ : ∃ r, (m.l k)[nf nx' k]? = some r := ⟨_, List.getElem?_eq_getElem hw.2⟩
    have e03 := Ch.base e0 c3 ne3
    obtain ⟨dx3, hx3⟩ := hA3.ins
    have hwl3 := Ex.k e3 hwl
    rw [hf'] at hwl3
    have hst := R2.st_le hok
    refine ⟨fun σ' H' => ∃ mm', mm' < 5000 - st'.length ∧ _, fun σ' H' z => z, ?_⟩
    refine ⟨_, rfl, x, _, _, rfl, hx3, rfl, _, rfl, wl, _, _, _, rfl, rfl, SqL.of hwl3, atI_nat (j := 0) rfl, x, mk, a, b, c, m, nx', hd', st', k, r, H0, rfl, hA3, hm0, e03, na, nb, nc, hok, R2.len.1, R2.len.2, hk, hw.1, hr0, by omega, R2.da hok, fun v H4 out hd4 c4 hA4 hl4 ho4 => ?_⟩
    have R4 := Run.step R2 hk hw.1 hr0 ho4 hl4
    have c04 := c3.trans c4
    have e04 := Ch.base e0 c04 ne3
    have hm4 := hm0.ex e04
    obtain ⟨dm4, _, _, _, _, _, m4, _⟩ := id hm4
    obtain ⟨dx4, hx4⟩ := hA4.ins
    refine ⟨_, rfl, x, _, dx4, _, _, rfl, hx4, t.c_Asking, t.a_Asking_market, rfl, mk, _, _, rfl, m4, rfl, mk, m, rfl, hm4, _, rfl, by omega, by omega, fun D5 hD5 => ?_⟩
    refine waits_lc (σ := [some (.ref x), some (.ref wl), z]) hA4 hm0 e04 hok R4.len.1 R4.len.2 hD5 (fun _ _ _ => trivial) rfl ⟨_, _, rfl⟩ fun H5 e5 hD6 => ?_
    exact ⟨_, by rw [List.length_append]; simp; omega, _, _, _, D5, _, rfl, c04.trans (Ex.weak e5), hA4.ex e5, R4, hD6, rfl⟩

/-- the steps, a tuple of triples -/
def StepsT (K : PySem.W.Frag) (H : Hp) (p : Addr) (st : List Step) : Prop := ∃ es : List Addr, SqT K H p (es.map V.ref) ∧ Paired (fun q e => SqT K H q [iv e.1, iv e.2.1, ov e.2.2]) es st
theorem StepsT.ex {T H H' p st} (h : StepsT K H p st) (e : Ex T H H') : StepsT K H' p st := by
  obtain ⟨as, h1, h2⟩ := h
  exact ⟨as, Ex.sqT e h1, Paired.mapP h2 fun _ _ z => Ex.sqT e z⟩
def spTrace (K : PySem.W.Frag) : Sp := fun vs H Q _ => ∃ (mk : Addr) (m : NM), vs = [.ref mk] ∧ MktAt K H mk m ∧ m.Ok ∧ LamX.Tabs (TL K) H ∧ ∀ p H' st nx hd, Ex (TL K) H H' → StepsT K H' p st → Run m st nx hd → (∀ k, k < m.ls.length → wantsB m nx hd k = false) → Q (.ref p) H'
theorem ok_trace (t : TX K mg base) : Does P w K mg base CX0 8 ("trace", none) ["market"] (spTrace K) := by
  obtain ⟨fd_Asking_init, G_Asking_init, b_Asking_init, p_Asking_init⟩ := ok_Asking_init (P := P) (w := w) t
  obtain ⟨fd_Asking_go_on, G_Asking_go_on, b_Asking_go_on, p_Asking_go_on⟩ := ok_Asking_go_on (P := P) (w := w) t
  have nd := (sc_trace).nd
  refine t.do_trace (fun vs H Q E h => by obtain ⟨_, _, rfl, _⟩ := h; rfl) fun A outer s H vs Q E hr h => ⟨_, PSs.nox ((pss_cons (ps_set (i := 1) nd rfl (Or.inl rfl) (pe_make t.k_Asking G_Asking_init (hr.mono (by decide)) (by rfl) t.g_Asking b_Asking_init .nil pass0 (pa_cons (pv 0) pa_nil))) (pss_cons (ps_expr (pe_meth0 (pv 1) t.c_Asking t.m_Asking_go_on G_Asking_go_on (hr.mono (by decide)) b_Asking_go_on .nil pass0)) (pss_one (ps_ret (pe_callTy (call_tupleK K rfl) (by rfl) t.n_tuple (by decide +kernel) (pa_cons (pe_fldK K rfl (pv 1) rfl) pa_nil))))))), ?_⟩
  obtain ⟨mk, m, rfl, hm, hok, hT, hQ⟩ := h
  refine ⟨_, rfl, fun x dx hx hdx hne => ?_⟩
  have e1 : Ex (TL K) H (upd H dx (.own x)) := (Ch.refl hT).new hdx
  have hx1 : upd H dx (.own x) x = none := by rw [upd_ne (Ne.symm hne)]; exact hx
  have e2 : Ex (TL K) H (upd (upd H dx (.own x)) x (.ins (He.ga K "Asking") dx [])) := e1.new hx1
  refine ⟨x, mk, dx, m, rfl, upd_same, hm.ex e2, hok, e2.tb, fun a b c H2 c2 hA na nb nc => ⟨rfl, ?_⟩⟩
  have e3 : Ex (TL K) H H2 := Ch.made c2 hx hdx
  have na' : New H a := Ex.backN e2 na
  have nb' : New H b := Ex.backN e2 nb
  have nc' : New H c := Ex.backN e2 nc
  obtain ⟨dx2, hx2⟩ := hA.ins
  refine ⟨_, rfl, x, _, _, rfl, hx2, rfl, x, mk, a, b, c, m, _, _, _, H, rfl, hA, hm, e3, na', nb', nc', hok, .nil, fun v H3 nx hd st c3 hA3 R3 hw3 => ?_⟩
  have e4 : Ex (TL K) H H3 := Ch.base e3 c3 fun y z => by
    rcases z with rfl | rfl | rfl
    · exact na'
    · exact nb'
    · exact nc'
  obtain ⟨dx3, hx3⟩ := hA3.ins
  obtain ⟨es, hs1, hs2⟩ := hA3.s
  refine ⟨_, rfl, x, _, dx3, _, _, rfl, hx3, t.c_Asking, t.a_Asking_steps, rfl, c, _, rfl, .inl ⟨SqL.of hs1, fun p hp => ?_⟩⟩
  have e5 : Ex (TL K) H3 (upd H3 p (.tup (es.map V.ref))) := (Ch.refl e4.tb).new hp
  exact hQ p _ st nx hd (e4.trans e5) ⟨es, SqT.of upd_same, Paired.mapP hs2 fun _ _ z => Ex.sqT e5 z⟩ R3 hw3
end
end PMT

set_option Elab.async false
set_option linter.all false
set_option maxRecDepth 100000
set_option maxHeartbeats 2000000
/-! W6: the paper of what is stable. -/
namespace PMT
open PySem PySem.Spec PyProof.Rows L2
def whyN (m : NM) (μ : List (Option Nat)) (k r : Nat) : Str := if betterB (m.l k) (hf μ k) (some r) then "has" else "full"
/-- a matching that may be shown to be stable -/
structure Good (m : NM) (μ : List (Option Nat)) : Prop where
  len : μ.length = m.ls.length
  ir : ∀ k r, μ[k]? = some (some r) → r ∈ m.l k ∧ k ∈ m.o r
  cap : ∀ r, (insN μ r).length ≤ m.q r
  nb : ∀ k r, (k, r) ∈ m.prs → hf μ k ≠ some r → betterB (m.l k) (hf μ k) (some r) = false → (insN μ r).length = m.q r ∧ ∀ b ∈ insN μ r, betterB (m.o r) (some b) (some k) = true
theorem Good.rlt {m : NM} (ok : m.Ok) {μ} (g : Good m μ) {k r : Nat} (h : μ[k]? = some (some r)) : r < m.os.length := by
  have hk : k < m.ls.length := by rw [← g.len]; exact (List.getElem?_eq_some_iff.mp h).1
  exact (ok.lnd _ (List.mem_of_getElem? (m.at_l hk))).2.2 r (g.ir k r h).1
theorem NM.prs_lt {m : NM} (ok : m.Ok) {k r : Nat} (h : (k, r) ∈ m.prs) : k < m.ls.length ∧ r < m.os.length := by
  obtain ⟨h1, h2, h3⟩ := m.mem_prs.mp h
  exact ⟨h1, (ok.lnd _ (List.mem_of_getElem? (m.at_l h1))).2.2 r h2⟩
def dueN (m : NM) (μ : List (Option Nat)) : List (Nat × Nat) := m.prs.filter fun p => decide (hf μ p.1 ≠ some p.2)
theorem NM.prs_len {m : NM} (ok : m.Ok) : m.prs.length ≤ 4096 := by
  have : ∀ n, ((List.range n).flatMap m.prsK).length ≤ 64 * n := by
    intro n
    induction n with
    | zero => simp
    | succ n ih =>
      rw [List.range_succ, List.flatMap_append, List.length_append]
      have := m.prsK_len ok n
      simp only [List.flatMap_cons, List.flatMap_nil, List.append_nil]
      omega
  have h1 := this m.ls.length
  have h2 := ok.l64
  have h3 : 64 * m.ls.length ≤ 64 * 64 := Nat.mul_le_mul_left _ h2
  unfold NM.prs
  omega
/-- triples (asker, room, word) -/
def StabT (K : PySem.W.Frag) (H : Hp) (p : Addr) (l : List (Nat × Nat × Str)) : Prop := ∃ as : List Addr, SqT K H p (as.map V.ref) ∧ Paired (fun q e => H q = some (.tup [iv e.1, iv e.2.1, .str e.2.2])) as l
theorem StabT.ex {K T H H' p l} (h : StabT K H p l) (e : Ex T H H') : StabT K H' p l := by
  obtain ⟨as, h1, h2⟩ := h
  exact ⟨as, Ex.sqT e h1, Paired.mapP h2 fun _ _ z => Ex.k e z⟩
def stabRows (m : NM) (μ : List (Option Nat)) : List (Nat × Nat × Str) := (dueN m μ).map fun p => (p.1, p.2, whyN m μ p.1 p.2)
theorem ov_at {μ : List (Option Nat)} {k : Nat} (h : k < μ.length) : (μ.map ov)[k]? = some (ov (hf μ k)) := by
  rw [List.getElem?_map]
  simp [hf, List.getD_eq_getElem?_getD, List.getElem?_eq_getElem h]
section
variable {P : Program} {w : World} {K : PySem.W.Frag} {mg : Str → Option Value} {base : Heap}
def spWhyNot (K : PySem.W.Frag) : Sp := fun vs H Q _ => ∃ (x p : Addr) (m : NM) (μ : List (Option Nat)) (k r : Nat), vs = [.ref x, .ref p, iv k, iv r] ∧ MktAt K H x m ∧ m.Ok ∧ SqT K H p (μ.map ov) ∧ Good m μ ∧ (k, r) ∈ m.prs ∧ hf μ k ≠ some r ∧ LamX.Tabs (TL K) H ∧ ∀ H', Ex (TL K) H H' → Q (.str (whyN m μ k r)) H'
theorem ok_why_not (t : TX K mg base) : Does P w K mg base CX0 7 ("why_not", none) ["market", "match", "asker", "room"] (spWhyNot K) := by
  obtain ⟨fd_Wish_better, G_Wish_better, b_Wish_better, p_Wish_better⟩ := ok_Wish_better (P := P) (w := w) t
  obtain ⟨fd_those_in_T, G_those_in_T, b_those_in_T, p_those_in_T⟩ := ok_those_in_T (P := P) (w := w) t
  have nd := (sc_why_not).nd
  refine t.do_why_not (fun vs H Q E h => by obtain ⟨_, _, _, _, _, _, rfl, _⟩ := h; rfl) fun A outer s H vs Q E hr h => ⟨_, PSs.nox ((pss_cons (ps_if (pt_val (pe_meth (pe_ix (ix_listK K rfl) (pe_fldK K rfl (pv 0) rfl) (pv 2) (fun _ _ => rfl)) t.c_Wish t.m_Wish_better G_Wish_better (hr.mono (by decide)) b_Wish_better .nil pass0 (pa_cons (pe_ix (ix_tupK K rfl) (pv 1) (pv 2) (fun _ _ => rfl)) (pa_cons (pv 3) pa_nil)))) (pss_one (ps_ret pe_str)) pss_nil) (pss_cons (ps_asg (pe_tup (pa_cons (pe_call G_those_in_T (hr.mono (by decide)) (by rfl) t.g_those_in p_those_in_T b_those_in_T .nil pass0 (pa_cons (pv 1) (pa_cons (pv 3) pa_nil))) (pa_cons (pe_ix (ix_listK K rfl) (pe_fldK K rfl (pv 0) rfl) (pv 3) (fun _ _ => rfl)) pa_nil))) (pg_tup rfl (pgs_cons (pg_name (i := 4) nd rfl (Or.inl rfl)) (pgs_cons (pg_name (i := 5) nd rfl (Or.inr rfl)) pgs_nil)))) (pss_cons (ps_if (PW.pt (pw_and (pt_cmpR op_eq (pe_callB (call_lenK K rfl) (by rfl) t.n_len PySem.boot_len (pa_cons (pv 4) pa_nil)) (pe_ix (ix_tupK K rfl) (pe_fldK K rfl (pv 0) rfl) (pv 3) (fun _ _ => rfl)) (nomark _)) (pw_and1 (pt_val (GX.pe_allG (k := 3) (ix := 6) (T := TL K) (hr.mono (by decide)) (by rfl) (by rfl) t.n_all t.t_why_not (by rfl) t.tm_why_not (t.tu t.tm_why_not) (GX.gsc_by (N := ["market", "match", "asker", "room", "inside", "wish", "other"]) (sc := defScope PMH.s_why_not) (by decide +kernel)) (pi_tupK K rfl (pv 4)) (fun _ _ _ _ _ _ hr2 => (pe_meth (pv 5) t.c_Wish t.m_Wish_better G_Wish_better (hr2.mono (by decide)) b_Wish_better .nil pass0 (pa_cons (pv 6) (pa_cons (pv 2) pa_nil))))))))) (pss_one (ps_ret pe_str)) pss_nil) (pss_one ps_never))))), ?_⟩
  obtain ⟨x, p, m, μ, k, r, rfl, hm, hok, hp, g, hpr, hne, hT, hQ⟩ := h
  obtain ⟨hk, hrl⟩ := m.prs_lt hok hpr
  obtain ⟨dm, a, b, c, ws, vs, h1, h2, h3, h4, h5, h6⟩ := id hm
  obtain ⟨q, q1, q2, q3⟩ := wish_at h3 (m.at_l hk)
  obtain ⟨_, _, _, w1, _⟩ := id q3
  obtain ⟨q', q1', q2', q3'⟩ := wish_at h5 (m.at_o hrl)
  unfold whyN at hQ
  have hkl : k < μ.length := by rw [g.len]; exact hk
  refine ⟨_, rfl, x, _, dm, _, _, rfl, h1, t.c_Market, t.a_Market_askers, rfl, _, rfl, a, _, _, _, rfl, rfl, SqL.of h2, q2, q, _, _, rfl, w1, rfl, ?_⟩
  refine ⟨_, rfl, _, rfl, p, _, _, _, rfl, rfl, hp, atI_nat (ov_at hkl), _, rfl, q, hf μ k, some r, m.l k, rfl, q3, _, rfl, ?_⟩
  cases hb : betterB (m.l k) (hf μ k) (some r) with
  | true =>
    rw [hb] at hQ
    exact hQ H (Ch.refl hT)
  | false =>
    rw [hb] at hQ
    obtain ⟨g1, g2⟩ := g.nb k r hpr hne hb
    refine ⟨_, rfl, _, rfl, p, μ, r, rfl, hp, by rw [g.len]; exact hok.l64, hT, fun s1 H1 e1 hs1 => ?_⟩
    refine ⟨_, rfl, x, _, dm, _, _, rfl, Ex.k e1 h1, t.c_Market, t.a_Market_rooms, rfl, _, rfl, b, _, _, _, rfl, rfl, SqL.of (Ex.k e1 h4), q2', by show 2 ≤ sizeLine; decide, fun tp htp => ?_⟩
    have e1' : Ex (TL K) H1 (upd H1 tp (.tup [.ref s1, .ref q'])) := (Ch.refl e1.tb).new htp
    refine ⟨tp, _, rfl, SqT.of upd_same, rfl, _, _, rfl, _, _, rfl, rfl, ?_⟩
    replace hs1 := Ex.sqT e1' hs1
    replace e1 := e1.trans e1'
    clear e1'
    have qlt : r < m.qs.length := by rw [hok.len]; exact hrl
    refine ⟨_, rfl, s1, _, rfl, .inr hs1, _, rfl, x, _, dm, _, _, rfl, Ex.k e1 h1, t.c_Market, t.a_Market_seats, rfl, _, rfl, c, _, _, _, rfl, rfl, Ex.sqT e1 h6, atI_nat (v := iv (m.q r)) (by rw [List.getElem?_map, m.at_q qlt]; rfl), rfl, _, rfl, ?_⟩
    have e8 : decide (V.int (((insN μ r).map iv).length : Nat) = iv (m.q r)) = true := by simp [iv, g1]
    rw [e8]
    refine ⟨_, rfl, s1, rfl, ⟨_, hs1⟩, e1.tb, fun H2 e2 t2 => ?_⟩
    have e12 := e1.ext e2 t2
    have hs2 := Ex.sqT ((Ch.refl e1.tb).ext e2 t2) hs1
    refine agx_all walk_tup (ls := insN μ r) (by simp) (fun _ => true) t2 (fun H e => Ex.sqT e hs2) ?_ ?_
    · intro i o v H3 H4 M hi e hY hM
      obtain ⟨rfl, rfl⟩ := yat hi hY
      have q3'' := WishAt.ex q3' (e12.trans e)
      obtain ⟨_, _, _, w1', _⟩ := id q3''
      refine ⟨_, rfl, q', _, _, rfl, w1', rfl, _, rfl, _, rfl, q', some o, some k, m.o r, rfl, q3'', ?_⟩
      rw [g2 o (List.mem_of_getElem? hi)]
      exact hM _ (Ch.refl e.tb)
    · intro H5 e5
      have e9 : (insN μ r).all (fun _ => true) = true := by simp
      rw [e9]
      exact ⟨_, rfl, hQ _ (e12.trans e5)⟩
def spStable (K : PySem.W.Frag) : Sp := fun vs H Q _ => ∃ (x p : Addr) (m : NM) (μ : List (Option Nat)), vs = [.ref x, .ref p] ∧ MktAt K H x m ∧ m.Ok ∧ SqT K H p (μ.map ov) ∧ Good m μ ∧ LamX.Tabs (TL K) H ∧ ∀ q H', Ex (TL K) H H' → StabT K H' q (stabRows m μ) → Q (.ref q) H'
theorem ok_stable_paper (t : TX K mg base) : Does P w K mg base CX0 8 ("stable_paper", none) ["market", "match"] (spStable K) := by
  obtain ⟨fd_Market_pairs, G_Market_pairs, b_Market_pairs, p_Market_pairs⟩ := ok_Market_pairs (P := P) (w := w) t
  obtain ⟨fd_why_not, G_why_not, b_why_not, p_why_not⟩ := ok_why_not (P := P) (w := w) t
  obtain ⟨fd_unwanted, G_unwanted, b_unwanted, p_unwanted⟩ := ok_unwanted (P := P) (w := w) t
  have nd := (sc_stable_paper).nd
  refine t.do_stable_paper (fun vs H Q E h => by obtain ⟨_, _, _, _, rfl, _⟩ := h; rfl) fun A outer s H vs Q E hr h => ⟨_, PSs.nox ((pss_cons (ps_set (i := 2) nd rfl (Or.inl rfl) (pe_lst pa_nil)) (pss_cons (ps_for PassesOwn.never rfl (pi_tupK K rfl (pe_meth0 (pv 0) t.c_Market t.m_Market_pairs G_Market_pairs (hr.mono (by decide)) b_Market_pairs .nil pass0)) (pg_tup rfl (pgs_cons (pg_name (i := 3) nd rfl (Or.inl rfl)) (pgs_cons (pg_name (i := 4) nd rfl (Or.inl rfl)) pgs_nil))) (pss_one (ps_if (pt_cmpR op_ne (pe_ix (ix_tupK K rfl) (pv 1) (pv 3) (fun _ _ => rfl)) (pv 4) (nomark _)) (pss_one (ps_expr (pe_bmK K rfl PySem.F.plainAttrs_list PySem.F.slot_list_append PySem.F.type_list_append mt_append (pv 2) (pa_cons (pe_tup (pa_cons (pv 3) (pa_cons (pv 4) (pa_cons (pe_call G_why_not (hr.mono (by decide)) (by rfl) t.g_why_not p_why_not b_why_not .nil pass0 (pa_cons (pv 0) (pa_cons (pv 1) (pa_cons (pv 3) (pa_cons (pv 4) pa_nil))))) pa_nil)))) pa_nil)))) pss_nil))) (pss_cons (ps_if (pt_cmpR (op_neDK K rfl hr.units) (pe_call G_unwanted (hr.mono (by decide)) (by rfl) t.g_unwanted p_unwanted b_unwanted .nil pass0 (pa_cons (pv 0) (pa_cons (pv 1) pa_nil))) (pe_tup pa_nil) (nomark _)) (pss_one ps_never) pss_nil) (pss_one (ps_ret (pe_callTy (call_tupleK K rfl) (by rfl) t.n_tuple (by decide +kernel) (pa_cons (pv 2) pa_nil)))))))), ?_⟩
  obtain ⟨x, p, m, μ, rfl, hm, hok, hp, g, hT, hQ⟩ := h
  obtain ⟨dm, a, b, c, ws, vs, h1, h2, h3, h4, h5, h6⟩ := id hm
  refine ⟨by show 0 ≤ sizeLine; exact Nat.zero_le _, fun F hF => ?_⟩
  have e1 : Ex (TL K) H (upd H F (.lst [])) := (Ch.refl hT).new hF
  have hpl := m.prs_len hok
  refine ⟨_, rfl, x, _, _, rfl, Ex.k e1 h1, rfl, x, m, rfl, hm.ex e1, hok, e1.tb, fun pt H1 e2 hpt => ?_⟩
  obtain ⟨ps, hp1, hp2⟩ := hpt
  have lps := hp2.length
  refine ⟨pt, rfl, ⟨_, hp1⟩, ?_⟩
  have hF1 := Ex.k e2 upd_same
  refine for_it (walk_tup (xs := ps.map V.ref)) (fun i σ H' => (∃ u v, σ = [some (.ref x), some (.ref p), some (.ref F), u, v]) ∧ Ex (TL K) H H' ∧ Ch (TL K) (fun y => y = F) H1 H' ∧ ∃ as : List Addr, H' F = some (.lst (as.map V.ref)) ∧
    Paired (fun q e => H' q = some (.tup [iv e.1, iv e.2.1, .str e.2.2])) as (((m.prs.take i).filter fun p => decide (hf μ p.1 ≠ some p.2)).map fun p => (p.1, p.2, whyN m μ p.1 p.2))) ?_ ?_ ?_ ?_
  · exact ⟨⟨_, _, rfl⟩, e1.trans e2, Ch.refl e2.tb, [], hF1, by simpa using Paired.nil⟩
  · intro i σ H' _ q
    exact q.2.2.1.sqT1 hF1 hp1
  · intro i v σ H2 H3 hi q hY
    obtain ⟨⟨u, v', rfl⟩, e, c12, as, hF2, has⟩ := q
    have hi' : i < m.prs.length := by rw [List.length_map, lps] at hi; exact hi
    obtain ⟨⟨k, r⟩, hkr⟩ : ∃ z, m.prs[i]? = some z := ⟨_, List.getElem?_eq_getElem hi'⟩
    obtain ⟨q, hq1, hq2⟩ := Paired.get hp2 hkr
    obtain ⟨rfl, rfl⟩ := yat hq1 hY
    have hq3 := c12.k hq2 (ne_of hq2 hF1 nofun)
    have hpr : (k, r) ∈ m.prs := List.mem_of_getElem? hkr
    obtain ⟨hk, hrl⟩ := m.prs_lt hok hpr
    have hkl : k < μ.length := by rw [g.len]; exact hk
    refine ⟨q, _, rfl, SqT.of hq3, rfl, _, _, rfl, _, _, rfl, rfl, ?_⟩
    have hpe := Ex.sqT e hp
    refine ⟨_, rfl, _, rfl, p, _, _, _, rfl, rfl, hpe, atI_nat (ov_at hkl), _, rfl, by cases hf μ k <;> rfl, _, rfl, ?_⟩
    rw [ov_ne]
    by_cases hkr2 : hf μ k = some r
    · rw [decide_eq_true hkr2]
      refine ⟨⟨_, _, rfl⟩, e, c12, as, hF2, ?_⟩
      rw [take_snoc hkr, List.filter_append, show List.filter (fun p : Nat × Nat => decide (hf μ p.1 ≠ some p.2)) [(k, r)] = [] from List.filter_cons_of_neg (by rw [decide_eq_true_eq]; exact fun z => z hkr2), List.append_nil]
      exact has
    · rw [decide_eq_false hkr2]
      refine ⟨_, rfl, .inl ⟨rfl, _, SqL.of hF2⟩, ?_⟩
      refine ⟨_, rfl, _, rfl, _, rfl, _, rfl, _, rfl, _, rfl, x, p, m, μ, k, r, rfl, hm.ex e, hok, hpe, g, hpr, hkr2, e.tb, fun H4 e4 => ?_⟩
      refine ⟨by show 3 ≤ sizeLine; decide, fun nt hnt => ?_⟩
      have e5 : Ex (TL K) H3 (upd H4 nt (.tup [iv k, iv r, .str (whyN m μ k r)])) := e4.new hnt
      have hF5 := Ex.k e5 hF2
      have ntF : nt ≠ F := fun z => by subst z; rw [Ex.k e4 hF2] at hnt; cases hnt
      refine ⟨F, _, .ref nt, rfl, rfl, hF5, ?_, ?_⟩
      · have h7 := has.length
        rw [List.length_map] at h7
        have h8 := List.length_filter_le (fun p : Nat × Nat => decide (hf μ p.1 ≠ some p.2)) (m.prs.take i)
        have h9 : (m.prs.take i).length ≤ m.prs.length := by rw [List.length_take]; omega
        have := line_big
        rw [List.length_map]; omega
      have c6 : Ch (TL K) (fun y => y = F) (upd H4 nt (.tup [iv k, iv r, .str (whyN m μ k r)])) (upd (upd H4 nt (.tup [iv k, iv r, .str (whyN m μ k r)])) F (.lst (as.map V.ref ++ [.ref nt]))) := Ch.put (Ch.refl e5.tb) hF5 nt_lst (.inr rfl)
      refine ⟨⟨_, _, rfl⟩, Ch.put0 (e.trans e5) hF5 nt_lst hF, (c12.trans (Ex.weak e5)).trans c6, as ++ [nt], by rw [upd_same, List.map_append]; rfl, ?_⟩
      rw [take_snoc hkr, List.filter_append, show List.filter (fun p : Nat × Nat => decide (hf μ p.1 ≠ some p.2)) [(k, r)] = [(k, r)] from List.filter_cons_of_pos (decide_eq_true hkr2), List.map_append]
      refine Paired.snoc (Paired.mapP has fun q e z => c6.k (Ex.k e5 z) (ne_of (Ex.k e5 z) hF5 nofun)) (c6.k upd_same ntF)
  · intro σ H' q
    obtain ⟨⟨u, v', rfl⟩, e, c12, as, hF2, has⟩ := q
    rw [List.length_map, lps, List.take_length] at has
    refine ⟨_, rfl, _, rfl, x, p, m, μ, rfl, hm.ex e, hok, Ex.sqT e hp, g.len, g.ir, e.tb, fun uq H4 e4 huq => ?_⟩
    refine ⟨by show 0 ≤ sizeLine; exact Nat.zero_le _, fun nt hnt => ?_⟩
    have e5 : Ex (TL K) H' (upd H4 nt (.tup [])) := e4.new hnt
    have e45 : Ex (TL K) H4 (upd H4 nt (.tup [])) := (Ch.refl e4.tb).new hnt
    refine rd_ne (d := deTup deNat) (a := []) (b := []) (by decide) (dp_tupF (l := []) (f := iv) (Ex.sqT e45 huq) dp_nat) (dp_tupF (l := []) (f := iv) (SqT.of upd_same) dp_nat) (fun _ _ => trivial) (fun _ _ => trivial) ⟨_, rfl, ?_⟩
    have e9 : (!decide (([] : List Nat) = [])) = false := by simp
    rw [e9]
    refine ⟨_, rfl, F, _, rfl, .inl ⟨SqL.of (Ex.k e5 hF2), fun fq hfq => ?_⟩⟩
    have e6 : Ex (TL K) H' (upd (upd H4 nt (.tup [])) fq (.tup (as.map V.ref))) := e5.new hfq
    exact hQ fq _ (e.trans e6) ⟨as, SqT.of upd_same, Paired.mapP has fun _ _ z => Ex.k e6 z⟩
end
end PMT

set_option Elab.async false
set_option linter.all false
set_option maxRecDepth 100000
set_option maxHeartbeats 2000000
/-! W7: the stable paper is taken. -/
namespace PMT
open PySem PySem.Spec PyProof.Rows L2
/-! ### sorted lists of pairs -/
def keyH (H : Hp) : V → Int × Int
  | .ref t => match H t with
    | some (.tup [.int i, .int j]) => (i, j)
    | _ => (0, 0)
  | _ => (0, 0)
def nk (H : Hp) (v : V) : Nat × Nat := ((keyH H v).1.toNat, (keyH H v).2.toNat)
theorem keyH_at {H : Hp} {t : Addr} {pr : Nat × Nat} (h : H t = some (.tup [iv pr.1, iv pr.2])) : keyH H (.ref t) = ((pr.1 : Int), (pr.2 : Int)) := by
  unfold keyH
  simp only [h, iv]
theorem nk_at {H : Hp} {t : Addr} {pr : Nat × Nat} (h : H t = some (.tup [iv pr.1, iv pr.2])) : nk H (.ref t) = pr := by
  unfold nk
  rw [keyH_at h]
  simp
def leP (a b : Nat × Nat) : Prop := ¬ (b.1 < a.1 ∨ (b.1 = a.1 ∧ b.2 < a.2))
theorem leP_anti {a b : Nat × Nat} (h1 : leP a b) (h2 : leP b a) : a = b := by
  unfold leP at h1 h2
  obtain ⟨a1, a2⟩ := a
  obtain ⟨b1, b2⟩ := b
  simp only at h1 h2
  have : a1 = b1 := by omega
  subst this
  have : a2 = b2 := by omega
  rw [this]
theorem data_of {H : Hp} {as : List Addr} {l : List (Nat × Nat)} (h : Paired (fun q pr => H q = some (.tup [iv pr.1, iv pr.2])) as l) : (as.map V.ref).map (nk H) = l := by
  induction h with
  | nil => rfl
  | cons h _ ih => rw [List.map_cons, List.map_cons, nk_at h, ih]
theorem pairs_get {H : Hp} {as : List Addr} {l : List (Nat × Nat)} (h : Paired (fun q pr => H q = some (.tup [iv pr.1, iv pr.2])) as l) {v : V} (hv : v ∈ as.map V.ref) : ∃ t, v = .ref t ∧ H t = some (.tup [iv (nk H v).1, iv (nk H v).2]) := by
  obtain ⟨t, ht, rfl⟩ := List.mem_map.mp hv
  obtain ⟨i, hi, e⟩ := List.getElem_of_mem ht
  obtain ⟨pr, _, h2⟩ := Paired.getL h (i := i) (a := t) (by rw [List.getElem?_eq_getElem hi, e])
  exact ⟨t, rfl, by rw [nk_at h2]; exact h2⟩
theorem sorted_pw {H : Hp} {as : List Addr} {l : List (Nat × Nat)} (h : Paired (fun q pr => H q = some (.tup [iv pr.1, iv pr.2])) as l) {ys : List V} (s : SrtO.Srtd (ltP (keyH H)) ys) (st : SrtO.Stb (ltP (keyH H)) ys (as.map V.ref)) :
    (ys.map (nk H)).Pairwise leP ∧ (ys.map (nk H)).Perm l := by
  refine ⟨?_, ?_⟩
  · rw [List.pairwise_map]
    have s' : ys.Pairwise fun x y => ltP (keyH H) y x = false := s
    refine List.Pairwise.imp_of_mem ?_ s'
    intro a b ha hb hab
    obtain ⟨t, rfl, h1⟩ := pairs_get h (st.perm.mem_iff.mp ha)
    obtain ⟨u, rfl, h2⟩ := pairs_get h (st.perm.mem_iff.mp hb)
    have h3 : SrtO.lexB (keyH H (.ref u)) (keyH H (.ref t)) = false := hab
    rw [keyH_at h1, keyH_at h2] at h3
    have h4 := SrtO.lexB_no.mp h3
    unfold leP
    simp only at h4
    omega
  · have := st.perm.map (nk H)
    rw [data_of h] at this
    exact this
theorem dp_sorted {K : PySem.W.Frag} {H H' : Hp} {T : List (Addr × Str)} (e : Ex T H H') {as : List Addr} {l : List (Nat × Nat)} (h : Paired (fun q pr => H q = some (.tup [iv pr.1, iv pr.2])) as l) {ys : List V} (st : ys.Perm (as.map V.ref)) {p : Addr} (hp : H' p = some (.lst ys)) :
    Dp K H' (.ref p) ((deList (deP2 deNat deNat)).e (ys.map (nk H))) := by
  refine dp_list (SqL.of hp) ?_
  have : ∀ zs : List V, (∀ v ∈ zs, v ∈ as.map V.ref) → Paired (fun a y => Dp K H' y ((deP2 deNat deNat).e a)) (zs.map (nk H)) zs := by
    intro zs
    induction zs with
    | nil => intro _; exact .nil
    | cons v r ih =>
      intro hz
      refine .cons ?_ (ih fun u hu => hz u (List.mem_cons_of_mem _ hu))
      obtain ⟨t, e1, e2⟩ := pairs_get h (hz v List.mem_cons_self)
      rw [e1] at e2 ⊢
      exact dp_p2 (SqT.of (Ex.k e e2)) (dp_nat _) (dp_nat _)
  exact this ys fun v hv => st.mem_iff.mp hv
theorem filt_refs {R : Addr → Nat × Nat → Prop} {f : Nat × Nat → Bool} : ∀ {ps : List Addr} {l : List (Nat × Nat)} {ys : List V}, Paired R ps l → Paired (fun (a : Addr × Nat × Nat) y => y = V.ref a.1) ((ps.zip l).filter fun z => f z.2) ys → ∃ as : List Addr, ys = as.map V.ref ∧ Paired R as (l.filter f)
  | _, _, _, .nil, h => by
    cases h
    exact ⟨[], rfl, .nil⟩
  | q :: qs, pr :: prs, ys, .cons z t, h => by
    rw [List.zip_cons_cons, List.filter_cons] at h
    cases hc : f pr with
    | true =>
      rw [if_pos hc] at h
      cases h with
      | cons e1 t' =>
        obtain ⟨as, e2, e3⟩ := filt_refs t t'
        exact ⟨q :: as, by rw [e1, e2]; rfl, by rw [List.filter_cons_of_pos hc]; exact .cons z e3⟩
    | false =>
      rw [if_neg (by simp [hc])] at h
      obtain ⟨as, e2, e3⟩ := filt_refs t h
      exact ⟨as, e2, by rw [List.filter_cons_of_neg (by simp [hc])]; exact e3⟩
theorem oks2 (l : List (Nat × Nat)) : (deList (deP2 deNat deNat)).ok l := fun _ _ => ⟨trivial, trivial⟩
section
variable {P : Program} {w : World} {K : PySem.W.Frag} {mg : Str → Option Value} {base : Heap}
def spCheckStable (K : PySem.W.Frag) : Sp := fun vs H Q _ => ∃ (x p pp : Addr) (m : NM) (μ : List (Option Nat)), vs = [.ref x, .ref p, .ref pp] ∧ MktAt K H x m ∧ m.Ok ∧ SqT K H p (μ.map ov) ∧ Good m μ ∧ StabT K H pp (stabRows m μ) ∧ LamX.Tabs (TL K) H ∧ ∀ H', Ex (TL K) H H' → Q (.bl true) H'
theorem ok_check_stable (t : TX K mg base) : Does P w K mg base CX0 7 ("check_stable", none) ["market", "match", "paper"] (spCheckStable K) := by
  obtain ⟨fd_check_match, G_check_match, b_check_match, p_check_match⟩ := ok_check_match (P := P) (w := w) t
  obtain ⟨fd_unwanted, G_unwanted, b_unwanted, p_unwanted⟩ := ok_unwanted (P := P) (w := w) t
  obtain ⟨fd_Market_pairs, G_Market_pairs, b_Market_pairs, p_Market_pairs⟩ := ok_Market_pairs (P := P) (w := w) t
  obtain ⟨fd_those_in_T, G_those_in_T, b_those_in_T, p_those_in_T⟩ := ok_those_in_T (P := P) (w := w) t
  obtain ⟨fd_Wish_better, G_Wish_better, b_Wish_better, p_Wish_better⟩ := ok_Wish_better (P := P) (w := w) t
  have nd := (sc_check_stable).nd
  refine t.do_check_stable (fun vs H Q E h => by obtain ⟨_, _, _, _, _, rfl, _⟩ := h; rfl) fun A outer s H vs Q E hr h => ⟨_, PSs.nox ((pss_cons (ps_expr (pe_call G_check_match (hr.mono (by decide)) (by rfl) t.g_check_match p_check_match b_check_match .nil pass0 (pa_cons (pv 0) (pa_cons (pv 1) pa_nil)))) (pss_cons (ps_if (pt_cmpR (op_neDK K rfl hr.units) (pe_call G_unwanted (hr.mono (by decide)) (by rfl) t.g_unwanted p_unwanted b_unwanted .nil pass0 (pa_cons (pv 0) (pa_cons (pv 1) pa_nil))) (pe_tup pa_nil) (nomark _)) (pss_one ps_never) pss_nil) (pss_cons (ps_setLc (X := ((X_check_stable CX0 P w K mg base A outer s H E).nox)) (i := 3) (own := [("pair", 7)]) (g := (gName 7)) rfl nd rfl rfl (sw_true rfl rfl rfl (by decide +kernel)) (pi_tupK K rfl (pe_meth0 (pv 0) t.c_Market t.m_Market_pairs G_Market_pairs (hr.mono (by decide)) b_Market_pairs .nil pass0)) (blkOk_by (own := [("pair", 7)]) (N := ["market", "match", "paper", "due", "asker", "room", "word", "pair", "inside", "wish", "good", "other"]) (sc := defScope PMH.s_check_stable) (by decide +kernel)) (fun s1 H1 C1 l1 p1 => (pg_name (i := 7) nd rfl (Or.inl rfl))) (fun s1 H1 C1 l1 p1 => (pts_one (pt_cmpR op_ne (pe_ix (ix_tupK K rfl) (pv 1) (pe_ix (ix_tupK K rfl) (pv 7) pe_int (fun _ _ => rfl)) (fun _ _ => rfl)) (pe_ix (ix_tupK K rfl) (pv 7) pe_int (fun _ _ => rfl)) (nomark _)))) (fun s1 H1 C1 l1 p1 => (pv 7))) (pss_cons (ps_if (pt_cmpR (op_neDK K rfl hr.units) (pe_callB cr_sortedPO (by rfl) t.n_sorted (by decide +kernel) (pa_cons (pv 3) pa_nil)) (pe_callB cr_sortedPO (by rfl) t.n_sorted (by decide +kernel) (pa_cons (pe_lc (X := ((X_check_stable CX0 P w K mg base A outer s H E).nox)) (own := [("asker", 4), ("room", 5), ("word", 6)]) (g := (gTup K 3 (gCons (gName 4) (gCons (gName 5) (gCons (gName 6) gNil))))) rfl nd (pi_tupK K rfl (pv 2)) (blkOk_by (own := [("asker", 4), ("room", 5), ("word", 6)]) (N := ["market", "match", "paper", "due", "asker", "room", "word", "pair", "inside", "wish", "good", "other"]) (sc := defScope PMH.s_check_stable) (by decide +kernel)) (fun s1 H1 C1 l1 p1 => (pg_tup rfl (pgs_cons (pg_name (i := 4) nd rfl (Or.inl rfl)) (pgs_cons (pg_name (i := 5) nd rfl (Or.inl rfl)) (pgs_cons (pg_name (i := 6) nd rfl (Or.inl rfl)) pgs_nil))))) (fun s1 H1 C1 l1 p1 => pts_nil) (fun s1 H1 C1 l1 p1 => (pe_tup (pa_cons (pv 4) (pa_cons (pv 5) pa_nil))))) pa_nil)) (nomark _)) (pss_one ps_never) pss_nil) (pss_cons (ps_for PassesOwn.never rfl (pi_tupK K rfl (pv 2)) (pg_tup rfl (pgs_cons (pg_name (i := 4) nd rfl (Or.inr rfl)) (pgs_cons (pg_name (i := 5) nd rfl (Or.inl rfl)) (pgs_cons (pg_name (i := 6) nd rfl (Or.inl rfl)) pgs_nil)))) (pss_cons (ps_asg (pe_tup (pa_cons (pe_call G_those_in_T (hr.mono (by decide)) (by rfl) t.g_those_in p_those_in_T b_those_in_T .nil pass0 (pa_cons (pv 1) (pa_cons (pv 5) pa_nil))) (pa_cons (pe_ix (ix_listK K rfl) (pe_fldK K rfl (pv 0) rfl) (pv 5) (fun _ _ => rfl)) pa_nil))) (pg_tup rfl (pgs_cons (pg_name (i := 8) nd rfl (Or.inl rfl)) (pgs_cons (pg_name (i := 9) nd rfl (Or.inr rfl)) pgs_nil)))) (pss_cons (ps_if (pt_cmpR op_eq (pv 6) pe_str (nomark _)) (pss_one (ps_set (i := 10) nd rfl (Or.inl rfl) (pe_meth (pe_ix (ix_listK K rfl) (pe_fldK K rfl (pv 0) rfl) (pv 4) (fun _ _ => rfl)) t.c_Wish t.m_Wish_better G_Wish_better (hr.mono (by decide)) b_Wish_better .nil pass0 (pa_cons (pe_ix (ix_tupK K rfl) (pv 1) (pv 4) (fun _ _ => rfl)) (pa_cons (pv 5) pa_nil))))) (pss_cons (ps_set (i := 10) nd rfl (Or.inl rfl) (pe_and (pe_cmpR op_eq (pv 6) pe_str (nomark _)) (pe_one (pe_cmpR op_eq (pe_callB (call_lenK K rfl) (by rfl) t.n_len PySem.boot_len (pa_cons (pv 8) pa_nil)) (pe_ix (ix_tupK K rfl) (pe_fldK K rfl (pv 0) rfl) (pv 5) (fun _ _ => rfl)) (nomark _))))) (pss_one (ps_set (i := 10) nd rfl (Or.inl rfl) (pe_and (pv 10) (pe_one (GX.pe_allG (k := 3) (ix := 11) (T := TL K) (hr.mono (by decide)) (by rfl) (by rfl) t.n_all t.t_check_stable (by rfl) t.tm_check_stable (t.tu t.tm_check_stable) (GX.gsc_by (N := ["market", "match", "paper", "due", "asker", "room", "word", "pair", "inside", "wish", "good", "other"]) (sc := defScope PMH.s_check_stable) (by decide +kernel)) (pi_tupK K rfl (pv 8)) (fun _ _ _ _ _ _ hr2 => (pe_meth (pv 9) t.c_Wish t.m_Wish_better G_Wish_better (hr2.mono (by decide)) b_Wish_better .nil pass0 (pa_cons (pv 11) (pa_cons (pv 4) pa_nil))))))))))) (pss_one (ps_if (pt_not (pt_val (pv 10))) (pss_one ps_never) pss_nil))))) (pss_one (ps_ret pe_bl)))))))), ?_⟩
  obtain ⟨x, p, pp, m, μ, rfl, hm, hok, hp, g, hpp, hT, hQ⟩ := h
  obtain ⟨dm, a, b, c, ws, vs, h1, h2, h3, h4, h5, h6⟩ := id hm
  -- check_match
  refine ⟨_, rfl, _, rfl, x, p, m, μ, rfl, hm, hok, hp, g.len, fun r hr => ?_, g.cap, hT, fun H1 e1 => ?_⟩
  · obtain ⟨k, hk, e⟩ := List.getElem_of_mem hr
    exact g.rlt hok (k := k) (by rw [List.getElem?_eq_getElem hk, e])
  -- unwanted
  refine ⟨_, rfl, _, rfl, x, p, m, μ, rfl, hm.ex e1, hok, Ex.sqT e1 hp, g.len, g.ir, e1.tb, fun uq H4 e4 huq => ?_⟩
  refine ⟨by show 0 ≤ sizeLine; exact Nat.zero_le _, fun nt hnt => ?_⟩
  have e45 : Ex (TL K) H4 (upd H4 nt (.tup [])) := (Ch.refl e4.tb).new hnt
  refine rd_ne (d := deTup deNat) (a := []) (b := []) (by decide) (dp_tupF (l := []) (f := iv) (Ex.sqT e45 huq) dp_nat) (dp_tupF (l := []) (f := iv) (SqT.of upd_same) dp_nat) (fun _ _ => trivial) (fun _ _ => trivial) ⟨_, rfl, ?_⟩
  have e9 : (!decide (([] : List Nat) = [])) = false := by simp
  rw [e9]
  have e5 := e1.trans (e4.trans e45)
  -- due
  refine ⟨_, rfl, x, _, _, rfl, Ex.k e5 h1, rfl, x, m, rfl, hm.ex e5, hok, e5.tb, fun pt H6 e6 hpt => ?_⟩
  obtain ⟨ps, hp1, hp2⟩ := hpt
  have lps := hp2.length
  have e56 := e5.trans e6
  have hpl := m.prs_len hok
  refine ⟨pt, rfl, ⟨_, hp1⟩, fun D hD => ?_⟩
  refine lcx walk_tup (ls := ps.zip m.prs) (by simp [lps]) (fun z => decide (hf μ z.2.1 ≠ some z.2.2)) (fun z v H => v = .ref z.1) e6.tb hD (fun H e => Ex.sqT e hp1) (by simp [lps]; have := line_big; omega) ?_ ?_ ?_
  · intro z y H H' c _ h
    exact h
  · intro i z v H7 H8 N M hz e hY _ hN hM
    obtain ⟨q, k, r⟩ := z
    obtain ⟨z1, z2⟩ := zip_get hz
    obtain ⟨rfl, rfl⟩ := yat z1 hY
    have hq7 := Ex.k e (paired_at hp2 z1 z2)
    obtain ⟨hk, hrl⟩ := m.prs_lt hok (List.mem_of_getElem? z2)
    have hkl : k < μ.length := by rw [g.len]; exact hk
    refine ⟨rfl, _, rfl, _, rfl, q, _, _, _, rfl, rfl, SqT.of hq7, rfl, p, _, _, _, rfl, rfl, Ex.sqT (e56.trans e) hp, atI_nat (ov_at hkl), ?_⟩
    refine ⟨_, rfl, q, _, _, _, rfl, rfl, SqT.of hq7, rfl, by cases hf μ k <;> rfl, _, rfl, ?_⟩
    rw [ov_ne]
    by_cases hkr2 : hf μ k = some r
    · rw [decide_eq_true hkr2]
      exact hN (decide_eq_false fun z => z hkr2) _ (Ch.refl e.tb)
    · rw [decide_eq_false hkr2]
      exact ⟨_, rfl, hM (decide_eq_true hkr2) _ _ (Ch.refl e.tb) rfl⟩
  intro H7 ys e7 hD7 hys
  -- the due ones, by their addresses
  obtain ⟨as1, rfl, has1⟩ : ∃ as : List Addr, ys = as.map V.ref ∧ Paired (fun q pr => H7 q = some (.tup [iv pr.1, iv pr.2])) as (dueN m μ) := by
    have h0 : Paired (fun q pr => H7 q = some (.tup [iv pr.1, iv pr.2])) ps m.prs := Paired.mapP hp2 fun _ _ z => Ex.k e7 z
    exact filt_refs (f := fun p => decide (hf μ p.1 ≠ some p.2)) h0 hys
  have e57 := e56.trans e7
  -- sorted(due)
  refine ⟨_, rfl, D, _, keyH H7, rfl, SqL.of hD7, fun v hv => ?_, fun ys1 p1 s1 st1 hp1' => ?_⟩
  · obtain ⟨t0, q1, q2⟩ := pairs_get has1 hv
    refine ⟨t0, q1, ?_⟩
    subst q1
    rw [nk_at (pr := nk H7 (.ref t0)) q2] at q2
    rw [keyH_at q2]; exact q2
  have e8 : Ex (TL K) H7 (upd H7 p1 (.lst ys1)) := (Ch.refl e7.tb).new hp1'
  obtain ⟨pw1, pm1⟩ := sorted_pw has1 s1 st1
  have e58 := e57.trans e8
  obtain ⟨bs, hb1, hb2⟩ := hpp.ex e58
  have lbs := hb2.length
  have hdl : (dueN m μ).length ≤ 4096 := Nat.le_trans (List.length_filter_le _ _) hpl
  have hsr : (stabRows m μ).length = (dueN m μ).length := by unfold stabRows; rw [List.length_map]
  refine ⟨_, rfl, pp, rfl, ⟨_, hb1⟩, fun D2 hD2 => ?_⟩
  refine lcx walk_tup (ls := bs.zip (stabRows m μ)) (by simp [lbs]) (fun _ => true) (fun z v H => ∃ q, v = V.ref q ∧ H q = some (.tup [iv z.2.1, iv z.2.2.1])) e58.tb hD2 (fun H e => Ex.sqT e hb1) (by simp [lbs]; have := line_big; omega) ?_ ?_ ?_
  · intro z y H H' c ⟨zs, hz⟩ ⟨q, e, hq⟩
    exact ⟨q, e, c.k hq (ne_of hq hz nofun)⟩
  · intro i z v H9 H10 N M hz e hY _ _ hM
    obtain ⟨q, k, r, wd⟩ := z
    obtain ⟨z1, z2⟩ := zip_get hz
    obtain ⟨rfl, rfl⟩ := yat z1 hY
    have hq9 := Ex.k e (paired_at hb2 z1 z2)
    refine ⟨q, _, rfl, SqT.of hq9, rfl, _, _, rfl, _, _, rfl, _, _, rfl, rfl, rfl, ?_⟩
    exact ⟨_, rfl, _, rfl, by show 2 ≤ sizeLine; decide, fun nt hnt => hM rfl _ _ ((Ch.refl e.tb).new hnt) ⟨nt, rfl, upd_same⟩⟩
  intro H9 ys2 e9' hD9 hys2
  have fz : (bs.zip (stabRows m μ)).filter (fun _ => true) = bs.zip (stabRows m μ) := by simp
  rw [fz] at hys2
  obtain ⟨as2, rfl, has2'⟩ := refs_of hys2
  have has2 : Paired (fun q pr => H9 q = some (.tup [iv pr.1, iv pr.2])) as2 (dueN m μ) := by
    have h0 := Paired.mapR (F := fun q (pr : Nat × Nat) => H9 q = some (.tup [iv pr.1, iv pr.2])) (g := fun z : Addr × Nat × Nat × Str => (z.2.1, z.2.2.1)) (Paired.flip has2')
    have h1 : (bs.zip (stabRows m μ)).map (fun z => (z.2.1, z.2.2.1)) = dueN m μ := by
      have h2 : (bs.zip (stabRows m μ)).map (fun z => (z.2.1, z.2.2.1)) = ((bs.zip (stabRows m μ)).map (·.2)).map fun z => (z.1, z.2.1) := by rw [List.map_map]; rfl
      rw [h2, zip_snd hb2]
      unfold stabRows
      rw [List.map_map]
      exact List.map_id'' (fun _ => rfl) _
    rwa [h1] at h0
  refine ⟨D2, _, keyH H9, rfl, SqL.of hD9, fun v hv => ?_, fun ys3 p3 s3 st3 hp3 => ?_⟩
  · obtain ⟨t0, q1, q2⟩ := pairs_get has2 hv
    refine ⟨t0, q1, ?_⟩
    subst q1
    rw [nk_at (pr := nk H9 (.ref t0)) q2] at q2
    rw [keyH_at q2]; exact q2
  have e10 : Ex (TL K) H9 (upd H9 p3 (.lst ys3)) := (Ch.refl e9'.tb).new hp3
  obtain ⟨pw3, pm3⟩ := sorted_pw has2 s3 st3
  have same : ys1.map (nk H7) = ys3.map (nk H9) := List.Perm.eq_of_pairwise (le := leP) (fun a b _ _ h1 h2 => leP_anti h1 h2) pw1 pw3 (pm1.trans pm3.symm)
  have e8b := e8.trans (e9'.trans e10)
  refine rd_ne (d := deList (deP2 deNat deNat)) (by decide) (dp_sorted (p := p1) e8b has1 st1.perm (Ex.k (e9'.trans e10) upd_same)) (dp_sorted (p := p3) e10 has2 st3.perm upd_same) (oks2 _) (oks2 _) ⟨_, rfl, ?_⟩
  rw [same]
  have e11 : (!decide (ys3.map (nk H9) = ys3.map (nk H9))) = false := by simp
  rw [e11]
  have e12 := e57.trans e8b
  obtain ⟨cs, hc1, hc2⟩ := hpp.ex e12
  have lcs := hc2.length
  refine ⟨_, rfl, pp, rfl, ⟨_, hc1⟩, ?_⟩
  refine for_it (walk_tup (xs := cs.map V.ref)) (fun i σ H' => (∃ u4 u5 u6 u7 u8 u9 u10 u11, σ = [some (.ref x), some (.ref p), some (.ref pp), some (.ref D), u4, u5, u6, u7, u8, u9, u10, u11]) ∧ Ex (TL K) H H' ∧ Ex (TL K) (upd H9 p3 (.lst ys3)) H') ?_ ?_ ?_ ?_
  · exact ⟨⟨_, _, _, _, _, _, _, _, rfl⟩, e12, Ch.refl e10.tb⟩
  · intro i σ H' _ q
    exact Ex.sqT q.2.2 hc1
  · intro i v σ H11 H12 hi q hY
    obtain ⟨⟨u4, u5, u6, u7, u8, u9, u10, u11, rfl⟩, e, e'⟩ := q
    have hi' : i < (stabRows m μ).length := by rw [List.length_map, lcs] at hi; exact hi
    obtain ⟨⟨k, r, wd⟩, hkr⟩ : ∃ z, (stabRows m μ)[i]? = some z := ⟨_, List.getElem?_eq_getElem hi'⟩
    obtain ⟨q, hq1, hq2⟩ := Paired.get hc2 hkr
    obtain ⟨rfl, rfl⟩ := yat hq1 hY
    have hq3 := Ex.k e' hq2
    obtain ⟨hpr, hne, rfl⟩ : (k, r) ∈ m.prs ∧ hf μ k ≠ some r ∧ wd = whyN m μ k r := by
      have h0 := List.mem_of_getElem? hkr
      unfold stabRows dueN at h0
      obtain ⟨⟨k', r'⟩, h1, h2⟩ := List.mem_map.mp h0
      rw [List.mem_filter, decide_eq_true_eq] at h1
      cases h2
      exact ⟨h1.1, h1.2, rfl⟩
    obtain ⟨hk, hrl⟩ := m.prs_lt hok hpr
    have hkl : k < μ.length := by rw [g.len]; exact hk
    have qlt : r < m.qs.length := by rw [hok.len]; exact hrl
    obtain ⟨wq, q1, q2, q3⟩ := wish_at h3 (m.at_l hk)
    obtain ⟨rq, q1', q2', q3'⟩ := wish_at h5 (m.at_o hrl)
    refine ⟨q, _, rfl, SqT.of hq3, rfl, _, _, rfl, _, _, rfl, _, _, rfl, rfl, ?_⟩
    refine ⟨_, rfl, _, rfl, p, μ, r, rfl, Ex.sqT e hp, by rw [g.len]; exact hok.l64, e.tb, fun s1 H13 e13 hs1 => ?_⟩
    have e14 := e.trans e13
    refine ⟨_, rfl, x, _, dm, _, _, rfl, Ex.k e14 h1, t.c_Market, t.a_Market_rooms, rfl, _, rfl, b, _, _, _, rfl, rfl, SqL.of (Ex.k e14 h4), q2', by show 2 ≤ sizeLine; decide, fun tp htp => ?_⟩
    have e15' : Ex (TL K) H13 (upd H13 tp (.tup [.ref s1, .ref rq])) := (Ch.refl e14.tb).new htp
    refine ⟨tp, _, rfl, SqT.of upd_same, rfl, _, _, rfl, _, _, rfl, rfl, ?_⟩
    have hs2 := Ex.sqT e15' hs1
    have e15 := e14.trans e15'
    have e16 := e'.trans (e13.trans e15')
    refine ⟨_, rfl, rfl, _, rfl, ?_⟩
    unfold whyN
    cases hb : betterB (m.l k) (hf μ k) (some r) with
    | true =>
      have e17 : decide (V.str (if true = true then "has" else "full") = V.str "has") = true := by decide
      rw [e17]
      have q4 := WishAt.ex q3 e15
      obtain ⟨_, _, _, w1, _⟩ := id q4
      refine ⟨_, rfl, x, _, dm, _, _, rfl, Ex.k e15 h1, t.c_Market, t.a_Market_askers, rfl, _, rfl, a, _, _, _, rfl, rfl, SqL.of (Ex.k e15 h2), q2, wq, _, _, rfl, w1, rfl, ?_⟩
      refine ⟨_, rfl, _, rfl, p, _, _, _, rfl, rfl, Ex.sqT e15 hp, atI_nat (ov_at hkl), _, rfl, wq, hf μ k, some r, m.l k, rfl, q4, ?_⟩
      rw [hb]
      exact ⟨_, rfl, _, rfl, ⟨_, _, _, _, _, _, _, _, rfl⟩, e15, e16⟩
    | false =>
      obtain ⟨g1, g2⟩ := g.nb k r hpr hne hb
      have e17 : decide (V.str (if false = true then "has" else "full") = V.str "has") = false := by decide
      rw [e17]
      refine ⟨_, rfl, rfl, _, rfl, ?_⟩
      have e18 : decide (V.str (if false = true then "has" else "full") = V.str "full") = true := by decide
      rw [e18]
      refine ⟨_, rfl, s1, _, rfl, .inr hs2, _, rfl, x, _, dm, _, _, rfl, Ex.k e15 h1, t.c_Market, t.a_Market_seats, rfl, _, rfl, c, _, _, _, rfl, rfl, Ex.sqT e15 h6, atI_nat (v := iv (m.q r)) (by rw [List.getElem?_map, m.at_q qlt]; rfl), rfl, ?_⟩
      have e8 : decide (V.int (((insN μ r).map iv).length : Nat) = iv (m.q r)) = true := by simp [iv, g1]
      rw [e8]
      refine ⟨_, rfl, _, rfl, _, rfl, s1, rfl, ⟨_, hs2⟩, e15.tb, fun H2 e2 t2 => ?_⟩
      have e20 : Ex (TL K) _ H2 := (Ch.refl e15.tb).ext e2 t2
      have hs3 := Ex.sqT e20 hs2
      refine agx_all walk_tup (ls := insN μ r) (by simp) (fun _ => true) t2 (fun H e => Ex.sqT e hs3) ?_ ?_
      · intro i o v H3 H4 M hi e hY hM
        obtain ⟨rfl, rfl⟩ := yat hi hY
        have q3'' := WishAt.ex q3' ((e15.trans e20).trans e)
        obtain ⟨_, _, _, w1', _⟩ := id q3''
        refine ⟨_, rfl, rq, _, _, rfl, w1', rfl, _, rfl, _, rfl, rq, some o, some k, m.o r, rfl, q3'', ?_⟩
        rw [g2 o (List.mem_of_getElem? hi)]
        exact hM _ (Ch.refl e.tb)
      · intro H5 e5
        have e9 : (insN μ r).all (fun _ => true) = true := by simp
        rw [e9]
        exact ⟨_, rfl, _, rfl, ⟨_, _, _, _, _, _, _, _, rfl⟩, (e15.trans e20).trans e5, (e16.trans e20).trans e5⟩
  · intro σ H' q
    obtain ⟨⟨u4, u5, u6, u7, u8, u9, u10, u11, rfl⟩, e, e'⟩ := q
    exact hQ _ e
end
end PMT

set_option Elab.async false
set_option linter.all false
set_option maxRecDepth 100000
set_option maxHeartbeats 2000000
/-! W8: the paper of what is best. -/
namespace PMT
open PySem PySem.Spec PyProof.Rows L2
abbrev Row := Nat × Nat × List Nat
/-- what stands after a step -/
def replay (hd : List (Option Nat)) (e : Step) : List (Option Nat) :=
  if e.2.2 = some e.1 then hd else match e.2.2 with
    | none => hd.set e.1 (some e.2.1)
    | some w => (hd.set e.1 (some e.2.1)).set w none
def rowStep (hd : List (Option Nat)) (e : Step) : List Row := match e.2.2 with
  | none => []
  | some a => [(a, e.2.1, insN (replay hd e) e.2.1)]
def replays (n : Nat) (st : List Step) : List (Option Nat) := st.foldl replay (List.replicate n none)
def rowsOf (n : Nat) : List Step → List Row := fun st => (st.foldl (fun (s : List (Option Nat) × List Row) e => (replay s.1 e, s.2 ++ rowStep s.1 e)) (List.replicate n none, [])).2
theorem rows_fst (n : Nat) (st : List Step) : (st.foldl (fun (s : List (Option Nat) × List Row) e => (replay s.1 e, s.2 ++ rowStep s.1 e)) (List.replicate n none, [])).1 = replays n st := by
  unfold replays
  have : ∀ (st : List Step) (s : List (Option Nat) × List Row), (st.foldl (fun (s : List (Option Nat) × List Row) e => (replay s.1 e, s.2 ++ rowStep s.1 e)) s).1 = st.foldl replay s.1 := by
    intro st
    induction st with
    | nil => intro s; rfl
    | cons e r ih => intro s; rw [List.foldl_cons, List.foldl_cons, ih]
  exact this st _
theorem replays_snoc {n : Nat} {st : List Step} {e : Step} : replays n (st ++ [e]) = replay (replays n st) e := by unfold replays; rw [List.foldl_append]; rfl
theorem rows_snoc {n : Nat} {st : List Step} {e : Step} : rowsOf n (st ++ [e]) = rowsOf n st ++ rowStep (replays n st) e := by
  unfold rowsOf
  rw [List.foldl_append]
  show _ ++ rowStep _ e = _
  rw [rows_fst]
theorem replay_len {hd : List (Option Nat)} {e : Step} : (replay hd e).length = hd.length := by
  unfold replay
  split
  · rfl
  · split <;> simp
theorem replays_len {n : Nat} {st : List Step} : (replays n st).length = n := by
  refine PM.snoc_ind (P := fun st => (replays n st).length = n) (by simp [replays]) (fun st e ih => ?_) st
  rw [replays_snoc, replay_len, ih]
theorem rows_len {n : Nat} {st : List Step} : (rowsOf n st).length ≤ st.length := by
  refine PM.snoc_ind (P := fun st => (rowsOf n st).length ≤ st.length) (by simp [rowsOf]) (fun st e ih => ?_) st
  · rw [rows_snoc, List.length_append, List.length_append]
    have : (rowStep (replays n st) e).length ≤ 1 := by unfold rowStep; split <;> simp
    simp; omega
/-- steps of numbers that are there -/
def StepsIn (m : NM) (st : List Step) : Prop := ∀ e ∈ st, e.1 < m.ls.length ∧ e.2.1 < m.os.length ∧ ∀ w, e.2.2 = some w → w < m.ls.length
def BestT (K : PySem.W.Frag) (H : Hp) (p : Addr) (l : List Row) : Prop := ∃ as : List Addr, SqT K H p (as.map V.ref) ∧ Paired (fun q e => ∃ s, H q = some (.tup [iv e.1, iv e.2.1, .ref s]) ∧ SqT K H s (e.2.2.map iv)) as l
theorem BestT.ex {K T H H' p l} (h : BestT K H p l) (e : Ex T H H') : BestT K H' p l := by
  obtain ⟨as, h1, h2⟩ := h
  exact ⟨as, Ex.sqT e h1, Paired.mapP h2 fun _ _ ⟨s, z1, z2⟩ => ⟨s, Ex.k e z1, Ex.sqT e z2⟩⟩
section
variable {P : Program} {w : World} {K : PySem.W.Frag} {mg : Str → Option Value} {base : Heap}
/-- amid the paper's making -/
structure BP (K : PySem.W.Frag) (H H4 : Hp) (F b0 : Addr) (hd : List (Option Nat)) (rows : List Row) (Hi : Hp) : Prop where
  e : Ex (TL K) H Hi
  cc : Ch (TL K) (fun y => y = F ∨ y = b0) H4 Hi
  hb : Hi b0 = some (.lst (hd.map ov))
  hF : ∃ as : List Addr, Hi F = some (.lst (as.map V.ref)) ∧ Paired (fun q e => ∃ s, Hi q = some (.tup [iv e.1, iv e.2.1, .ref s]) ∧ SqT K Hi s (e.2.2.map iv)) as rows
theorem BP.ex {H H4 : Hp} {F b0 : Addr} {hd : List (Option Nat)} {rows : List Row} {Hi Hj : Hp} (z : BP K H H4 F b0 hd rows Hi) (x : Ex (TL K) Hi Hj) : BP K H H4 F b0 hd rows Hj := by
  obtain ⟨e, cc, hb, as, h1, h2⟩ := z
  exact ⟨e.trans x, cc.trans (Ex.weak x), Ex.k x hb, as, Ex.k x h1, Paired.mapP h2 fun _ _ ⟨s, z1, z2⟩ => ⟨s, Ex.k x z1, Ex.sqT x z2⟩⟩
theorem Ch.sqTL {T : List (Addr × Str)} {H H' : Hp} {D a : Addr} {zs xs : List V} (h : Ch T (fun b => b = D) H H') (hD : H D = some (.lst zs)) (e : SqT K H a xs) : SqT K H' a xs := h.sqT1 hD e
theorem BP.setH {H H4 : Hp} {F b0 : Addr} {hd hd' : List (Option Nat)} {rows : List Row} {Hi : Hp} (z : BP K H H4 F b0 hd rows Hi) (nb : New H b0) (ne : F ≠ b0) : BP K H H4 F b0 hd' rows (upd Hi b0 (.lst (hd'.map ov))) := by
  obtain ⟨e, cc, hb, as, h1, h2⟩ := z
  have c1 : Ch (TL K) (fun y => y = b0) Hi (upd Hi b0 (.lst (hd'.map ov))) := Ch.put (Ch.refl e.tb) hb nt_lst (.inr rfl)
  exact ⟨e.putN hb nt_lst (.inl nb), cc.putN hb nt_lst (.inr (.inr rfl)), upd_same, as, by rw [upd_ne ne]; exact h1, Paired.mapP h2 fun _ _ ⟨s, z1, z2⟩ => ⟨s, c1.k z1 (ne_of z1 hb nofun), c1.sqT1 hb z2⟩⟩
theorem BP.app {H H4 : Hp} {F b0 q s : Addr} {hd : List (Option Nat)} {rows : List Row} {row : Row} {Hi : Hp} {as : List Addr} (z : BP K H H4 F b0 hd rows Hi) (nF : New H F) (ne : F ≠ b0) (hq : Hi q = some (.tup [iv row.1, iv row.2.1, .ref s])) (hs : SqT K Hi s (row.2.2.map iv))
    (ha : Hi F = some (.lst (as.map V.ref))) : BP K H H4 F b0 hd (rows ++ [row]) (upd Hi F (.lst (as.map V.ref ++ [.ref q]))) := by
  obtain ⟨e, cc, hb, as', h1, h2⟩ := z
  have ea : as = as' := by
    rw [h1] at ha
    have h3 : as'.map V.ref = as.map V.ref := HO.lst.inj (Option.some.inj ha)
    have inj : ∀ (l l' : List Addr), l'.map V.ref = l.map V.ref → l = l' := by
      intro l
      induction l with
      | nil => intro l' h; cases l' with
        | nil => rfl
        | cons _ _ => cases h
      | cons a r ih => intro l' h; cases l' with
        | nil => cases h
        | cons b t =>
          rw [List.map_cons, List.map_cons] at h
          have h4 := List.cons.inj h
          rw [ih t h4.2, V.ref.inj h4.1]
    exact inj as as' h3
  subst ea
  have c1 : Ch (TL K) (fun y => y = F) Hi (upd Hi F (.lst (as.map V.ref ++ [.ref q]))) := Ch.put (Ch.refl e.tb) h1 nt_lst (.inr rfl)
  exact ⟨e.putN h1 nt_lst (.inl nF), cc.putN h1 nt_lst (.inr (.inl rfl)), by rw [upd_ne (Ne.symm ne)]; exact hb, as ++ [q], by rw [upd_same, List.map_append]; rfl,
    Paired.snoc (Paired.mapP h2 fun _ _ ⟨s, z1, z2⟩ => ⟨s, c1.k z1 (ne_of z1 h1 nofun), c1.sqT1 h1 z2⟩) ⟨s, c1.k hq (ne_of hq h1 nofun), c1.sqT1 h1 hs⟩⟩
def spBest (K : PySem.W.Frag) : Sp := fun vs H Q _ => ∃ (x : Addr) (m : NM), vs = [.ref x] ∧ MktAt K H x m ∧ m.Ok ∧ (∀ st nx hd, Run m st nx hd → StepsIn m st) ∧ LamX.Tabs (TL K) H ∧
  ∀ q H' st nx hd, Ex (TL K) H H' → BestT K H' q (rowsOf m.ls.length st) → Run m st nx hd → (∀ k, k < m.ls.length → wantsB m nx hd k = false) → Q (.ref q) H'
theorem ok_best_paper (t : TX K mg base) : Does P w K mg base CX0 9 ("best_paper", none) ["market"] (spBest K) := by
  obtain ⟨fd_Market_size, G_Market_size, b_Market_size, p_Market_size⟩ := ok_Market_size (P := P) (w := w) t
  obtain ⟨fd_trace, G_trace, b_trace, p_trace⟩ := ok_trace (P := P) (w := w) t
  obtain ⟨fd_those_in_L, G_those_in_L, b_those_in_L, p_those_in_L⟩ := ok_those_in_L (P := P) (w := w) t
  have nd := (sc_best_paper).nd
  refine t.do_best_paper (fun vs H Q E h => by obtain ⟨_, _, rfl, _⟩ := h; rfl) fun A outer s H vs Q E hr h => ⟨_, PSs.nox ((pss_cons (ps_par (by rfl) nd (i := 1) (j := 2) rfl rfl (by decide) rfl rfl (pa_cons (pe_lst pa_nil) (pa_cons (pe_op op_rep (pe_lst (pa_cons pe_non pa_nil)) (pe_meth0 (pv 0) t.c_Market t.m_Market_size G_Market_size (hr.mono (by decide)) b_Market_size .nil pass0)) pa_nil)) (by rfl)) (pss_cons (ps_for PassesOwn.never rfl (pi_tupK K rfl (pe_call G_trace (hr.mono (by decide)) (by rfl) t.g_trace p_trace b_trace .nil pass0 (pa_cons (pv 0) pa_nil))) (pg_tup rfl (pgs_cons (pg_name (i := 3) nd rfl (Or.inl rfl)) (pgs_cons (pg_name (i := 4) nd rfl (Or.inl rfl)) (pgs_cons (pg_name (i := 5) nd rfl (Or.inl rfl)) pgs_nil)))) (pss_cons (ps_if (pt_cmpR op_ne (pv 5) (pv 3) (nomark _)) (pss_one (ps_asg (pv 4) (pg_sub (pv 2) (pv 3) set_list))) pss_nil) (pss_one (ps_if (pt_cmpR op_notN (pv 5) pe_non (nomark _)) (pss_cons (ps_if (pt_cmpR op_ne (pv 5) (pv 3) (nomark _)) (pss_one (ps_asg pe_non (pg_sub (pv 2) (pv 5) set_list))) pss_nil) (pss_one (ps_expr (pe_bmK K rfl PySem.F.plainAttrs_list PySem.F.slot_list_append PySem.F.type_list_append mt_append (pv 1) (pa_cons (pe_tup (pa_cons (pv 5) (pa_cons (pv 4) (pa_cons (pe_call G_those_in_L (hr.mono (by decide)) (by rfl) t.g_those_in p_those_in_L b_those_in_L .nil pass0 (pa_cons (pv 2) (pa_cons (pv 4) pa_nil))) pa_nil)))) pa_nil))))) pss_nil)))) (pss_one (ps_ret (pe_callTy (call_tupleK K rfl) (by rfl) t.n_tuple (by decide +kernel) (pa_cons (pv 1) pa_nil))))))), ?_⟩
  obtain ⟨x, m, rfl, hm, hok, hin, hT, hQ⟩ := h
  obtain ⟨dm, a, b, c, ws, vs, h1, h2, h3, h4, h5, h6⟩ := id hm
  have l64 := hok.l64
  refine ⟨by show 0 ≤ sizeLine; exact Nat.zero_le _, fun F hF => ?_⟩
  have e1 : Ex (TL K) H (upd H F (.lst [])) := (Ch.refl hT).new hF
  refine ⟨by show 1 ≤ sizeLine; decide, fun p hp => ?_⟩
  have e2 := e1.new (o := .lst [V.non]) hp
  refine ⟨_, rfl, x, _, _, rfl, Ex.k e2 h1, rfl, x, m, rfl, hm.ex e2, p, _, _, rfl, rfl, upd_same, by omega, by omega, by have := line_big; simp; omega, fun b0 hb0 => ?_⟩
  have er : (List.replicate (m.ls.length : Int).toNat [V.non]).flatten = (List.replicate m.ls.length none).map ov := by
    rw [flat_rep]; simp [ov]
  rw [er]
  have e3 := e2.new (o := .lst ((List.replicate m.ls.length none).map ov)) hb0
  have nFp : F ≠ p := New.ne (New.of hp) (upd_same (H := H) (a := F) (o := .lst []))
  have hF2 : upd (upd H F (.lst [])) p (.lst [V.non]) F = some (.lst []) := by rw [upd_ne nFp, upd_same]
  have nFb : F ≠ b0 := New.ne (New.of hb0) hF2
  have nb0 : New H b0 := Ex.backN e2 (New.of hb0)
  refine ⟨_, _, rfl, _, rfl, x, m, rfl, hm.ex e3, hok, e3.tb, fun tp H4 st nx hd e4 htp R hw => ?_⟩
  obtain ⟨ts, ht1, ht2⟩ := htp
  have lts := ht2.length
  have hst := R.st_le hok
  have e34 := e3.trans e4
  have hF4 : H4 F = some (.lst []) := Ex.k e4 (by rw [upd_ne nFb]; exact hF2)
  have hb4 : H4 b0 = some (.lst ((List.replicate m.ls.length none).map ov)) := Ex.k e4 upd_same
  refine ⟨tp, rfl, ⟨_, ht1⟩, ?_⟩
  refine for_it (walk_tup (xs := ts.map V.ref)) (fun i σ H' => (∃ u3 u4 u5, σ = [some (.ref x), some (.ref F), some (.ref b0), u3, u4, u5]) ∧ BP K H H4 F b0 (replays m.ls.length (st.take i)) (rowsOf m.ls.length (st.take i)) H') ?_ ?_ ?_ ?_
  · exact ⟨⟨_, _, _, rfl⟩, e34, Ch.refl e4.tb, hb4, [], hF4, .nil⟩
  · intro i σ H' _ q
    obtain ⟨_, _, c, _⟩ := q
    rcases ht1 with (z | ⟨o, z⟩) | z
    · exact .inl (.inl (c.k z fun y => y.elim (ne_of z hF4 nofun) (ne_of z hb4 nofun)))
    · exact .inl (.inr ⟨o, c.k z fun y => y.elim (ne_of z hF4 nofun) (ne_of z hb4 nofun)⟩)
    · exact .inr z
  · intro i v σ H5 H6 hi q hY
    obtain ⟨⟨u3, u4, u5, rfl⟩, bp⟩ := q
    have hi' : i < st.length := by rw [List.length_map, lts] at hi; exact hi
    obtain ⟨⟨k, r, out⟩, hkr⟩ : ∃ z, st[i]? = some z := ⟨_, List.getElem?_eq_getElem hi'⟩
    obtain ⟨q, hq1, hq2⟩ := Paired.get ht2 hkr
    obtain ⟨rfl, rfl⟩ := yat hq1 hY
    have hq3 : SqT K H6 q [iv k, iv r, ov out] := by
      rcases hq2 with (z | ⟨o, z⟩) | z
      · exact .inl (.inl (bp.cc.k z fun y => y.elim (ne_of z hF4 nofun) (ne_of z hb4 nofun)))
      · exact .inl (.inr ⟨o, bp.cc.k z fun y => y.elim (ne_of z hF4 nofun) (ne_of z hb4 nofun)⟩)
      · exact .inr z
    obtain ⟨hk, hr0, hwl⟩ := hin st nx hd R _ (List.mem_of_getElem? hkr)
    have hk : k < m.ls.length := hk
    have hrl := replays_len (n := m.ls.length) (st := st.take i)
    have rl : (rowsOf m.ls.length (st.take i)).length ≤ 4096 := Nat.le_trans rows_len (by rw [List.length_take]; omega)
    rw [take_snoc hkr, replays_snoc, rows_snoc]
    refine ⟨q, _, rfl, hq3, rfl, _, _, rfl, _, _, rfl, _, _, rfl, rfl, ?_⟩
    have nF : New H F := New.of hF
    have i64 := hok.l64
    cases out with
    | none =>
      refine ⟨_, rfl, _, rfl, rfl, _, rfl, ?_⟩
      rw [ov_ne, show (!decide ((none : Option Nat) = some k)) = true by simp]
      refine ⟨_, rfl, _, rfl, _, rfl, b0, _, _, k, rfl, rfl, bp.hb, ixN_lt (by rw [List.length_map, hrl]; exact hk), ?_⟩
      have e7 : ((replays m.ls.length (st.take i)).map ov).set k (iv r) = ((replays m.ls.length (st.take i)).set k (some r)).map ov := set_ov (v := some r)
      rw [e7]
      refine ⟨_, rfl, rfl, _, rfl, ⟨_, _, _, rfl⟩, ?_⟩
      have := bp.setH (hd' := (replays m.ls.length (st.take i)).set k (some r)) nb0 nFb
      simpa [rowStep, replay] using this
    | some w =>
      by_cases hwk : w = k
      · subst hwk
        refine ⟨_, rfl, _, rfl, rfl, _, rfl, ?_⟩
        rw [ov_ne, show (!decide ((some w : Option Nat) = some w)) = false by simp]
        refine ⟨_, rfl, rfl, _, rfl, ?_⟩
        refine ⟨_, rfl, _, rfl, rfl, _, rfl, ?_⟩
        rw [ov_ne, show (!decide ((some w : Option Nat) = some w)) = false by simp]
        have er : replay (replays m.ls.length (st.take i)) (w, r, some w) = replays m.ls.length (st.take i) := by simp [replay]
        have ew : rowStep (replays m.ls.length (st.take i)) (w, r, some w) = [(w, r, insN (replays m.ls.length (st.take i)) r)] := by simp only [rowStep, er]
        rw [er, ew]
        obtain ⟨as, hFa, hasl⟩ := bp.hF
        refine ⟨_, rfl, .inl ⟨rfl, _, SqL.of hFa⟩, ?_⟩
        refine ⟨_, rfl, _, rfl, _, rfl, _, rfl, b0, (replays m.ls.length (st.take i)), r, rfl, SqL.of bp.hb, by rw [hrl]; exact i64, bp.e.tb, fun s1 H7 e7 hs1 => ?_⟩
        refine ⟨by show 3 ≤ sizeLine; decide, fun nt hnt => ?_⟩
        have e8 : Ex (TL K) _ (upd H7 nt (.tup [iv w, iv r, .ref s1])) := (Ch.refl e7.tb).new hnt
        have bp8 := (bp.ex e7).ex e8
        have hF8 := Ex.k (e7.trans e8) hFa
        refine ⟨F, _, .ref nt, rfl, rfl, hF8, ?_, ⟨_, _, _, rfl⟩, ?_⟩
        · rw [List.length_map, hasl.length]
          have := line_big
          omega
        exact BP.app (row := (w, r, insN (replays m.ls.length (st.take i)) r)) bp8 nF nFb upd_same (Ex.sqT e8 hs1) hF8
      · have hw1 : w < m.ls.length := hwl w rfl
        refine ⟨_, rfl, _, rfl, rfl, _, rfl, ?_⟩
        rw [ov_ne, show (!decide ((some w : Option Nat) = some k)) = true by simp [hwk]]
        refine ⟨_, rfl, _, rfl, _, rfl, b0, _, _, k, rfl, rfl, bp.hb, ixN_lt (by rw [List.length_map, hrl]; exact hk), ?_⟩
        have e7 : ((replays m.ls.length (st.take i)).map ov).set k (iv r) = ((replays m.ls.length (st.take i)).set k (some r)).map ov := set_ov (v := some r)
        rw [e7]
        have bp2 := bp.setH (hd' := (replays m.ls.length (st.take i)).set k (some r)) nb0 nFb
        refine ⟨_, rfl, rfl, _, rfl, ?_⟩
        refine ⟨_, rfl, _, rfl, rfl, _, rfl, ?_⟩
        rw [ov_ne, show (!decide ((some w : Option Nat) = some k)) = true by simp [hwk]]
        refine ⟨_, rfl, _, rfl, b0, _, _, w, rfl, rfl, bp2.hb, ixN_lt (by rw [List.length_map, List.length_set, hrl]; exact hw1), ?_⟩
        have e8 : (((replays m.ls.length (st.take i)).set k (some r)).map ov).set w V.non = (((replays m.ls.length (st.take i)).set k (some r)).set w none).map ov := set_ov (v := none)
        rw [e8]
        have bp3 := bp2.setH (hd' := ((replays m.ls.length (st.take i)).set k (some r)).set w none) nb0 nFb
        have er : replay (replays m.ls.length (st.take i)) (k, r, some w) = ((replays m.ls.length (st.take i)).set k (some r)).set w none := by simp [replay, hwk]
        have ew : rowStep (replays m.ls.length (st.take i)) (k, r, some w) = [(w, r, insN (((replays m.ls.length (st.take i)).set k (some r)).set w none) r)] := by simp only [rowStep, er]
        rw [er, ew]
        obtain ⟨as, hFa, hasl⟩ := bp3.hF
        refine ⟨_, rfl, .inl ⟨rfl, _, SqL.of hFa⟩, ?_⟩
        refine ⟨_, rfl, _, rfl, _, rfl, _, rfl, b0, (((replays m.ls.length (st.take i)).set k (some r)).set w none), r, rfl, SqL.of bp3.hb, by rw [List.length_set, List.length_set, hrl]; exact i64, bp3.e.tb, fun s1 H7 e7 hs1 => ?_⟩
        refine ⟨by show 3 ≤ sizeLine; decide, fun nt hnt => ?_⟩
        have e8 : Ex (TL K) _ (upd H7 nt (.tup [iv w, iv r, .ref s1])) := (Ch.refl e7.tb).new hnt
        have bp8 := (bp3.ex e7).ex e8
        have hF8 := Ex.k (e7.trans e8) hFa
        refine ⟨F, _, .ref nt, rfl, rfl, hF8, ?_, ⟨_, _, _, rfl⟩, ?_⟩
        · rw [List.length_map, hasl.length]
          have := line_big
          omega
        exact BP.app (row := (w, r, insN (((replays m.ls.length (st.take i)).set k (some r)).set w none) r)) bp8 nF nFb upd_same (Ex.sqT e8 hs1) hF8
  · intro σ H' q
    obtain ⟨⟨u3, u4, u5, rfl⟩, bp⟩ := q
    rw [List.length_map, lts, List.take_length] at bp
    obtain ⟨as, hF5, has⟩ := bp.hF
    refine ⟨_, rfl, F, _, rfl, .inl ⟨SqL.of hF5, fun fq hfq => ?_⟩⟩
    have e6 : Ex (TL K) H' (upd H' fq (.tup (as.map V.ref))) := (Ch.refl bp.e.tb).new hfq
    exact hQ fq _ st nx hd (bp.e.trans e6) ⟨as, SqT.of upd_same, Paired.mapP has fun _ _ ⟨s, z1, z2⟩ => ⟨s, Ex.k e6 z1, Ex.sqT e6 z2⟩⟩ R hw
end
end PMT

set_option Elab.async false
set_option linter.all false
set_option maxRecDepth 100000
set_option maxHeartbeats 2000000
/-! W9: the paper of what is best is taken. -/
namespace PMT
open PySem PySem.Spec PyProof.Rows L2
def gk (a r : Nat) : List Key := [Sum.inl (a : Int), Sum.inl (r : Int)]
/-- the table of refusals -/
def GoneAt (H : Hp) (g : Addr) (G : List (Nat × Nat)) : Prop := ∃ kvs, H g = some (.dT kvs) ∧ kvs.length ≤ G.length ∧ ∀ a r, (valV kvs (gk a r)).isSome = decide ((a, r) ∈ G)
theorem gk_inj {a r b s : Nat} (h : gk a r = gk b s) : a = b ∧ r = s := by
  unfold gk at h
  have h1 := List.cons.inj h
  have h2 := (List.cons.inj h1.2).1
  exact ⟨Int.ofNat.inj (Sum.inl.inj h1.1), Int.ofNat.inj (Sum.inl.inj h2)⟩
def hbrB (m : NM) (G : List (Nat × Nat)) (h r a : Nat) : Bool := (decide (r ∈ m.l h) && decide (h ∈ m.o r) && betterB (m.o r) (some h) (some a)) && (aheadOf (m.l h) (some r)).all fun o => decide ((h, o) ∈ G)
theorem ahead_len {l : List Nat} {x : Option Nat} : (aheadOf l x).length ≤ l.length := by
  unfold aheadOf
  split
  · exact Nat.le_refl _
  · rw [List.length_take]; omega
theorem ahead_mem {l : List Nat} {x : Option Nat} {r : Nat} (h : r ∈ aheadOf l x) : r ∈ l := by
  unfold aheadOf at h
  split at h
  · exact h
  · exact List.mem_of_mem_take h
section
variable {P : Program} {w : World} {K : PySem.W.Frag} {mg : Str → Option Value} {base : Heap}
def spHbr (K : PySem.W.Frag) : Sp := fun vs H Q _ => ∃ (x g : Addr) (m : NM) (G : List (Nat × Nat)) (h r a : Nat), vs = [.ref x, .ref g, iv h, iv r, iv a] ∧ MktAt K H x m ∧ m.Ok ∧ GoneAt H g G ∧ h < m.ls.length ∧ r < m.os.length ∧ LamX.Tabs (TL K) H ∧ ∀ H', Ex (TL K) H H' → Q (.bl (hbrB m G h r a)) H'
theorem ok_holds_by_right (t : TX K mg base) : Does P w K mg base CX0 5 ("holds_by_right", none) ["market", "gone", "holder", "room", "asker"] (spHbr K) := by
  obtain ⟨fd_Wish_better, G_Wish_better, b_Wish_better, p_Wish_better⟩ := ok_Wish_better (P := P) (w := w) t
  obtain ⟨fd_Market_likes, G_Market_likes, b_Market_likes, p_Market_likes⟩ := ok_Market_likes (P := P) (w := w) t
  obtain ⟨fd_Wish_ahead_of, G_Wish_ahead_of, b_Wish_ahead_of, p_Wish_ahead_of⟩ := ok_Wish_ahead_of (P := P) (w := w) t
  have nd := (sc_holds_by_right).nd
  refine t.do_holds_by_right (fun vs H Q E h => by obtain ⟨_, _, _, _, _, _, _, rfl, _⟩ := h; rfl) fun A outer s H vs Q E hr h => ⟨_, PSs.nox ((pss_cons (ps_if (PW.pt (pw_or (pt_not (pt_val (pe_meth (pv 0) t.c_Market t.m_Market_likes G_Market_likes (hr.mono (by decide)) b_Market_likes .nil pass0 (pa_cons (pv 2) (pa_cons (pv 3) pa_nil))))) (pw_or1 (pt_not (pt_val (pe_meth (pe_ix (ix_listK K rfl) (pe_fldK K rfl (pv 0) rfl) (pv 3) (fun _ _ => rfl)) t.c_Wish t.m_Wish_better G_Wish_better (hr.mono (by decide)) b_Wish_better .nil pass0 (pa_cons (pv 2) (pa_cons (pv 4) pa_nil)))))))) (pss_one (ps_ret pe_bl)) pss_nil) (pss_one (ps_ret (GX.pe_allG (k := 1) (ix := 5) (T := TL K) (hr.mono (by decide)) (by rfl) (by rfl) t.n_all t.t_holds_by_right (by rfl) t.tm_holds_by_right (t.tu t.tm_holds_by_right) (GX.gsc_by (N := ["market", "gone", "holder", "room", "asker", "other"]) (sc := defScope PMH.s_holds_by_right) (by decide +kernel)) (pi_tupK K rfl (pe_meth (pe_ix (ix_listK K rfl) (pe_fldK K rfl (pv 0) rfl) (pv 2) (fun _ _ => rfl)) t.c_Wish t.m_Wish_ahead_of G_Wish_ahead_of (hr.mono (by decide)) b_Wish_ahead_of .nil pass0 (pa_cons (pv 3) pa_nil))) (fun _ _ _ _ _ _ hr2 => (pe_cmp (pc_din (hu_of hr2) (pe_tup (pa_cons (pv 2) (pa_cons (pv 5) pa_nil))) (pv 1)) (by rfl)))))))), ?_⟩
  obtain ⟨x, g, m, G, hh, r, a, rfl, hm, hok, hg, hhl, hrl, hT, hQ⟩ := h
  obtain ⟨dm, am, bm, cm, ws, vs, h1, h2, h3, h4, h5, h6⟩ := id hm
  obtain ⟨wq, q1, q2, q3⟩ := wish_at h3 (m.at_l hhl)
  obtain ⟨rq, q1', q2', q3'⟩ := wish_at h5 (m.at_o hrl)
  obtain ⟨_, _, _, w1, _⟩ := id q3
  obtain ⟨_, _, _, w1', _⟩ := id q3'
  unfold hbrB at hQ
  refine ⟨_, rfl, x, _, _, rfl, h1, rfl, _, rfl, _, rfl, x, m, hh, r, rfl, hm, hhl, hrl, _, rfl, ?_⟩
  cases hl : (decide (r ∈ m.l hh) && decide (hh ∈ m.o r)) with
  | false =>
    rw [hl] at hQ
    exact hQ H (Ch.refl hT)
  | true =>
    rw [hl, Bool.true_and] at hQ
    refine ⟨_, rfl, x, _, dm, _, _, rfl, h1, t.c_Market, t.a_Market_rooms, rfl, _, rfl, bm, _, _, _, rfl, rfl, SqL.of h4, q2', rq, _, _, rfl, w1', rfl, _, rfl, _, rfl, rq, some hh, some a, m.o r, rfl, q3', _, rfl, ?_⟩
    cases hb : betterB (m.o r) (some hh) (some a) with
    | false =>
      rw [hb] at hQ
      exact hQ H (Ch.refl hT)
    | true =>
      rw [hb, Bool.true_and] at hQ
      refine ⟨_, rfl, x, _, dm, _, _, rfl, h1, t.c_Market, t.a_Market_askers, rfl, _, rfl, am, _, _, _, rfl, rfl, SqL.of h2, q2, wq, _, _, rfl, w1, rfl, _, rfl, wq, some r, m.l hh, rfl, q3, hT, fun p H1 e1 hp => ?_⟩
      refine ⟨p, rfl, ⟨_, hp⟩, e1.tb, fun H2 e2 t2 => ?_⟩
      have e12 := e1.ext e2 t2
      have hp2 := Ex.sqT ((Ch.refl e1.tb).ext e2 t2) hp
      obtain ⟨kvs, g1, g2, g3⟩ := hg
      refine agx_all walk_tup (ls := aheadOf (m.l hh) (some r)) (by simp) (fun o => decide ((hh, o) ∈ G)) t2 (fun H e => Ex.sqT e hp2) ?_ ?_
      · intro i o v H3 H4 M hi e hY hM
        obtain ⟨rfl, rfl⟩ := yat hi hY
        refine ⟨_, rfl, _, rfl, by show 2 ≤ sizeLine; decide, fun kt hkt => ?_⟩
        have e4 := ((e12.trans e).new (o := .tup [iv hh, iv o]) hkt)
        refine ⟨_, rfl, g, _, rfl, DGet.t (k := gk hh o) (Ex.k e4 g1) upd_same, ?_⟩
        rw [g3]
        exact hM _ ((Ch.refl e.tb).new hkt)
      · intro H5 e5
        exact hQ _ (e12.trans e5)
theorem catA_one {T : List (Addr × Str)} {H : Hp} {a b : Addr} {xs : List V} {y : V} {Q : VK} (hT : LamX.Tabs T H) (h1 : SqT K H a xs) (h2 : SqT K H b [y]) (hl : xs.length + 1 ≤ sizeLine) (hQ : ∀ c H', Ex T H H' → SqT K H' c (xs ++ [y]) → Q (.ref c) H') : rCatA K (.ref a) (.ref b) H Q := by
  refine ⟨a, b, xs, [y], rfl, rfl, h1, h2, hl, fun e => ?_, fun _ e => (by cases e), fun _ _ p hp => hQ p _ ((Ch.refl hT).new hp) (SqT.of upd_same)⟩
  subst e
  exact hQ b H (Ch.refl hT) h2
theorem GoneAt.ex {T : List (Addr × Str)} {H H' : Hp} {g : Addr} {G : List (Nat × Nat)} (h : GoneAt H g G) (e : Ex T H H') : GoneAt H' g G := by
  obtain ⟨kvs, h1, h2, h3⟩ := h
  exact ⟨kvs, Ex.k e h1, h2, h3⟩
def rowOk (m : NM) (G : List (Nat × Nat)) (e : Row) : Prop := e.1 < m.ls.length ∧ e.2.1 < m.os.length ∧ (∀ h ∈ e.2.2, h < m.ls.length) ∧ e.2.2.length ≤ 64 ∧
  (e.1 ∈ m.o e.2.1 → e.2.2.length = m.q e.2.1 ∧ e.2.2.Nodup ∧ ∀ h ∈ e.2.2, hbrB m G h e.2.1 e.1 = true)
def rowG (rows : List Row) : List (Nat × Nat) := rows.map fun e => (e.1, e.2.1)
structure BestOk (m : NM) (μ : List (Option Nat)) (rows : List Row) : Prop where
  row : ∀ i e, rows[i]? = some e → rowOk m (rowG (rows.take i)) e
  fin : ∀ k, k < m.ls.length → ∀ r ∈ aheadOf (m.l k) (hf μ k), (k, r) ∈ rowG rows
  len : rows.length ≤ 5000
theorem gone_put {H : Hp} {g : Addr} {G : List (Nat × Nat)} {a r : Nat} {kvs : List (List Key × V)} {X : Hp} (h3 : ∀ a r, (valV kvs (gk a r)).isSome = decide ((a, r) ∈ G)) (h2 : kvs.length ≤ G.length) : GoneAt (upd X g (.dT (putK kvs (gk a r) (iv 1)))) g (G ++ [(a, r)]) := by
  refine ⟨_, upd_same, ?_, fun b s => ?_⟩
  · have := length_putK kvs (gk a r) (iv 1)
    rw [List.length_append]; simp; omega
  · rw [valV_put]
    by_cases e : gk b s = gk a r
    · rw [if_pos e]
      obtain ⟨e1, e2⟩ := gk_inj e
      subst e1 e2
      simp
    · rw [if_neg e, h3]
      have ne : ¬ (b, s) = (a, r) := fun z => e (by cases z; rfl)
      simp only [List.mem_append, List.mem_singleton, ne, or_false]
theorem rowG_snoc {rows : List Row} {i : Nat} {e : Row} (h : rows[i]? = some e) : rowG (rows.take (i + 1)) = rowG (rows.take i) ++ [(e.1, e.2.1)] := by
  unfold rowG
  rw [take_snoc h, List.map_append]; rfl
def spCheckBest (K : PySem.W.Frag) : Sp := fun vs H Q _ => ∃ (x p pp : Addr) (m : NM) (μ : List (Option Nat)) (rows : List Row), vs = [.ref x, .ref p, .ref pp] ∧ MktAt K H x m ∧ m.Ok ∧ SqT K H p (μ.map ov) ∧ μ.length = m.ls.length ∧ BestT K H pp rows ∧ BestOk m μ rows ∧ LamX.Tabs (TL K) H ∧ ∀ H', Ex (TL K) H H' → Q (.bl true) H'
theorem ok_check_best (t : TX K mg base) : Does P w K mg base CX0 9 ("check_best", none) ["market", "match", "paper"] (spCheckBest K) := by
  obtain ⟨fd_Market_size, G_Market_size, b_Market_size, p_Market_size⟩ := ok_Market_size (P := P) (w := w) t
  obtain ⟨fd_Wish_has, G_Wish_has, b_Wish_has, p_Wish_has⟩ := ok_Wish_has (P := P) (w := w) t
  obtain ⟨fd_holds_by_right, G_holds_by_right, b_holds_by_right, p_holds_by_right⟩ := ok_holds_by_right (P := P) (w := w) t
  obtain ⟨fd_Wish_ahead_of, G_Wish_ahead_of, b_Wish_ahead_of, p_Wish_ahead_of⟩ := ok_Wish_ahead_of (P := P) (w := w) t
  have nd := (sc_check_best).nd
  refine t.do_check_best (fun vs H Q E h => by obtain ⟨_, _, _, _, _, _, rfl, _⟩ := h; rfl) fun A outer s H vs Q E hr h => ⟨_, PSs.nox ((pss_cons (ps_set (i := 3) nd rfl (Or.inr rfl) pe_dnewT) (pss_cons (ps_for PassesOwn.never rfl (pi_tupK K rfl (pv 2)) (pg_tup rfl (pgs_cons (pg_name (i := 4) nd rfl (Or.inr rfl)) (pgs_cons (pg_name (i := 5) nd rfl (Or.inr rfl)) (pgs_cons (pg_name (i := 6) nd rfl (Or.inl rfl)) pgs_nil)))) (pss_cons (ps_if (PW.pt (pw_or (pt_val (GX.pe_anyG (k := 2) (ix := 8) (T := TL K) (hr.mono (by decide)) (by rfl) (by rfl) t.n_any t.t_check_best (by rfl) t.tm_check_best (t.tu t.tm_check_best) (GX.gsc_by (N := ["market", "match", "paper", "gone", "asker", "room", "holders", "wish", "one", "holder"]) (sc := defScope PMH.s_check_best) (by decide +kernel)) (pi_tupK K rfl (pe_op (op_catTK K rfl) (pe_callTy (call_tupleK K rfl) (by rfl) t.n_tuple (by decide +kernel) (pa_cons (pv 6) pa_nil)) (pe_tup (pa_cons (pv 4) pa_nil)))) (fun _ _ _ _ _ _ hr2 => (pe_not (pe_chain op_le op_lt pe_int (pv 8) (pe_meth0 (pv 0) t.c_Market t.m_Market_size G_Market_size (hr2.mono (by decide)) b_Market_size .nil pass0)))))) (pw_or1 (pt_not (pt_chain op_le op_lt pe_int (pv 5) (pe_callB (call_lenK K rfl) (by rfl) t.n_len PySem.boot_len (pa_cons (pe_fldK K rfl (pv 0) rfl) pa_nil))))))) (pss_one ps_never) pss_nil) (pss_cons (ps_set (i := 7) nd rfl (Or.inl rfl) (pe_ix (ix_listK K rfl) (pe_fldK K rfl (pv 0) rfl) (pv 5) (fun _ _ => rfl))) (pss_cons (ps_if (pt_val (pe_meth (pv 7) t.c_Wish t.m_Wish_has G_Wish_has (hr.mono (by decide)) b_Wish_has .nil pass0 (pa_cons (pv 4) pa_nil))) (pss_cons (ps_if (PW.pt (pw_or (pt_cmpR op_ne (pe_callB (call_lenK K rfl) (by rfl) t.n_len PySem.boot_len (pa_cons (pv 6) pa_nil)) (pe_ix (ix_tupK K rfl) (pe_fldK K rfl (pv 0) rfl) (pv 5) (fun _ _ => rfl)) (nomark _)) (pw_or1 (pt_cmpR op_ne (pe_callB call_lenD (by rfl) t.n_len PySem.boot_len (pa_cons (pe_callTy (call_dictP rfl) (by rfl) t.n_dict (by decide +kernel) (pa_cons (pe_lc (X := ((X_check_best CX0 P w K mg base A outer s H E).nox)) (own := [("one", 8)]) (g := (gName 8)) rfl nd (pi_tupK K rfl (pv 6)) (blkOk_by (own := [("one", 8)]) (N := ["market", "match", "paper", "gone", "asker", "room", "holders", "wish", "one", "holder"]) (sc := defScope PMH.s_check_best) (by decide +kernel)) (fun s1 H1 C1 l1 p1 => (pg_name (i := 8) nd rfl (Or.inl rfl))) (fun s1 H1 C1 l1 p1 => pts_nil) (fun s1 H1 C1 l1 p1 => (pe_tup (pa_cons (pv 8) (pa_cons pe_int pa_nil))))) pa_nil)) pa_nil)) (pe_callB (call_lenK K rfl) (by rfl) t.n_len PySem.boot_len (pa_cons (pv 6) pa_nil)) (nomark _))))) (pss_one ps_never) pss_nil) (pss_one (ps_if (pt_val (GX.pe_anyG (k := 5) (ix := 9) (T := TL K) (hr.mono (by decide)) (by rfl) (by rfl) t.n_any t.t_check_best (by rfl) t.tm_check_best (t.tu t.tm_check_best) (GX.gsc_by (N := ["market", "match", "paper", "gone", "asker", "room", "holders", "wish", "one", "holder"]) (sc := defScope PMH.s_check_best) (by decide +kernel)) (pi_tupK K rfl (pv 6)) (fun _ _ _ _ _ _ hr2 => (pe_not (pe_call G_holds_by_right (hr2.mono (by decide)) (by rfl) t.g_holds_by_right p_holds_by_right b_holds_by_right .nil pass0 (pa_cons (pv 0) (pa_cons (pv 3) (pa_cons (pv 9) (pa_cons (pv 5) (pa_cons (pv 4) pa_nil)))))))))) (pss_one ps_never) pss_nil))) pss_nil) (pss_one (ps_dput (hu_of hr) (pv 3) (pe_tup (pa_cons (pv 4) (pa_cons (pv 5) pa_nil))) pe_int rfl)))))) (pss_cons (ps_for PassesOwn.never rfl (pi_enumK K rfl (by rfl) t.n_enumerate (pa_cons (pe_fldK K rfl (pv 0) rfl) pa_nil)) (pg_tup rfl (pgs_cons (pg_name (i := 4) nd rfl (Or.inr rfl)) (pgs_cons (pg_name (i := 7) nd rfl (Or.inl rfl)) pgs_nil))) (pss_one (ps_if (pt_val (GX.pe_anyG (k := 1) (ix := 5) (T := TL K) (hr.mono (by decide)) (by rfl) (by rfl) t.n_any t.t_check_best (by rfl) t.tm_check_best (t.tu t.tm_check_best) (GX.gsc_by (N := ["market", "match", "paper", "gone", "asker", "room", "holders", "wish", "one", "holder"]) (sc := defScope PMH.s_check_best) (by decide +kernel)) (pi_tupK K rfl (pe_meth (pv 7) t.c_Wish t.m_Wish_ahead_of G_Wish_ahead_of (hr.mono (by decide)) b_Wish_ahead_of .nil pass0 (pa_cons (pe_ix (ix_tupK K rfl) (pv 1) (pv 4) (fun _ _ => rfl)) pa_nil))) (fun _ _ _ _ _ _ hr2 => (pe_cmp (pc_dnotin (hu_of hr2) (pe_tup (pa_cons (pv 4) (pa_cons (pv 5) pa_nil))) (pv 3)) (by rfl))))) (pss_one ps_never) pss_nil))) (pss_one (ps_ret pe_bl)))))), ?_⟩
  obtain ⟨x, p, pp, m, μ, rows, rfl, hm, hok, hp, hl, hpp, bok, hT, hQ⟩ := h
  obtain ⟨dm, am, bm, cm, ws, vs, h1, h2, h3, h4, h5, h6⟩ := id hm
  have lws := h3.length
  have lvs := h5.length
  refine fun g hg => ?_
  have e1 : Ex (TL K) H (upd H g (.dT [])) := (Ch.refl hT).new hg
  have ng : New H g := New.of hg
  obtain ⟨as, hp1, hp2⟩ := hpp
  have las := hp2.length
  have g0 : GoneAt (upd H g (.dT [])) g (rowG (rows.take 0)) := ⟨[], upd_same, Nat.zero_le _, fun a r => by simp [rowG, valV]⟩
  refine ⟨_, rfl, pp, rfl, ⟨_, Ex.sqT e1 hp1⟩, ?_⟩
  refine for_it (walk_tup (xs := as.map V.ref)) (fun i σ H' => (∃ u4 u5 u6 u7 u8 u9, σ = [some (.ref x), some (.ref p), some (.ref pp), some (.ref g), u4, u5, u6, u7, u8, u9]) ∧ Ex (TL K) H H' ∧ GoneAt H' g (rowG (rows.take i))) ?_ ?_ ?_ ?_
  · exact ⟨⟨_, _, _, _, _, _, rfl⟩, e1, g0⟩
  · intro i σ H' _ q
    exact Ex.sqT q.2.1 hp1
  · intro i v σ H2 H3 hi q hY
    obtain ⟨⟨u4, u5, u6, u7, u8, u9, rfl⟩, e, hgo⟩ := q
    have hi' : i < rows.length := by rw [List.length_map, las] at hi; exact hi
    obtain ⟨⟨a, r, S⟩, hrow⟩ : ∃ z, rows[i]? = some z := ⟨_, List.getElem?_eq_getElem hi'⟩
    obtain ⟨q, hq1, hq2⟩ := Paired.get hp2 hrow
    obtain ⟨rfl, rfl⟩ := yat hq1 hY
    obtain ⟨s, hs1, hs2⟩ := hq2
    obtain ⟨ra, rr, rS, rlen, rh⟩ := bok.row i _ hrow
    have ra : a < m.ls.length := ra
    have rr : r < m.os.length := rr
    have rlen : S.length ≤ 64 := rlen
    have qlt : r < m.qs.length := by rw [hok.len]; exact rr
    refine ⟨q, _, rfl, SqT.of (Ex.k e hs1), rfl, _, _, rfl, _, _, rfl, _, _, rfl, rfl, ?_⟩
    -- the numbers are there
    have hsS := Ex.sqT e hs2
    refine ⟨_, rfl, s, _, rfl, .inr ⟨hsS, _, rfl, by show 1 ≤ sizeLine; decide, fun t1 ht1 => ?_⟩⟩
    have e2 : Ex (TL K) H3 (upd H3 t1 (.tup [iv a])) := (Ch.refl e.tb).new ht1
    refine catA_one (T := TL K) e2.tb (Ex.sqT e2 hsS) (SqT.of upd_same) (by rw [List.length_map]; have := line_big; show S.length + 1 ≤ _; omega) fun ct Hc e3 hct => ?_
    have e23 := e2.trans e3
    have hct' : SqT K Hc ct ((S ++ [a]).map iv) := by rw [List.map_append]; exact hct
    refine ⟨ct, rfl, ⟨_, hct⟩, e23.tb, fun H5 e5 t5 => ?_⟩
    have e25 := e23.ext e5 t5
    have eH5 := e.trans e25
    refine agx_no walk_tup (ls := S ++ [a]) (by simp) t5 (fun H e => Ex.sqT e (Ex.sqT ((Ch.refl e23.tb).ext e5 t5) hct)) ?_ ?_
    · intro j o v H6 H7 M hj e6 hY hM
      have hYo : YAt ((S ++ [a]).map iv) j H6 v H7 := by
        rw [List.map_append]
        exact hY
      obtain ⟨rfl, rfl⟩ := yat hj hYo
      have ho : o < m.ls.length := by
        rcases List.mem_append.mp (List.mem_of_getElem? hj) with z | z
        · exact rS o z
        · rw [List.mem_singleton.mp z]; exact ra
      refine ⟨_, rfl, _, _, rfl, rfl, _, rfl, ?_⟩
      rw [if_pos (by simp)]
      refine ⟨_, rfl, x, _, _, rfl, Ex.k (eH5.trans e6) h1, rfl, x, m, rfl, hm.ex (eH5.trans e6), _, _, rfl, rfl, _, rfl, ?_⟩
      exact bcast (fun b => M (.bl (!b)) _) (decide_eq_true (by omega)) (hM _ (Ch.refl e6.tb))
    intro H8 e8
    have eH8 := eH5.trans e8
    have e28 := e25.trans e8
    refine ⟨_, rfl, ?_⟩
    refine ⟨_, rfl, _, _, rfl, rfl, _, rfl, ?_⟩
    rw [if_pos (by simp)]
    refine ⟨_, rfl, x, _, dm, _, _, rfl, Ex.k eH8 h1, t.c_Market, t.a_Market_rooms, rfl, bm, _, rfl, .inl (SqL.of (Ex.k eH8 h4)), _, _, rfl, rfl, _, rfl, ?_⟩
    have e9 : decide ((r : Int) < ((vs.map V.ref).length : Nat)) = true := decide_eq_true (by rw [List.length_map, lvs]; omega)
    rw [e9]
    -- wish
    obtain ⟨rq, q1', q2', q3'⟩ := wish_at h5 (m.at_o rr)
    have q4' := WishAt.ex q3' eH8
    obtain ⟨_, _, _, w1', _⟩ := id q4'
    refine ⟨_, rfl, x, _, dm, _, _, rfl, Ex.k eH8 h1, t.c_Market, t.a_Market_rooms, rfl, _, rfl, bm, _, _, _, rfl, rfl, SqL.of (Ex.k eH8 h4), q2', ?_⟩
    refine ⟨_, rfl, rq, _, _, rfl, w1', rfl, _, rfl, rq, a, m.o r, rfl, q4', _, rfl, ?_⟩
    by_cases har : a ∈ m.o r
    rotate_left
    · rw [decide_eq_false har]
      have hgX := hgo.ex e28
      obtain ⟨kvs, k1, k2, k3⟩ := hgX
      refine ⟨_, rfl, _, rfl, _, rfl, by show 2 ≤ sizeLine; decide, fun kt hkt => ?_⟩
      have eX := (Ch.refl (S := No) eH8.tb).new (o := .tup [iv a, iv r]) hkt
      have kl : kvs.length < sizeLine := by
        have h7 : (rowG (rows.take i)).length ≤ 5000 := by
          unfold rowG
          rw [List.length_map, List.length_take]
          have := bok.len
          omega
        have := line_big
        omega
      refine ⟨g, _, rfl, DPut.t (k := gk a r) (Ex.k eX k1) upd_same kl, ⟨_, _, _, _, _, _, rfl⟩, ?_, ?_⟩
      · exact Ch.putN (eH8.trans eX) (Ex.k eX k1) nt_dT (.inl ng)
      · rw [rowG_snoc hrow]
        exact gone_put (H := H) k3 k2
    · rw [decide_eq_true har]
      obtain ⟨rh1, rh2, rh3⟩ := rh har
      have rh1 : S.length = m.q r := rh1
      have rh2 : S.Nodup := rh2
      have hs8 := Ex.sqT e28 hsS
      refine ⟨_, rfl, s, _, rfl, .inr hs8, _, rfl, x, _, dm, _, _, rfl, Ex.k eH8 h1, t.c_Market, t.a_Market_seats, rfl, _, rfl, cm, _, _, _, rfl, rfl, Ex.sqT eH8 h6, atI_nat (v := iv (m.q r)) (by rw [List.getElem?_map, m.at_q qlt]; rfl), rfl, _, rfl, ?_⟩
      have e10 : (!decide (V.int ((S.map iv).length : Nat) = iv (m.q r))) = false := by simp [iv, rh1]
      rw [e10]
      refine ⟨_, rfl, s, rfl, ⟨_, hs8⟩, fun D hD => ?_⟩
      refine lcx walk_tup (ls := S) (by simp) (fun _ => true) (fun (p : Nat) v H => ∃ q, v = .ref q ∧ H q = some (.tup [iv p, iv 1])) eH8.tb hD (fun H e => Ex.sqT e hs8) (small rlen) ?_ ?_ ?_
      · intro a y H H' c ⟨zs, hz⟩ ⟨q, e, hq⟩
        exact ⟨q, e, c.k hq (ne_of hq hz nofun)⟩
      · intro i x v H2 H3 N M ha e hY _ _ hM
        obtain ⟨rfl, rfl⟩ := yat ha hY
        exact ⟨rfl, _, rfl, by show 2 ≤ sizeLine; decide, fun p hp => hM rfl _ _ ((Ch.refl e.tb).new hp) ⟨p, rfl, upd_same⟩⟩
      intro H9 ys e9 hD9 hys
      have fz : S.filter (fun _ => true) = S := by simp
      rw [fz] at hys
      obtain ⟨ds, hds, hps⟩ := dpairs (K := K) (k := fun (p : Nat) => Sum.inl (p : Int)) (u := fun _ => iv 1) hys
      subst hds
      refine ⟨D, ds, _, rfl, SqL.of hD9, hps, fun dr hdr => ?_⟩
      have kn : ((S.map fun (p : Nat) => ((Sum.inl (p : Int) : Key), iv 1)).map (·.1)).Nodup := by
        rw [List.map_map]
        exact rh2.map _ fun a b h z => h (Int.ofNat.inj (Sum.inl.inj z))
      rw [mergeK_self kn]
      have e11 : Ex (TL K) H8 (upd H9 dr (.dK (S.map fun (p : Nat) => ((Sum.inl (p : Int) : Key), iv 1)))) := e9.new hdr
      refine ⟨dr, _, rfl, upd_same, _, rfl, s, _, rfl, .inr (Ex.sqT e11 hs8), rfl, _, rfl, ?_⟩
      have e12 : (!decide (V.int ((S.map fun (p : Nat) => ((Sum.inl (p : Int) : Key), iv 1)).length : Nat) = V.int ((S.map iv).length : Nat))) = false := by simp
      rw [e12]
      have eH9 := eH8.trans e11
      have e29 := e28.trans e11
      have hs9 := Ex.sqT e11 hs8
      refine ⟨_, rfl, s, rfl, ⟨_, hs9⟩, eH9.tb, fun H10 e13 t13 => ?_⟩
      have eH10 := eH9.ext e13 t13
      have e210 := e29.ext e13 t13
      refine agx_no walk_tup (ls := S) (by simp) t13 (fun H e => Ex.sqT e (Ex.sqT ((Ch.refl eH9.tb).ext e13 t13) hs9)) ?_ ?_
      · intro j o v H6 H7 M hj e6 hY hM
        obtain ⟨rfl, rfl⟩ := yat hj hY
        have ho := List.mem_of_getElem? hj
        refine ⟨_, rfl, _, rfl, _, rfl, _, rfl, _, rfl, x, g, m, rowG (rows.take i), o, r, a, rfl, hm.ex (eH10.trans e6), hok, hgo.ex (e210.trans e6), rS o ho, rr, e6.tb, fun H11 e14 => ?_⟩
        have := rh3 o ho
        refine ⟨_, rfl, ?_⟩
        rw [show hbrB m (rowG (rows.take i)) o r a = true from this]
        exact hM _ e14
      intro H12 e15
      have eH12 := eH10.trans e15
      have e212 := e210.trans e15
      refine ⟨_, rfl, ?_⟩
      have hgX := hgo.ex e212
      obtain ⟨kvs, k1, k2, k3⟩ := hgX
      refine ⟨_, rfl, _, rfl, _, rfl, by show 2 ≤ sizeLine; decide, fun kt hkt => ?_⟩
      have eX := (Ch.refl (S := No) eH12.tb).new (o := .tup [iv a, iv r]) hkt
      have kl : kvs.length < sizeLine := by
        have h7 : (rowG (rows.take i)).length ≤ 5000 := by
          unfold rowG
          rw [List.length_map, List.length_take]
          have := bok.len
          omega
        have := line_big
        omega
      refine ⟨g, _, rfl, DPut.t (k := gk a r) (Ex.k eX k1) upd_same kl, ⟨_, _, _, _, _, _, rfl⟩, ?_, ?_⟩
      · exact Ch.putN (eH12.trans eX) (Ex.k eX k1) nt_dT (.inl ng)
      · rw [rowG_snoc hrow]
        exact gone_put (H := H) k3 k2
  · intro σ H' q
    obtain ⟨⟨u4, u5, u6, u7, u8, u9, rfl⟩, e, hgo⟩ := q
    rw [List.length_map, las, List.take_length] at hgo
    refine ⟨_, rfl, x, _, dm, _, _, rfl, Ex.k e h1, t.c_Market, t.a_Market_askers, rfl, am, _, rfl, SqL.of (Ex.k e h2), ?_⟩
    refine for_it (walk_enum (xs := ws.map V.ref)) (fun i σ H'' => (∃ u4 u5 u6 u7 u8 u9, σ = [some (.ref x), some (.ref p), some (.ref pp), some (.ref g), u4, u5, u6, u7, u8, u9]) ∧ Ex (TL K) H' H'') ?_ ?_ ?_ ?_
    · exact ⟨⟨_, _, _, _, _, _, rfl⟩, Ch.refl e.tb⟩
    · intro i σ H'' _ q
      exact SqL.of (Ex.k (e.trans q.2) h2)
    · intro i v σ H2 H3 hi q hY
      obtain ⟨⟨u4, u5, u6, u7, u8, u9, rfl⟩, e2⟩ := q
      have hi' : i < m.ls.length := by rw [List.length_map, lws] at hi; exact hi
      obtain ⟨wq, q1, q2, q3⟩ := wish_at h3 (m.at_l hi')
      obtain ⟨T, rfl, hTn, rfl⟩ := yenum q1 hY
      have e3 : Ex (TL K) H' (upd H2 T (.tup [.int (i : Nat), .ref wq])) := e2.new hTn
      have eH3 := e.trans e3
      have q4 := WishAt.ex q3 eH3
      obtain ⟨_, _, _, w1, _⟩ := id q4
      have il : i < μ.length := by omega
      refine ⟨T, _, rfl, SqT.of upd_same, rfl, _, _, rfl, _, _, rfl, rfl, ?_⟩
      refine ⟨_, rfl, wq, _, _, rfl, w1, rfl, _, rfl, _, rfl, p, _, _, _, rfl, rfl, Ex.sqT eH3 hp, atI_nat (ov_at il), wq, hf μ i, m.l i, rfl, q4, e3.tb, fun ap H4 e4 hap => ?_⟩
      refine ⟨ap, rfl, ⟨_, hap⟩, e4.tb, fun H5 e5 t5 => ?_⟩
      have e35 := (e3.trans e4).ext e5 t5
      refine agx_no walk_tup (ls := aheadOf (m.l i) (hf μ i)) (by simp) t5 (fun H e => Ex.sqT e (Ex.sqT ((Ch.refl e4.tb).ext e5 t5) hap)) ?_ ?_
      · intro j o v H6 H7 M hj e6 hY hM
        obtain ⟨rfl, rfl⟩ := yat hj hY
        have hgo' := hgo.ex (e35.trans e6)
        obtain ⟨kvs, k1, k2, k3⟩ := hgo'
        refine ⟨_, rfl, _, rfl, by show 2 ≤ sizeLine; decide, fun kt hkt => ?_⟩
        have e7 := (Ch.refl (S := No) e6.tb).new (o := .tup [iv i, iv o]) hkt
        refine ⟨_, rfl, g, _, rfl, DGet.t (k := gk i o) (Ex.k e7 k1) upd_same, ?_⟩
        rw [k3, decide_eq_true (bok.fin i hi' o (List.mem_of_getElem? hj))]
        exact hM _ e7
      · intro H8 e8
        exact ⟨_, rfl, ⟨_, _, _, _, _, _, rfl⟩, e35.trans e8⟩
    · intro σ H'' q
      obtain ⟨_, e2⟩ := q
      exact hQ _ (e.trans e2)

/-- what both papers need of a market and a matching -/
structure Fine (m : NM) (μ : List (Option Nat)) : Prop where
  ok : m.Ok
  good : Good m μ
  steps : ∀ st nx hd, Run m st nx hd → StepsIn m st
  best : ∀ st nx hd, Run m st nx hd → (∀ k, k < m.ls.length → wantsB m nx hd k = false) → BestOk m μ (rowsOf m.ls.length st)
def spBoth (K : PySem.W.Frag) : Sp := fun vs H Q _ => ∃ (x p : Addr) (m : NM) (μ : List (Option Nat)), vs = [.ref x, .ref p] ∧ MktAt K H x m ∧ SqT K H p (μ.map ov) ∧ Fine m μ ∧ LamX.Tabs (TL K) H ∧
  ∀ q H' a b rows, Ex (TL K) H H' → SqT K H' q [.ref a, .ref b] → StabT K H' a (stabRows m μ) → BestT K H' b rows → BestOk m μ rows → Q (.ref q) H'
theorem ok_both_papers (t : TX K mg base) : Does P w K mg base CX0 10 ("both_papers", none) ["market", "match"] (spBoth K) := by
  obtain ⟨fd_stable_paper, G_stable_paper, b_stable_paper, p_stable_paper⟩ := ok_stable_paper (P := P) (w := w) t
  obtain ⟨fd_best_paper, G_best_paper, b_best_paper, p_best_paper⟩ := ok_best_paper (P := P) (w := w) t
  obtain ⟨fd_check_best, G_check_best, b_check_best, p_check_best⟩ := ok_check_best (P := P) (w := w) t
  have nd := (sc_both_papers).nd
  refine t.do_both_papers (fun vs H Q E h => by obtain ⟨_, _, _, _, rfl, _⟩ := h; rfl) fun A outer s H vs Q E hr h => ⟨_, PSs.nox ((pss_cons (ps_set (i := 2) nd rfl (Or.inl rfl) (pe_call G_stable_paper (hr.mono (by decide)) (by rfl) t.g_stable_paper p_stable_paper b_stable_paper .nil pass0 (pa_cons (pv 0) (pa_cons (pv 1) pa_nil)))) (pss_cons (ps_set (i := 3) nd rfl (Or.inl rfl) (pe_call G_best_paper (hr.mono (by decide)) (by rfl) t.g_best_paper p_best_paper b_best_paper .nil pass0 (pa_cons (pv 0) pa_nil))) (pss_cons (ps_expr (pe_call G_check_best (hr.mono (by decide)) (by rfl) t.g_check_best p_check_best b_check_best .nil pass0 (pa_cons (pv 0) (pa_cons (pv 1) (pa_cons (pv 3) pa_nil))))) (pss_one (ps_ret (pe_tup (pa_cons (pv 2) (pa_cons (pv 3) pa_nil))))))))), ?_⟩
  obtain ⟨x, p, m, μ, rfl, hm, hp, F, hT, hQ⟩ := h
  refine ⟨_, rfl, _, rfl, x, p, m, μ, rfl, hm, F.ok, hp, F.good, hT, fun a H1 e1 ha => ?_⟩
  refine ⟨_, rfl, x, m, rfl, hm.ex e1, F.ok, F.steps, e1.tb, fun b H2 st nx hd e2 hb R hw => ?_⟩
  have e12 := e1.trans e2
  have bo := F.best st nx hd R hw
  refine ⟨_, rfl, _, rfl, _, rfl, x, p, b, m, μ, _, rfl, hm.ex e12, F.ok, Ex.sqT e12 hp, F.good.len, hb, bo, e12.tb, fun H3 e3 => ?_⟩
  refine ⟨_, rfl, _, rfl, by show 2 ≤ sizeLine; decide, fun q hq => ?_⟩
  have e4 : Ex (TL K) H3 (upd H3 q (.tup [.ref a, .ref b])) := (Ch.refl e3.tb).new hq
  exact hQ q _ a b _ (e12.trans (e3.trans e4)) (SqT.of upd_same) (ha.ex (e2.trans (e3.trans e4))) (hb.ex (e3.trans e4)) bo
def spCheckBoth (K : PySem.W.Frag) : Sp := fun vs H Q _ => ∃ (x p q a b : Addr) (m : NM) (μ : List (Option Nat)) (rows : List Row), vs = [.ref x, .ref p, .ref q] ∧ MktAt K H x m ∧ SqT K H p (μ.map ov) ∧ Fine m μ ∧ SqT K H q [.ref a, .ref b] ∧ StabT K H a (stabRows m μ) ∧ BestT K H b rows ∧ BestOk m μ rows ∧ LamX.Tabs (TL K) H ∧
  ∀ H', Ex (TL K) H H' → Q (.bl true) H'
theorem ok_check_both (t : TX K mg base) : Does P w K mg base CX0 10 ("check_both", none) ["market", "match", "papers"] (spCheckBoth K) := by
  obtain ⟨fd_check_best, G_check_best, b_check_best, p_check_best⟩ := ok_check_best (P := P) (w := w) t
  obtain ⟨fd_check_stable, G_check_stable, b_check_stable, p_check_stable⟩ := ok_check_stable (P := P) (w := w) t
  have nd := (sc_check_both).nd
  refine t.do_check_both (fun vs H Q E h => by obtain ⟨_, _, _, _, _, _, _, _, rfl, _⟩ := h; rfl) fun A outer s H vs Q E hr h => ⟨_, PSs.nox ((pss_one (ps_ret (pe_and (pe_call G_check_stable (hr.mono (by decide)) (by rfl) t.g_check_stable p_check_stable b_check_stable .nil pass0 (pa_cons (pv 0) (pa_cons (pv 1) (pa_cons (pe_ix (ix_tupK K rfl) (pv 2) pe_int (fun _ _ => rfl)) pa_nil)))) (pe_one (pe_call G_check_best (hr.mono (by decide)) (by rfl) t.g_check_best p_check_best b_check_best .nil pass0 (pa_cons (pv 0) (pa_cons (pv 1) (pa_cons (pe_ix (ix_tupK K rfl) (pv 2) pe_int (fun _ _ => rfl)) pa_nil))))))))), ?_⟩
  obtain ⟨x, p, q, a, b, m, μ, rows, rfl, hm, hp, F, hq, ha, hb, bo, hT, hQ⟩ := h
  refine ⟨_, rfl, _, rfl, _, rfl, q, _, _, _, rfl, rfl, hq, rfl, x, p, a, m, μ, rfl, hm, F.ok, hp, F.good, ha, hT, fun H1 e1 => ⟨_, rfl, ?_⟩⟩
  exact ⟨_, rfl, _, rfl, _, rfl, q, _, _, _, rfl, rfl, Ex.sqT e1 hq, rfl, x, p, b, m, μ, rows, rfl, hm.ex e1, F.ok, Ex.sqT e1 hp, F.good.len, hb.ex e1, bo, e1.tb, fun H2 e2 => hQ _ (e1.trans e2)⟩
end
end PMT

set_option Elab.async false
set_option linter.all false
/-! M3: what is behind the papers: runs, their rows; the fine. Plain Lean. -/
namespace PMT
theorem rank_in {l : List Nat} {r : Nat} (h : r ∈ l) : rankOf l (some r) = some (l.idxOf r) := if_pos h
theorem better_in {l : List Nat} {a b : Nat} (ha : a ∈ l) (hb : b ∈ l) : betterB l (some a) (some b) = decide (l.idxOf a < l.idxOf b) := by
  unfold betterB; rw [rank_in ha, rank_in hb]
theorem mem_ahead {l : List Nat} (hn : l.Nodup) {x : Option Nat} (hx : ∀ r, x = some r → r ∈ l) {o : Nat} : o ∈ aheadOf l x ↔ o ∈ l ∧ l.idxOf o < PM.pl l x := by
  unfold aheadOf
  cases x with
  | none =>
    show o ∈ l.take l.length ↔ _
    rw [List.take_length]
    exact ⟨fun h => ⟨h, List.idxOf_lt_length_of_mem h⟩, fun h => h.1⟩
  | some r =>
    rw [rank_in (hx r rfl)]
    exact PM.mem_take_idx hn
theorem NM.l_nd {m : NM} (ok : m.Ok) {k : Nat} (h : k < m.ls.length) : (m.l k).Nodup := (ok.lnd _ (List.mem_of_getElem? (m.at_l h))).1
theorem hf_ext {a b : List (Option Nat)} (hl : a.length = b.length) (h : hf a = hf b) : a = b := by
  refine List.ext_getElem hl fun i h1 h2 => ?_
  have := congrFun h i
  simp only [hf, List.getD_eq_getElem?_getD, List.getElem?_eq_getElem h1, List.getElem?_eq_getElem h2] at this
  exact this
theorem hf_at {hd : List (Option Nat)} {k r : Nat} : hf hd k = some r ↔ hd[k]? = some (some r) := by
  simp only [hf, List.getD_eq_getElem?_getD]
  cases e : hd[k]? with
  | none => simp
  | some v => simp
theorem good_of {m : NM} (ok : m.Ok) {μ : List (Option Nat)} (hl : μ.length = m.ls.length) (F : PM.Fin m.M (hf μ)) : Good m μ := by
  have inA : ∀ {k r}, μ[k]? = some (some r) → k ∈ m.M.A := fun h => List.mem_range.mpr (by rw [← hl]; exact (List.getElem?_eq_some_iff.mp h).1)
  refine ⟨hl, fun k r h => ?_, fun r => ?_, fun k r hp hne hb => ?_⟩
  · have := F.hd k (inA h) r (hf_at.mpr h)
    exact ⟨this.2.2.1, this.2.2.2⟩
  · rw [← insN_M_len ok hl]; exact F.cap r
  · obtain ⟨h1, h2, h3⟩ := m.mem_prs.mp hp
    have hk : k ∈ m.M.A := List.mem_range.mpr h1
    have lk : m.M.likes k r := ⟨hk, List.mem_range.mpr (NM.prs_lt ok hp).2, h2, h3⟩
    have hlt : (m.l k).idxOf r < PM.pl (m.l k) (hf μ k) := by
      cases e : hf μ k with
      | none => exact List.idxOf_lt_length_of_mem h2
      | some s =>
        have hs : s ∈ m.l k := (F.hd k hk s e).2.2.1
        rw [e, better_in hs h2, decide_eq_false_iff_not] at hb
        rw [e] at hne
        have ne : (m.l k).idxOf s ≠ (m.l k).idxOf r := fun z => hne (congrArg some (PM.idx_inj hs z))
        show (m.l k).idxOf r < (m.l k).idxOf s
        omega
    obtain ⟨f1, f2⟩ := (F.rj k r lk hlt).2
    rw [insN_M_len ok hl] at f1
    have c := F.cap r
    rw [insN_M_len ok hl] at c
    refine ⟨Nat.le_antisymm c f1, fun b hb2 => ?_⟩
    have hb3 := (insN_M hl b).mpr hb2
    have hbl := F.hd b (PM.mem_ins.mp hb3).1 r (PM.mem_ins.mp hb3).2
    have hbo : b ∈ m.o r := hbl.2.2.2
    rw [better_in hbo h3]
    exact decide_eq_true (f2 b hb3)
theorem Run.steps {m : NM} (ok : m.Ok) {st nx hd} (R : Run m st nx hd) : StepsIn m st := by
  induction R with
  | nil => intro e he; cases he
  | @step st1 nx1 hd1 k r out hd2 R hk hn hr ho hl ih =>
    intro e he
    rcases List.mem_append.mp he with he | he
    · exact ih e he
    · rw [List.mem_singleton] at he
      subst he
      refine ⟨hk, (ok.lnd _ (List.mem_of_getElem? (m.at_l hk))).2.2 r (List.mem_of_getElem? hr), fun w hw => ?_⟩
      change out = some w at hw
      subst hw
      generalize ew : some w = ow at ho
      generalize hf hd2 = g at ho
      cases ho with
      | self _ => cases ew; exact hk
      | take _ _ => cases ew
      | swap v _ _ h _ _ _ => cases ew; exact List.mem_range.mp (PM.mem_ins.mp h).1
def outRow (out : Option Nat) (r : Nat) (h : List Nat) : List Row := match out with
  | none => []
  | some a => [(a, r, h)]
/-- what stands amid a run -/
structure RJ (m : NM) (st : List Step) (nx : List Nat) (hd : List (Option Nat)) : Prop where
  rp : replays m.ls.length st = hd
  row : ∀ i e, (rowsOf m.ls.length st)[i]? = some e → rowOk m (rowG ((rowsOf m.ls.length st).take i)) e
  gone : ∀ k, k < m.ls.length → ∀ o ∈ m.l k, (m.l k).idxOf o < nf nx k → hf hd k ≠ some o → (k, o) ∈ rowG (rowsOf m.ls.length st)
theorem rowG_app {a b : List Row} : rowG (a ++ b) = rowG a ++ rowG b := List.map_append
/-- the holders of a refused asker's row are held by right -/
theorem hbr_of {m : NM} (ok : m.Ok) {G : List (Nat × Nat)} {h r a : Nat} (hl : m.M.likes h r) (ha : a ∈ m.o r) (hb : PM.better m.M r h a) (up : ∀ o ∈ m.l h, (m.l h).idxOf o < (m.l h).idxOf r → (h, o) ∈ G) : hbrB m G h r a = true := by
  obtain ⟨h1, h2, h3, h4⟩ := hl
  have h3' : r ∈ m.l h := h3
  have h4' : h ∈ m.o r := h4
  have hb' : (m.o r).idxOf h < (m.o r).idxOf a := hb
  unfold hbrB
  rw [better_in h4' ha]
  simp only [h3', h4', hb', decide_true, Bool.true_and, List.all_eq_true, decide_eq_true_eq]
  intro o ho
  have := (mem_ahead (NM.l_nd ok (List.mem_range.mp h1)) (fun s hs => by cases hs; exact h3')).mp ho
  exact up o this.1 this.2
theorem rows_put {m : NM} {rows new : List Row} (h1 : ∀ i e, rows[i]? = some e → rowOk m (rowG (rows.take i)) e) (h2 : ∀ e, new = [e] → rowOk m (rowG rows) e) (h3 : new.length ≤ 1) : ∀ i e, (rows ++ new)[i]? = some e → rowOk m (rowG ((rows ++ new).take i)) e := by
  intro i e h
  by_cases hi : i < rows.length
  · rw [List.getElem?_append_left hi] at h
    rw [List.take_append_of_le_length (Nat.le_of_lt hi)]
    exact h1 i e h
  · rw [List.getElem?_append_right (Nat.le_of_not_lt hi)] at h
    match new, h2, h3, h with
    | [], _, _, h => simp at h
    | [x], h2, _, h =>
      have hz : i - rows.length = 0 := by
        have := (List.getElem?_eq_some_iff.mp h).1
        simp at this; omega
      have : i = rows.length := by omega
      subst this
      rw [hz] at h
      cases h
      rw [List.take_left]
      exact h2 e rfl
    | _ :: _ :: _, _, h3, _ => simp at h3
theorem Run.rj {m : NM} (ok : m.Ok) {st nx hd} (R : Run m st nx hd) : RJ m st nx hd := by
  induction R with
  | nil => exact ⟨rfl, fun i e h => by simp [rowsOf] at h, fun k _ o _ h => absurd h (by rw [nf_rep]; exact Nat.not_lt_zero _)⟩
  | @step st1 nx1 hd1 k r out hd2 R hk hn hr ho hl ih =>
    have D := R.da ok
    have R2 : Run m (st1 ++ [(k, r, out)]) (nx1.set k (nf nx1 k + 1)) hd2 := .step R hk hn hr ho hl
    have D2 := R2.da ok
    have enx : nf (nx1.set k (nf nx1 k + 1)) = PM.fset (nf nx1) k (nf nx1 k + 1) := PM.getD_set (by rw [R.len.1]; exact hk)
    obtain ⟨ir, hirl, hrm⟩ := PM.idx_of_get? (NM.l_nd ok hk) hr
    have kA : k ∈ m.M.A := List.mem_range.mpr hk
    have hro : r < m.os.length := (ok.lnd _ (List.mem_of_getElem? (m.at_l hk))).2.2 r hrm
    have len1 := R.len.2
    have lk : ∀ h : k ∈ m.o r, m.M.likes k r := fun h => ⟨kA, List.mem_range.mpr hro, hrm, h⟩
    -- replay
    have rp : replay hd1 (k, r, out) = hd2 := by
      refine hf_ext (by rw [replay_len, len1, hl]) ?_
      have s1 : hf (hd1.set k (some r)) = PM.fset (hf hd1) k (some r) := PM.getD_set (by rw [len1]; exact hk)
      unfold replay
      generalize eh : hf hd2 = g at ho
      cases ho with
      | self _ => rw [if_pos rfl]
      | take _ _ =>
        rw [if_neg (by show ¬ (none : Option Nat) = some k; exact nofun)]
        exact s1
      | swap w _ hw hi _ _ _ =>
        rw [if_neg (by show ¬ (some w : Option Nat) = some k; exact fun z => hw (Option.some.inj z))]
        have hwl : w < (hd1.set k (some r)).length := by
          rw [List.length_set, len1]; exact List.mem_range.mp (PM.mem_ins.mp hi).1
        show hf ((hd1.set k (some r)).set w none) = _
        have s2 : hf ((hd1.set k (some r)).set w none) = PM.fset (hf (hd1.set k (some r))) w none := PM.getD_set hwl
        rw [s2, s1]
    have er : rowsOf m.ls.length (st1 ++ [(k, r, out)]) = rowsOf m.ls.length st1 ++ rowStep hd1 (k, r, out) := by rw [rows_snoc, ih.rp]
    have rs : rowStep hd1 (k, r, out) = outRow out r (insN hd2 r) := by
      unfold rowStep outRow
      rw [rp]
      all_goals (cases out <;> rfl)
    -- who holds the room after it
    have holds : ∀ b ∈ insN hd2 r, b ≠ k → hf hd1 b = some r := by
      intro b hb hbk
      have hb2 := PM.mem_ins.mp ((insN_M hl b).mpr hb)
      have hb3 := hb2.2
      generalize eh : hf hd2 = g at ho hb3
      cases ho with
      | self _ => exact hb3
      | take _ _ => rw [PM.fset_ne hbk] at hb3; exact hb3
      | swap w _ hw hi _ _ _ =>
        by_cases e : b = w
        · subst e; rw [PM.fset_same] at hb3; cases hb3
        · rw [PM.fset_ne e, PM.fset_ne hbk] at hb3; exact hb3
    have upk : ∀ o ∈ m.l k, (m.l k).idxOf o < (m.l k).idxOf r → (k, o) ∈ rowG (rowsOf m.ls.length st1) := fun o h1 h2 => by
      refine ih.gone k hk o h1 ?_ (by rw [hn]; exact nofun)
      rw [ir] at h2
      exact h2
    have up : ∀ b ∈ insN hd2 r, ∀ o ∈ m.l b, (m.l b).idxOf o < (m.l b).idxOf r → (b, o) ∈ rowG (rowsOf m.ls.length st1) := by
      intro b hb o h1 h2
      by_cases e : b = k
      · subst e; exact upk o h1 h2
      · have hbl : b < m.ls.length := by rw [← hl]; exact insN_lt hb
        have hh := holds b hb e
        have hd := D.hd b (List.mem_range.mpr hbl) r hh
        have hd2 : nf nx1 b = (m.l b).idxOf r + 1 := hd.2
        exact ih.gone b hbl o h1 (by omega) (by
          rw [hh]
          intro z
          have := Option.some.inj z
          subst this
          exact Nat.lt_irrefl _ h2)
    have likes2 : ∀ b ∈ insN hd2 r, m.M.likes b r := fun b hb => by
      have hb2 := PM.mem_ins.mp ((insN_M hl b).mpr hb)
      exact (D2.hd b hb2.1 r hb2.2).1
    have cap2 : (insN hd2 r).length ≤ m.q r := by
      have := D2.cap r
      rw [insN_M_len ok hl] at this
      exact this
    have rok : ∀ a, out = some a → rowOk m (rowG (rowsOf m.ls.length st1)) (a, r, insN hd2 r) := by
      intro a ha
      have hal : a < m.ls.length := (R2.steps ok (k, r, out) (by simp)).2.2 a ha
      refine ⟨hal, hro, fun h hh => by rw [← hl]; exact insN_lt hh, by have := @insN_len hd2 r; have := ok.l64; show (insN hd2 r).length ≤ 64; omega, fun (hao : a ∈ m.o r) => ?_⟩
      have key : m.q r ≤ (insN hd2 r).length ∧ ∀ b ∈ insN hd2 r, PM.better m.M r b a := by
        subst ha
        have conv : ∀ g, hf hd2 = g → (PM.ins m.M g r).length = (insN hd2 r).length ∧ ∀ b, b ∈ PM.ins m.M g r ↔ b ∈ insN hd2 r := fun g e => by
          subst e; exact ⟨insN_M_len ok hl, insN_M hl⟩
        generalize eh : hf hd2 = g at ho
        have cv := conv g eh
        generalize ea : some a = oa at ho
        cases ho with
        | self f =>
          cases ea
          obtain ⟨f1, f2⟩ := f (lk hao)
          exact ⟨by rw [← cv.1]; exact f1, fun b hb => f2 b ((cv.2 b).mpr hb)⟩
        | take _ _ => cases ea
        | swap w l1 hw hi f1 f2 f3 =>
          cases ea
          have e1 := PM.ins_swap_len (m.wf ok) kA hn hw hi
          rw [cv.1] at e1
          refine ⟨by rw [e1]; exact f1, fun b hb => ?_⟩
          have hb3 := (PM.mem_ins.mp ((cv.2 b).mpr hb)).2
          by_cases e : b = a
          · subst e; rw [PM.fset_same] at hb3; cases hb3
          by_cases e2 : b = k
          · subst e2; exact f2
          · rw [PM.fset_ne e, PM.fset_ne e2] at hb3
            exact f3 b (PM.mem_ins.mpr ⟨(PM.mem_ins.mp ((cv.2 b).mpr hb)).1, hb3⟩) e
      exact ⟨Nat.le_antisymm cap2 key.1, insN_nodup, fun h hh => hbr_of ok (likes2 h hh) hao (key.2 h hh) (up h hh)⟩
    refine ⟨by rw [replays_snoc, ih.rp]; exact rp, ?_, ?_⟩
    · rw [er]
      refine rows_put ih.row (fun e he => ?_) (by rw [rs]; unfold outRow; split <;> simp)
      rw [rs] at he
      cases out with
      | none => cases he
      | some a => cases he; exact rok a rfl
    · intro j hj o hoj hlt hne
      rw [enx] at hlt
      rw [er, rowG_app, rs]
      -- either an older row, or this one
      by_cases old : (m.l j).idxOf o < nf nx1 j ∧ hf hd1 j ≠ some o
      · exact List.mem_append_left _ (ih.gone j hj o hoj old.1 old.2)
      · refine List.mem_append_right _ ?_
        by_cases e : j = k
        · subst e
          rw [PM.fset_same] at hlt
          have hio : ¬ (m.l j).idxOf o < nf nx1 j := fun z => old ⟨z, by rw [hn]; exact nofun⟩
          have : (m.l j).idxOf o = (m.l j).idxOf r := by rw [ir]; omega
          have : o = r := PM.idx_inj hoj this
          subst this
          generalize eh : hf hd2 = g at ho hne
          cases ho with
          | self _ => simp [rowG, outRow]
          | take _ _ => exact absurd PM.fset_same hne
          | swap w _ hw _ _ _ _ =>
            rw [PM.fset_ne (Ne.symm hw), PM.fset_same] at hne
            exact absurd rfl hne
        · rw [PM.fset_ne e] at hlt
          have h1 : hf hd1 j = some o := Classical.byContradiction fun z => old ⟨hlt, z⟩
          generalize eh : hf hd2 = g at ho hne
          cases ho with
          | self _ => exact absurd h1 hne
          | take _ _ => rw [PM.fset_ne e] at hne; exact absurd h1 hne
          | swap w _ hw hi _ _ _ =>
            by_cases ew : j = w
            · subst ew
              have := (PM.mem_ins.mp hi).2
              rw [h1] at this
              cases this
              simp [rowG, outRow]
            · rw [PM.fset_ne ew, PM.fset_ne e] at hne
              exact absurd h1 hne
theorem pl_inj {l : List Nat} {x y : Option Nat} (hx : ∀ r, x = some r → r ∈ l) (hy : ∀ r, y = some r → r ∈ l) (h : PM.pl l x = PM.pl l y) : x = y := by
  cases x with
  | none =>
    cases y with
    | none => rfl
    | some s =>
      have := List.idxOf_lt_length_of_mem (hy s rfl)
      exact absurd h (by show l.length ≠ l.idxOf s; omega)
  | some r =>
    cases y with
    | none =>
      have := List.idxOf_lt_length_of_mem (hx r rfl)
      exact absurd h (by show l.idxOf r ≠ l.length; omega)
    | some s => exact congrArg some (PM.idx_inj (hx r rfl) h)
theorem fine_of {m : NM} (ok : m.Ok) {μ : List (Option Nat)} (hl : μ.length = m.ls.length) (F : PM.Fin m.M (hf μ)) : Fine m μ := by
  refine ⟨ok, good_of ok hl F, fun st nx hd R => R.steps ok, fun st nx hd R hw => ?_⟩
  have J := R.rj ok
  have D := R.da ok
  have S : PM.Settled m.M (hf hd) (nf nx) := fun a ha hn => by
    have h1 := hw a (List.mem_range.mp ha)
    have h2 := D.nx a ha
    have h2' : nf nx a ≤ (m.l a).length := h2
    unfold wantsB at h1
    rw [decide_eq_true hn, Bool.true_and, decide_eq_false_iff_not] at h1
    show nf nx a = (m.l a).length
    omega
  have F2 := D.fin S
  refine ⟨J.row, fun k hk r hr => ?_, Nat.le_trans rows_len (Nat.le_trans (R.st_le ok) (by decide))⟩
  have kA : k ∈ m.M.A := List.mem_range.mpr hk
  have e : hf μ k = hf hd k := by
    refine pl_inj (l := m.l k) (fun s h => (F.hd k kA s h).2.2.1) (fun s h => (F2.hd k kA s h).2.2.1) ?_
    exact Nat.le_antisymm (F.best F2.stable kA) (F2.best F.stable kA)
  rw [e] at hr
  have := (mem_ahead (NM.l_nd ok hk) (fun s h => (F2.hd k kA s h).2.2.1)).mp hr
  refine J.gone k hk r this.1 (Nat.lt_of_lt_of_le this.2 (D.pl_le S kA)) ?_
  exact PM.pl_ne this.2
end PMT

set_option Elab.async false
set_option linter.all false
set_option maxRecDepth 100000
set_option maxHeartbeats 2000000
/-! V1: a fair: what it is, its asks. -/
namespace PMT
open PySem PySem.Spec PyProof.Rows L2
structure FS where
  A : List Str
  R : List Str
  lst : Str → List Str
  ord : Str → List Str
  q : Str → Nat
  held : Str → Option Str
  next : Str → Nat
  asks : Nat
structure FA where
  dx : Addr
  dl : Addr
  do_ : Addr
  ds : Addr
  dh : Addr
  dn : Addr
  la : Str → Addr
  oa : Str → Addr
def FA.ds5 (a : FA) : List Addr := [a.dl, a.do_, a.ds, a.dh, a.dn]
abbrev os : Option Str → V
  | none => .non
  | some s => .str s
def FS.M (F : FS) : PM.Mkt Str Str := ⟨F.A, F.R, F.lst, F.ord, F.q⟩
structure FS.Ok (F : FS) : Prop where
  A : F.A.Nodup
  R : F.R.Nodup
  lst : ∀ x ∈ F.A, (F.lst x).Nodup ∧ (F.lst x).length ≤ 8
  ord : ∀ x ∈ F.R, (F.ord x).Nodup ∧ (F.ord x).length ≤ 8
  a : F.A.length ≤ 8
  r : F.R.length ≤ 8
theorem FS.wf {F : FS} (ok : F.Ok) : F.M.WF := ⟨ok.A, ok.R, fun a h => (ok.lst a h).1, fun a h => (ok.ord a h).1⟩
/-- what may be read of it, under locks too -/
structure FairR (K : PySem.W.Frag) (H : Hp) (f : Addr) (a : FA) (F : FS) : Prop where
  ins : H f = some (.ins (He.ga K "Fair") a.dx [("lists", .ref a.dl), ("orders", .ref a.do_), ("seats", .ref a.ds), ("held", .ref a.dh), ("next", .ref a.dn), ("asks", .int F.asks)])
  l : Rd H a.dl (.dK (dkv F.A fun x => .ref (a.la x)))
  o : Rd H a.do_ (.dK (dkv F.R fun x => .ref (a.oa x)))
  lt : ∀ x ∈ F.A, SqT K H (a.la x) ((F.lst x).map V.str)
  ot : ∀ x ∈ F.R, SqT K H (a.oa x) ((F.ord x).map V.str)
structure FairAt (K : PySem.W.Frag) (H : Hp) (f : Addr) (a : FA) (F : FS) : Prop where
  ins : H f = some (.ins (He.ga K "Fair") a.dx [("lists", .ref a.dl), ("orders", .ref a.do_), ("seats", .ref a.ds), ("held", .ref a.dh), ("next", .ref a.dn), ("asks", .int F.asks)])
  l : H a.dl = some (.dK (dkv F.A fun x => .ref (a.la x)))
  o : H a.do_ = some (.dK (dkv F.R fun x => .ref (a.oa x)))
  s : H a.ds = some (.dK (dkv F.R fun x => iv (F.q x)))
  h : H a.dh = some (.dK (dkv F.A fun x => os (F.held x)))
  n : H a.dn = some (.dK (dkv F.A fun x => iv (F.next x)))
  lt : ∀ x ∈ F.A, SqT K H (a.la x) ((F.lst x).map V.str)
  ot : ∀ x ∈ F.R, SqT K H (a.oa x) ((F.ord x).map V.str)
  ap : a.ds5.Nodup
theorem FairAt.r {K H f a F} (z : FairAt K H f a F) : FairR K H f a F := ⟨z.ins, .of z.l, .of z.o, z.lt, z.ot⟩
theorem FairR.ex {K T H H' f a F} (z : FairR K H f a F) (e : Ex T H H') : FairR K H' f a F :=
  ⟨Ex.k e z.ins, Ex.rd e z.l, Ex.rd e z.o, fun x h => Ex.sqT e (z.lt x h), fun x h => Ex.sqT e (z.ot x h)⟩
theorem FairAt.ex {K T H H' f a F} (z : FairAt K H f a F) (e : Ex T H H') : FairAt K H' f a F :=
  ⟨Ex.k e z.ins, Ex.k e z.l, Ex.k e z.o, Ex.k e z.s, Ex.k e z.h, Ex.k e z.n, fun x h => Ex.sqT e (z.lt x h), fun x h => Ex.sqT e (z.ot x h), z.ap⟩
/-- the fair's own things -/
def S6 (f : Addr) (a : FA) : Addr → Prop := fun y => y = f ∨ y ∈ a.ds5
theorem sqT_dK {K : PySem.W.Frag} {H : Hp} {d b : Addr} {kvs : List (Key × V)} {o : HO} {xs : List V} (hd : H d = some (.dK kvs)) (e : SqT K H b xs) : SqT K (upd H d o) b xs := by
  rcases e with (e | ⟨q, e⟩) | e
  · have ne : b ≠ d := ne_of e hd (by intro z; cases z)
    exact .inl (.inl (by rw [upd_ne ne]; exact e))
  · have ne : b ≠ d := ne_of e hd (by intro z; cases z)
    exact .inl (.inr ⟨q, by rw [upd_ne ne]; exact e⟩)
  · exact .inr e
theorem sqT_ins {K : PySem.W.Frag} {H : Hp} {d b C dx : Addr} {fs : List (Str × V)} {o : HO} {xs : List V} (hd : H d = some (.ins C dx fs)) (e : SqT K H b xs) : SqT K (upd H d o) b xs := by
  rcases e with (e | ⟨q, e⟩) | e
  · have ne : b ≠ d := ne_of e hd (by intro z; cases z)
    exact .inl (.inl (by rw [upd_ne ne]; exact e))
  · have ne : b ≠ d := ne_of e hd (by intro z; cases z)
    exact .inl (.inr ⟨q, by rw [upd_ne ne]; exact e⟩)
  · exact .inr e
section
variable {P : Program} {w : World} {K : PySem.W.Frag} {mg : Str → Option Value} {base : Heap} {H : Hp} {f : Addr} {a : FA} {F : FS}
theorem FairAt.ne5 (z : FairAt K H f a F) : a.dl ≠ a.do_ ∧ a.dl ≠ a.ds ∧ a.dl ≠ a.dh ∧ a.dl ≠ a.dn ∧ a.do_ ≠ a.ds ∧ a.do_ ≠ a.dh ∧ a.do_ ≠ a.dn ∧ a.ds ≠ a.dh ∧ a.ds ≠ a.dn ∧ a.dh ≠ a.dn := by
  have := z.ap
  unfold FA.ds5 at this
  simp only [List.nodup_cons, List.mem_cons, List.not_mem_nil, or_false, not_or, List.nodup_nil, not_false_eq_true, and_true] at this
  obtain ⟨⟨h1, h2, h3, h4⟩, ⟨h5, h6, h7⟩, ⟨h8, h9⟩, h10⟩ := this
  exact ⟨h1, h2, h3, h4, h5, h6, h7, h8, h9, h10⟩
theorem FairAt.nf (z : FairAt K H f a F) : f ≠ a.dl ∧ f ≠ a.do_ ∧ f ≠ a.ds ∧ f ≠ a.dh ∧ f ≠ a.dn := ⟨ne_of z.ins z.l nofun, ne_of z.ins z.o nofun, ne_of z.ins z.s nofun, ne_of z.ins z.h nofun, ne_of z.ins z.n nofun⟩
/-- next is written -/
theorem FairAt.setN (z : FairAt K H f a F) {nx : Str → Nat} : FairAt K (upd H a.dn (.dK (dkv F.A fun x => iv (nx x)))) f a { F with next := nx } := by
  obtain ⟨n1, n2, n3, n4, n5, n6, n7, n8, n9, n10⟩ := z.ne5
  obtain ⟨f1, f2, f3, f4, f5⟩ := z.nf
  exact ⟨by rw [upd_ne f5]; exact z.ins, by rw [upd_ne n4]; exact z.l, by rw [upd_ne n7]; exact z.o, by rw [upd_ne n9]; exact z.s, by rw [upd_ne n10]; exact z.h, upd_same, fun x h => sqT_dK z.n (z.lt x h), fun x h => sqT_dK z.n (z.ot x h), z.ap⟩
theorem FairAt.setH (z : FairAt K H f a F) {hd : Str → Option Str} : FairAt K (upd H a.dh (.dK (dkv F.A fun x => os (hd x)))) f a { F with held := hd } := by
  obtain ⟨n1, n2, n3, n4, n5, n6, n7, n8, n9, n10⟩ := z.ne5
  obtain ⟨f1, f2, f3, f4, f5⟩ := z.nf
  exact ⟨by rw [upd_ne f4]; exact z.ins, by rw [upd_ne n3]; exact z.l, by rw [upd_ne n6]; exact z.o, by rw [upd_ne n8]; exact z.s, upd_same, by rw [upd_ne (Ne.symm n10)]; exact z.n, fun x h => sqT_dK z.h (z.lt x h), fun x h => sqT_dK z.h (z.ot x h), z.ap⟩
theorem FairAt.setC (z : FairAt K H f a F) {c : Nat} : FairAt K (upd H f (.ins (He.ga K "Fair") a.dx [("lists", .ref a.dl), ("orders", .ref a.do_), ("seats", .ref a.ds), ("held", .ref a.dh), ("next", .ref a.dn), ("asks", .int c)])) f a { F with asks := c } := by
  obtain ⟨f1, f2, f3, f4, f5⟩ := z.nf
  exact ⟨upd_same, by rw [upd_ne (Ne.symm f1)]; exact z.l, by rw [upd_ne (Ne.symm f2)]; exact z.o, by rw [upd_ne (Ne.symm f3)]; exact z.s, by rw [upd_ne (Ne.symm f4)]; exact z.h, by rw [upd_ne (Ne.symm f5)]; exact z.n, fun x h => sqT_ins z.ins (z.lt x h), fun x h => sqT_ins z.ins (z.ot x h), z.ap⟩
theorem s6_f : S6 f a f := .inl rfl
theorem s6_l : S6 f a a.dl := .inr (by simp [FA.ds5])
theorem s6_o : S6 f a a.do_ := .inr (by simp [FA.ds5])
theorem s6_s : S6 f a a.ds := .inr (by simp [FA.ds5])
theorem s6_h : S6 f a a.dh := .inr (by simp [FA.ds5])
theorem s6_n : S6 f a a.dn := .inr (by simp [FA.ds5])
theorem dget_r {d : Addr} {ks : List Str} {g : Str → V} {x : Str} (h : Rd H d (.dK (dkv ks g))) : DGet H d (.str x) (if x ∈ ks then some (g x) else none) := .inl ⟨_, Sum.inr x, h, rfl, by rw [valV_dkv]⟩
theorem dget_in {d : Addr} {ks : List Str} {g : Str → V} {x : Str} (h : Rd H d (.dK (dkv ks g))) (hx : x ∈ ks) : DGet H d (.str x) (some (g x)) := by
  have := dget_r (x := x) h
  rwa [if_pos hx] at this
theorem inV_str {x : Str} {l : List Str} : inV (.str x) (l.map V.str) = decide (x ∈ l) := by
  unfold inV
  rw [List.any_map]
  induction l with
  | nil => simp
  | cons b r ih =>
    rw [List.any_cons, ih]
    by_cases e : b = x
    · subst e; simp [eqV]
    · simp [eqV, e, Ne.symm e]
theorem flat_str {l : List Str} : (l.map V.str).all flatV = true := by simp [flatV]
def likesB (F : FS) (x r : Str) : Bool := decide (x ∈ F.A) && decide (r ∈ F.R) && decide (r ∈ F.lst x) && decide (x ∈ F.ord r)
theorem likesB_iff {x r : Str} : likesB F x r = true ↔ F.M.likes x r := by
  unfold likesB PM.Mkt.likes FS.M
  simp [Bool.and_eq_true, and_assoc]
def spLikes (K : PySem.W.Frag) : Sp := fun vs H Q _ => ∃ (f : Addr) (a : FA) (F : FS) (x r : Str), vs = [.ref f, .str x, .str r] ∧ FairR K H f a F ∧ Q (.bl (likesB F x r)) H
theorem ok_Fair_likes (t : TX K mg base) : Does P w K mg base CX0 2 ("Fair", some "likes") ["self", "asker", "room"] (spLikes K) := by
  have nd := (sc_Fair_likes).nd
  refine t.do_Fair_likes (fun vs H Q E h => by obtain ⟨_, _, _, _, _, rfl, _⟩ := h; rfl) fun A outer s H vs Q E hr h => ⟨_, PSs.nox ((pss_cons (ps_if (PW.pt (pw_or (pt_cmp (pc_dnotin (hu_of hr) (pv 1) (pe_fldK K rfl (pv 0) rfl))) (pw_or1 (pt_cmp (pc_dnotin (hu_of hr) (pv 2) (pe_fldK K rfl (pv 0) rfl)))))) (pss_one (ps_ret pe_bl)) pss_nil) (pss_one (ps_ret (pe_and (pe_cmpR (op_inK K rfl) (pv 2) (pe_dget (hu_of hr) (pe_fldK K rfl (pv 0) rfl) (pv 1) (fun _ _ => rfl)) (by rfl)) (pe_one (pe_cmpR (op_inK K rfl) (pv 1) (pe_dget (hu_of hr) (pe_fldK K rfl (pv 0) rfl) (pv 2) (fun _ _ => rfl)) (by rfl)))))))), ?_⟩
  obtain ⟨f, a, F, x, r, rfl, z, hQ⟩ := h
  unfold likesB at hQ
  have gl := dget_r (x := x) z.l
  have go := dget_r (x := r) z.o
  refine ⟨_, rfl, _, rfl, f, _, a.dx, _, _, rfl, z.ins, t.c_Fair, t.a_Fair_lists, rfl, a.dl, _, rfl, gl, _, rfl, ?_⟩
  by_cases hx : x ∈ F.A
  rotate_left
  · rw [if_neg hx]
    exact (by simpa [hx] using hQ : Q (.bl false) H)
  rw [if_pos hx] at gl ⊢
  refine ⟨_, rfl, _, rfl, f, _, a.dx, _, _, rfl, z.ins, t.c_Fair, t.a_Fair_orders, rfl, a.do_, _, rfl, go, _, rfl, ?_⟩
  by_cases hr' : r ∈ F.R
  rotate_left
  · rw [if_neg hr']
    exact (by simpa [hx, hr'] using hQ : Q (.bl false) H)
  rw [if_pos hr'] at go ⊢
  refine ⟨_, rfl, _, rfl, f, _, a.dx, _, _, rfl, z.ins, t.c_Fair, t.a_Fair_lists, rfl, _, rfl, a.dl, _, rfl, gl, a.la x, _, rfl, .inr (z.lt x hx), rfl, flat_str, _, rfl, ?_⟩
  simp only [Bool.false_eq_true, if_false, inV_str]
  by_cases hm : r ∈ F.lst x
  rotate_left
  · rw [decide_eq_false hm]
    simpa [hx, hr', hm] using hQ
  rw [decide_eq_true hm]
  refine ⟨_, rfl, _, rfl, f, _, a.dx, _, _, rfl, z.ins, t.c_Fair, t.a_Fair_orders, rfl, _, rfl, a.do_, _, rfl, go, a.oa r, _, rfl, .inr (z.ot r hr'), rfl, flat_str, ?_⟩
  simp only [Bool.false_eq_true, if_false, inV_str]
  simpa [hx, hr', hm] using hQ

/-- who is in a room, in the room's order -/
def heldO (F : FS) (x : Str) : Option Str := if x ∈ F.A then F.held x else none
def insF (F : FS) (r : Str) : List Str := (F.ord r).filter fun x => decide (heldO F x = some r)
theorem os_eq {o : Option Str} {r : Str} : decide (os o = V.str r) = decide (o = some r) := by cases o <;> simp [os]
def spFthose (K : PySem.W.Frag) : Sp := fun vs H Q _ => ∃ (f : Addr) (a : FA) (F : FS) (r : Str), vs = [.ref f, .str r] ∧ FairAt K H f a F ∧ F.Ok ∧ r ∈ F.R ∧ LamX.Tabs (TL K) H ∧ ∀ p H', Ex (TL K) H H' → H' p = some (.lst ((insF F r).map V.str)) → Q (.ref p) H'
theorem ok_Fair_those_in (t : TX K mg base) : Does P w K mg base CX0 2 ("Fair", some "those_in") ["self", "room"] (spFthose K) := by
  have nd := (sc_Fair_those_in).nd
  refine t.do_Fair_those_in (fun vs H Q E h => by obtain ⟨_, _, _, _, rfl, _⟩ := h; rfl) fun A outer s H vs Q E hr h => ⟨_, PSs.nox ((pss_one (ps_ret (pe_lc (X := ((X_Fair_those_in CX0 P w K mg base A outer s H E).nox)) (own := [("asker", 2)]) (g := (gName 2)) rfl nd (pi_tupK K rfl (pe_dget (hu_of hr) (pe_fldK K rfl (pv 0) rfl) (pv 1) (fun _ _ => rfl))) (blkOk_by (own := [("asker", 2)]) (N := ["self", "room", "asker"]) (sc := defScope PMH.s_Fair_those_in) (by decide +kernel)) (fun s1 H1 C1 l1 p1 => (pg_name (i := 2) nd rfl (Or.inl rfl))) (fun s1 H1 C1 l1 p1 => (pts_one (pt_cmpR op_eq (pe_dget1 (hu_of hr) (pe_fldK K rfl (pv 0) rfl) (pv 2) ⟨by rfl, by rfl, by rfl, by rfl⟩) (pv 1) (nomark _)))) (fun s1 H1 C1 l1 p1 => (pv 2)))))), ?_⟩
  obtain ⟨f, a, F, r, rfl, z, ok, hr0, hT, hQ⟩ := h
  have ho := z.ot r hr0
  refine ⟨_, rfl, f, _, a.dx, _, _, rfl, z.ins, t.c_Fair, t.a_Fair_orders, rfl, _, rfl, a.do_, _, rfl, dget_in (.of z.o) hr0, a.oa r, rfl, ⟨_, ho⟩, fun D hD => ?_⟩
  refine lcf walk_tup (ls := F.ord r) (by simp) (fun x => decide (heldO F x = some r)) V.str hT hD (fun H e => Ex.sqT e ho) (small (Nat.le_trans (ok.ord r hr0).2 (by decide))) ?_ ?_
  · intro i x v H1 H2 N M hi e hY hN hM
    obtain ⟨rfl, rfl⟩ := yat hi hY
    refine ⟨rfl, _, rfl, f, _, a.dx, _, _, rfl, Ex.k e z.ins, t.c_Fair, t.a_Fair_held, rfl, a.dh, rfl, .inl ⟨_, .of (Ex.k e z.h)⟩, _, rfl, _, dget_r (x := x) (.of (Ex.k e z.h)), ?_⟩
    have ev : (if x ∈ F.A then some (os (F.held x)) else none).getD V.non = os (heldO F x) := by
      unfold heldO
      by_cases h : x ∈ F.A
      · rw [if_pos h, if_pos h]; rfl
      · rw [if_neg h, if_neg h]; rfl
    rw [ev]
    refine ⟨_, rfl, by cases heldO F x <;> rfl, _, rfl, ?_⟩
    rw [os_eq]
    cases hk : decide (heldO F x = some r) with
    | true => exact ⟨_, rfl, hM hk _ (Ch.refl e.tb)⟩
    | false => exact hN hk _ (Ch.refl e.tb)
  · intro H1 e hD1
    exact hQ D _ e hD1
end
end PMT

set_option Elab.async false
set_option linter.all false
set_option maxRecDepth 100000
set_option maxHeartbeats 2000000
/-! V2: an ask of a fair. -/
namespace PMT
open PySem PySem.Spec PyProof.Rows L2
theorem small8 {n : Nat} (h : n ≤ 8) : n < sizeLine := by rw [sizeLine_eq]; omega
theorem idx_pw {α : Type} [DecidableEq α] {l : List α} (h : l.Nodup) : l.Pairwise fun a b => l.idxOf a < l.idxOf b := by
  rw [List.pairwise_iff_getElem]
  intro i j hi hj hij
  rw [PM.idx_get h hi, PM.idx_get h hj]
  exact hij
theorem filt_last {α : Type} [DecidableEq α] {l ws : List α} {w : α} {p : α → Bool} (h : l.Nodup) (e : l.filter p = ws ++ [w]) : ∀ b ∈ ws, l.idxOf b < l.idxOf w := by
  have h1 : (ws ++ [w]).Pairwise fun a b => l.idxOf a < l.idxOf b := by
    rw [← e]
    exact (idx_pw h).sublist List.filter_sublist
  intro b hb
  exact (List.pairwise_append.mp h1).2.2 b hb w (by simp)
theorem put_iv {A : List Str} {g : Str → Nat} {k : Str} {v : Nat} (h : k ∈ A) : putK (dkv A fun x => iv (g x)) (Sum.inr k) (iv v) = dkv A fun x => iv (PM.fset g k v x) := by
  rw [putK_dkv_old h]
  refine dkv_congr fun x _ => ?_
  by_cases e : x = k
  · subst e; rw [PM.fset_same, PM.fset_same]
  · rw [PM.fset_ne e, PM.fset_ne e]
theorem put_os {A : List Str} {g : Str → Option Str} {k : Str} {v : Option Str} (h : k ∈ A) : putK (dkv A fun x => os (g x)) (Sum.inr k) (os v) = dkv A fun x => os (PM.fset g k v x) := by
  rw [putK_dkv_old h]
  refine dkv_congr fun x _ => ?_
  by_cases e : x = k
  · subst e; rw [PM.fset_same, PM.fset_same]
  · rw [PM.fset_ne e, PM.fset_ne e]
theorem dput_iv {H : Hp} {d : Addr} {A : List Str} {g : Str → Nat} {k : Str} {v : Nat} (h : H d = some (.dK (dkv A fun x => iv (g x)))) (hk : k ∈ A) (hl : A.length ≤ 8) : DPut H d (.str k) (iv v) (upd H d (.dK (dkv A fun x => iv (PM.fset g k v x)))) := by
  rw [← put_iv (v := v) hk]
  exact DPut.k (k := Sum.inr k) h (by rw [dkv_len]; exact small8 hl)
theorem dput_os {H : Hp} {d : Addr} {A : List Str} {g : Str → Option Str} {k : Str} {v : Option Str} (h : H d = some (.dK (dkv A fun x => os (g x)))) (hk : k ∈ A) (hl : A.length ≤ 8) : DPut H d (.str k) (os v) (upd H d (.dK (dkv A fun x => os (PM.fset g k v x)))) := by
  rw [← put_os (v := v) hk]
  exact DPut.k (k := Sum.inr k) h (by rw [dkv_len]; exact small8 hl)
theorem mem_insF {F : FS} {held : Str → Option Str} {r b : Str} : b ∈ insF { F with held := held } r ↔ b ∈ F.ord r ∧ b ∈ F.A ∧ held b = some r := by
  unfold insF heldO
  simp only [List.mem_filter, decide_eq_true_eq]
  constructor
  · rintro ⟨h1, h2⟩
    by_cases h : b ∈ F.A
    · rw [if_pos h] at h2; exact ⟨h1, h, h2⟩
    · rw [if_neg h] at h2; cases h2
  · rintro ⟨h1, h2, h3⟩
    exact ⟨h1, by rw [if_pos h2]; exact h3⟩
section
variable {P : Program} {w : World} {K : PySem.W.Frag} {mg : Str → Option Value} {base : Heap}
def spFask (K : PySem.W.Frag) : Sp := fun vs H Q _ => ∃ (f : Addr) (a : FA) (F : FS) (x r : Str), vs = [.ref f, .str x] ∧ FairAt K H f a F ∧ F.Ok ∧ x ∈ F.A ∧ F.held x = none ∧ (F.lst x)[F.next x]? = some r ∧ PM.DA F.M F.held F.next ∧ LamX.Tabs (TL K) H ∧
  ∀ out held' H', Ch (TL K) (S6 f a) H H' → FairAt K H' f a { F with held := held', next := PM.fset F.next x (F.next x + 1), asks := F.asks + 1 } → PM.AskOut F.M F.held x r out held' → Q (os out) H'
theorem ok_Fair_ask (t : TX K mg base) : Does P w K mg base CX0 3 ("Fair", some "ask") ["self", "asker"] (spFask K) := by
  obtain ⟨fd_Fair_likes, G_Fair_likes, b_Fair_likes, p_Fair_likes⟩ := ok_Fair_likes (P := P) (w := w) t
  obtain ⟨fd_Fair_those_in, G_Fair_those_in, b_Fair_those_in, p_Fair_those_in⟩ := ok_Fair_those_in (P := P) (w := w) t
  have nd := (sc_Fair_ask).nd
  refine t.do_Fair_ask (fun vs H Q E h => by obtain ⟨_, _, _, _, _, rfl, _⟩ := h; rfl) fun A outer s H vs Q E hr h => ⟨_, PSs.nox ((pss_cons (ps_set (i := 2) nd rfl (Or.inl rfl) (pe_ix (ix_tupK K rfl) (pe_dget (hu_of hr) (pe_fldK K rfl (pv 0) rfl) (pv 1) (fun _ _ => rfl)) (pe_dget (hu_of hr) (pe_fldK K rfl (pv 0) rfl) (pv 1) (fun _ _ => rfl)) (fun _ _ => rfl))) (pss_cons (ps_daug (hu_of hr) (pe_fldK K rfl (pv 0) rfl) (pv 1) pe_int in_add (fun _ _ _ => rfl)) (pss_cons (ps_fldaug (pv 0) pe_int in_add) (pss_cons (ps_if (pt_not (pt_val (pe_meth (pv 0) t.c_Fair t.m_Fair_likes G_Fair_likes (hr.mono (by decide)) b_Fair_likes .nil pass0 (pa_cons (pv 1) (pa_cons (pv 2) pa_nil))))) (pss_one (ps_ret (pv 1))) pss_nil) (pss_cons (ps_dput (hu_of hr) (pe_fldK K rfl (pv 0) rfl) (pv 1) (pv 2) rfl) (pss_cons (ps_set (i := 3) nd rfl (Or.inl rfl) (pe_meth (pv 0) t.c_Fair t.m_Fair_those_in G_Fair_those_in (hr.mono (by decide)) b_Fair_those_in .nil pass0 (pa_cons (pv 2) pa_nil))) (pss_cons (ps_if (pt_cmpR op_le (pe_callB (call_lenK K rfl) (by rfl) t.n_len PySem.boot_len (pa_cons (pv 3) pa_nil)) (pe_dget (hu_of hr) (pe_fldK K rfl (pv 0) rfl) (pv 2) (fun _ _ => rfl)) (nomark _)) (pss_one (ps_ret pe_non)) pss_nil) (pss_cons (ps_dput (hu_of hr) (pe_fldK K rfl (pv 0) rfl) (pe_ix (ix_listK K rfl) (pv 3) (pe_un un_neg pe_int) (fun _ _ => rfl)) pe_non rfl) (pss_one (ps_ret (pe_ix (ix_listK K rfl) (pv 3) (pe_un un_neg pe_int) (fun _ _ => rfl))))))))))))), ?_⟩
  obtain ⟨f, a, F, x, r, rfl, z, ok, hx, hnone, hr0, D, hT, hQ⟩ := h
  -- room
  refine ⟨_, rfl, f, _, a.dx, _, _, rfl, z.ins, t.c_Fair, t.a_Fair_lists, rfl, _, rfl, a.dl, _, rfl, dget_in (.of z.l) hx, ?_⟩
  refine ⟨_, rfl, f, _, a.dx, _, _, rfl, z.ins, t.c_Fair, t.a_Fair_next, rfl, _, rfl, a.dn, _, rfl, dget_in (.of z.n) hx, a.la x, _, _, _, rfl, rfl, z.lt x hx, atI_nat (v := .str r) (by rw [List.getElem?_map, hr0]; rfl), ?_⟩
  -- next
  refine ⟨_, rfl, f, _, a.dx, _, _, rfl, z.ins, t.c_Fair, t.a_Fair_next, rfl, _, rfl, a.dn, _, rfl, dget_in (.of z.n) hx, _, _, rfl, rfl, _, dput_iv (v := F.next x + 1) z.n hx ok.a, ?_⟩
  have z1 := z.setN (nx := PM.fset F.next x (F.next x + 1))
  have c1 : Ch (TL K) (S6 f a) H (upd H a.dn (.dK (dkv F.A fun y => iv (PM.fset F.next x (F.next x + 1) y)))) := Ch.put (Ch.refl hT) z.n nt_dK (.inr s6_n)
  -- asks
  refine ⟨_, rfl, f, _, a.dx, _, _, rfl, z1.ins, t.c_Fair, t.a_Fair_asks, rfl, _, _, rfl, rfl, _, _, z1.ins, by show 6 < 1000; decide, ?_⟩
  have z2 := z1.setC (c := F.asks + 1)
  have c2 := c1.putN (o := .ins (He.ga K "Fair") a.dx [("lists", .ref a.dl), ("orders", .ref a.do_), ("seats", .ref a.ds), ("held", .ref a.dh), ("next", .ref a.dn), ("asks", .int ((F.asks + 1 : Nat) : Int))]) z1.ins nt_ins (.inr s6_f)
  -- likes
  refine ⟨_, rfl, f, _, _, rfl, z2.ins, rfl, _, rfl, _, rfl, f, a, _, x, r, rfl, z2.r, _, rfl, ?_⟩
  cases hl : likesB F x r with
  | false =>
    have e3 : likesB { { F with next := PM.fset F.next x (F.next x + 1) } with asks := F.asks + 1 } x r = false := hl
    rw [e3]
    exact ⟨_, rfl, hQ (some x) F.held _ c2 z2 (.self fun l => by rw [← likesB_iff, hl] at l; cases l)⟩
  | true =>
    have e3 : likesB { { F with next := PM.fset F.next x (F.next x + 1) } with asks := F.asks + 1 } x r = true := hl
    rw [e3]
    have lk : F.M.likes x r := likesB_iff.mp hl
    have hrR : r ∈ F.R := lk.2.1
    -- held
    refine ⟨_, rfl, _, rfl, f, _, a.dx, _, _, rfl, z2.ins, t.c_Fair, t.a_Fair_held, rfl, _, rfl, a.dh, _, rfl, dput_os (v := some r) z2.h hx ok.a, ?_⟩
    have z3 := z2.setH (hd := PM.fset F.held x (some r))
    have c3 := c2.putN (o := .dK (dkv F.A fun y => os (PM.fset F.held x (some r) y))) z2.h nt_dK (.inr s6_h)
    have ok3 : FS.Ok { F with held := PM.fset F.held x (some r), next := PM.fset F.next x (F.next x + 1), asks := F.asks + 1 } := ⟨ok.A, ok.R, ok.lst, ok.ord, ok.a, ok.r⟩
    refine ⟨_, rfl, f, _, _, rfl, z3.ins, rfl, _, rfl, f, a, _, r, rfl, z3, ok3, hrR, c3.tb, fun p H4 e5 hp => ?_⟩
    have z4 := z3.ex e5
    have c4 := c3.trans (Ex.weak e5)
    -- who is inside
    generalize hin : insF { F with held := PM.fset F.held x (some r), next := PM.fset F.next x (F.next x + 1), asks := F.asks + 1 } r = ins1 at hp
    have hmem : ∀ b, b ∈ ins1 ↔ b ∈ PM.ins F.M (PM.fset F.held x (some r)) r := fun b => by
      rw [← hin, PM.mem_ins]
      have := mem_insF (F := { F with next := PM.fset F.next x (F.next x + 1), asks := F.asks + 1 }) (held := PM.fset F.held x (some r)) (r := r) (b := b)
      rw [this]
      constructor
      · rintro ⟨_, h2, h3⟩; exact ⟨h2, h3⟩
      · rintro ⟨h2, h3⟩
        refine ⟨?_, h2, h3⟩
        by_cases hb : b = x
        · subst hb; exact lk.2.2.2
        · rw [PM.fset_ne hb] at h3
          exact (D.hd b h2 r h3).1.2.2.2
    have hnd : ins1.Nodup := by rw [← hin]; exact ((ok.ord r hrR).1).sublist List.filter_sublist
    have hlen : ins1.length = (PM.ins F.M F.held r).length + 1 := by
      rw [← PM.ins_take_len (F.wf ok) hx hnone (r := r)]
      exact PM.nodup_same_len hnd (PM.ins_nodup (F.wf ok)) hmem
    have cap := D.cap r
    refine ⟨_, rfl, p, _, rfl, .inl (SqL.of hp), _, rfl, f, _, a.dx, _, _, rfl, z4.ins, t.c_Fair, t.a_Fair_seats, rfl, _, rfl, a.ds, _, rfl, dget_in (.of z4.s) hrR, _, _, rfl, rfl, _, rfl, ?_⟩
    by_cases hle : ins1.length ≤ F.q r
    · have e6 : decide (((ins1.map V.str).length : Int) ≤ (F.q r : Int)) = true := decide_eq_true (by rw [List.length_map]; omega)
      rw [e6]
      exact hQ none _ _ c4 z4 (.take lk (by show _ < F.q r; omega))
    · have e6 : decide (((ins1.map V.str).length : Int) ≤ (F.q r : Int)) = false := decide_eq_false (by rw [List.length_map]; omega)
      rw [e6]
      have hne : ins1 ≠ [] := fun h => by rw [h] at hlen; simp at hlen
      obtain ⟨ws, v, hv⟩ : ∃ ws v, ins1 = ws ++ [v] := ⟨_, _, (List.dropLast_concat_getLast hne).symm⟩
      have hvin : v ∈ PM.ins F.M (PM.fset F.held x (some r)) r := (hmem v).mp (by rw [hv]; simp)
      have hvA : v ∈ F.A := (PM.mem_ins.mp hvin).1
      have hpv : H4 p = some (.lst (ws.map V.str ++ [.str v])) := by rw [hp, hv, List.map_append]; rfl
      refine ⟨_, rfl, f, _, a.dx, _, _, rfl, z4.ins, t.c_Fair, t.a_Fair_held, rfl, _, rfl, _, rfl, p, _, _, .str v, rfl, rfl, SqL.of hpv, atI_last _ _, a.dh, _, rfl, dput_os (v := none) z4.h hvA ok.a, ?_⟩
      have z5 := z4.setH (hd := PM.fset (PM.fset F.held x (some r)) v none)
      have c5 := c4.putN (o := .dK (dkv F.A fun y => os (PM.fset (PM.fset F.held x (some r)) v none y))) z4.h nt_dK (.inr s6_h)
      have hp5 : (upd H4 a.dh (.dK (dkv F.A fun y => os (PM.fset (PM.fset F.held x (some r)) v none y)))) p = some (.lst (ws.map V.str ++ [.str v])) := by
        have ne : p ≠ a.dh := ne_of hpv z4.h (by intro z; cases z)
        rw [upd_ne ne]; exact hpv
      refine ⟨_, rfl, _, rfl, p, _, _, V.str v, rfl, rfl, SqL.of hp5, atI_last _ _, ?_⟩
      refine hQ (some v) _ _ c5 z5 ?_
      have before : ∀ b ∈ ins1, b ≠ v → (F.ord r).idxOf b < (F.ord r).idxOf v := fun b hb hbv => by
        have h1 : (F.ord r).filter (fun y => decide (heldO { F with held := PM.fset F.held x (some r), next := PM.fset F.next x (F.next x + 1), asks := F.asks + 1 } y = some r)) = ws ++ [v] := by rw [← hv, ← hin]; rfl
        rw [hv] at hb
        rcases List.mem_append.mp hb with hb | hb
        · exact filt_last (ok.ord r hrR).1 h1 b hb
        · exact absurd (List.mem_singleton.mp hb) hbv
      have full : F.M.q r ≤ (PM.ins F.M F.held r).length := by show F.q r ≤ _; omega
      by_cases hvx : v = x
      · subst hvx
        have eh : PM.fset (PM.fset F.held v (some r)) v none = F.held := by
          funext y
          by_cases hy : y = v
          · subst hy; rw [PM.fset_same, hnone]
          · rw [PM.fset_ne hy, PM.fset_ne hy]
        rw [eh]
        refine .self fun _ => ⟨full, fun b hb => ?_⟩
        have hb2 := PM.mem_ins.mp hb
        have hbv : b ≠ v := fun z => by rw [z, hnone] at hb2; cases hb2.2
        exact before b ((hmem b).mpr (PM.mem_ins.mpr ⟨hb2.1, by rw [PM.fset_ne hbv]; exact hb2.2⟩)) hbv
      · have hvi : v ∈ PM.ins F.M F.held r := by
          have h2 := PM.mem_ins.mp hvin
          rw [PM.fset_ne hvx] at h2
          exact PM.mem_ins.mpr h2
        refine .swap v lk hvx hvi full (before x ((hmem x).mpr (PM.mem_ins.mpr ⟨hx, PM.fset_same⟩)) (Ne.symm hvx)) fun b hb hbv => ?_
        have hb2 := PM.mem_ins.mp hb
        have hbx : b ≠ x := fun z => by rw [z, hnone] at hb2; cases hb2.2
        exact before b ((hmem b).mpr (PM.mem_ins.mpr ⟨hb2.1, by rw [PM.fset_ne hbx]; exact hb2.2⟩)) hbv
end
end PMT

set_option Elab.async false
set_option linter.all false
set_option maxRecDepth 100000
set_option maxHeartbeats 2000000
/-! V3: a fair goes on. -/
namespace PMT
open PySem PySem.Spec PyProof.Rows L2
def rem (F : FS) (next : Str → Nat) : Nat := (F.A.map fun x => (F.lst x).length - next x).sum
theorem rem_lt {F : FS} {next : Str → Nat} {x : Str} (hx : x ∈ F.A) (h : next x < (F.lst x).length) : rem F (PM.fset next x (next x + 1)) < rem F next := by
  unfold rem
  refine PM.sum_lt (fun y _ => ?_) ⟨x, hx, ?_⟩
  · by_cases e : y = x
    · subst e; rw [PM.fset_same]; omega
    · rw [PM.fset_ne e]; exact Nat.le_refl _
  · rw [PM.fset_same]; omega
theorem dp_strs {K : PySem.W.Frag} {H : Hp} (n : Str) : Dp K H (.str n) (deStr.e n) := .str _
section
variable {P : Program} {w : World} {K : PySem.W.Frag} {mg : Str → Option Value} {base : Heap}
def waitP (F : FS) (held : Str → Option Str) (next : Str → Nat) (x : Str) : Prop := x ∈ F.A ∧ held x = none ∧ next x < (F.lst x).length
def spWaits (K : PySem.W.Frag) : Sp := fun vs H Q _ => ∃ (f : Addr) (a : FA) (F : FS), vs = [.ref f] ∧ FairAt K H f a F ∧ F.Ok ∧ LamX.Tabs (TL K) H ∧ ∀ (p : Addr) (ws : List Str) (H' : Hp), Ex (TL K) H H' → H' p = some (.lst (ws.map V.str)) → (∀ x, x ∈ ws ↔ waitP F F.held F.next x) → Q (.ref p) H'
theorem ok_Fair_who_waits (t : TX K mg base) : Does P w K mg base CX0 2 ("Fair", some "who_waits") ["self"] (spWaits K) := by
  have nd := (sc_Fair_who_waits).nd
  refine t.do_Fair_who_waits (fun vs H Q E h => by obtain ⟨_, _, _, rfl, _⟩ := h; rfl) fun A outer s H vs Q E hr h => ⟨_, PSs.nox ((pss_one (ps_ret (pe_lc (X := ((X_Fair_who_waits CX0 P w K mg base A outer s H E).nox)) (own := [("one", 1)]) (g := (gName 1)) rfl nd (pi_listK K rfl (pe_callB (call_sortedD rfl) (by rfl) t.n_sorted (by decide +kernel) (pa_cons (pe_fldK K rfl (pv 0) rfl) pa_nil))) (blkOk_by (own := [("one", 1)]) (N := ["self", "one"]) (sc := defScope PMH.s_Fair_who_waits) (by decide +kernel)) (fun s1 H1 C1 l1 p1 => (pg_name (i := 1) nd rfl (Or.inl rfl))) (fun s1 H1 C1 l1 p1 => (pts_one (PW.pt (pw_and (pt_cmpR op_isN (pe_dget (hu_of hr) (pe_fldK K rfl (pv 0) rfl) (pv 1) (fun _ _ => rfl)) pe_non (nomark _)) (pw_and1 (pt_cmpR op_lt (pe_dget (hu_of hr) (pe_fldK K rfl (pv 0) rfl) (pv 1) (fun _ _ => rfl)) (pe_callB (call_lenK K rfl) (by rfl) t.n_len PySem.boot_len (pa_cons (pe_dget (hu_of hr) (pe_fldK K rfl (pv 0) rfl) (pv 1) (fun _ _ => rfl)) pa_nil)) (nomark _))))))) (fun s1 H1 C1 l1 p1 => (pv 1)))))), ?_⟩
  obtain ⟨f, a, F, rfl, z, ok, hT, hQ⟩ := h
  refine ⟨_, rfl, f, _, a.dx, _, _, rfl, z.ins, t.c_Fair, t.a_Fair_lists, rfl, a.dl, _, F.A, rfl, .of z.l, dkv_keys, by have := ok.a; omega, fun ys p hperm _ hp => ?_⟩
  have e1 : Ex (TL K) H (upd H p (.lst (ys.map V.str))) := (Ch.refl hT).new hp
  have z1 := z.ex e1
  have lys := hperm.length_eq
  refine ⟨p, rfl, ⟨_, SqL.of upd_same⟩, fun D hD => ?_⟩
  refine lcf walk_list (ls := ys) (by simp) (fun x => decide (F.held x = none) && decide (F.next x < (F.lst x).length)) V.str e1.tb hD (fun H e => Ex.sqL e (SqL.of upd_same)) (by rw [lys]; exact small8 ok.a) ?_ ?_
  · intro i x v H1 H2 N M hi e hY hN hM
    obtain ⟨rfl, rfl⟩ := yat hi hY
    have hx : x ∈ F.A := hperm.mem_iff.mp (List.mem_of_getElem? hi)
    have z2 := z1.ex e
    refine ⟨rfl, _, rfl, f, _, a.dx, _, _, rfl, z2.ins, t.c_Fair, t.a_Fair_held, rfl, _, rfl, a.dh, _, rfl, dget_in (.of z2.h) hx, rfl, _, rfl, ?_⟩
    have e0 : decide (os (F.held x) = V.non) = decide (F.held x = none) := by cases F.held x <;> simp [os]
    rw [e0]
    cases hh : decide (F.held x = none) with
    | false => exact hN (by rw [hh]; rfl) _ (Ch.refl e.tb)
    | true =>
      refine ⟨_, rfl, f, _, a.dx, _, _, rfl, z2.ins, t.c_Fair, t.a_Fair_next, rfl, _, rfl, a.dn, _, rfl, dget_in (.of z2.n) hx, ?_⟩
      refine ⟨_, rfl, f, _, a.dx, _, _, rfl, z2.ins, t.c_Fair, t.a_Fair_lists, rfl, _, rfl, a.dl, _, rfl, dget_in (.of z2.l) hx, a.la x, _, rfl, .inr (z2.lt x hx), _, _, rfl, rfl, _, rfl, ?_⟩
      rw [List.length_map]
      have e5 : (decide ((F.next x : Int) < ((F.lst x).length : Nat))) = decide (F.next x < (F.lst x).length) := by simp
      rw [e5]
      cases hn : decide (F.next x < (F.lst x).length) with
      | true => exact ⟨_, rfl, hM (by rw [hh, hn]; rfl) _ (Ch.refl e.tb)⟩
      | false => exact hN (by rw [hh, hn]; rfl) _ (Ch.refl e.tb)
  · intro H1 e hD1
    refine hQ D _ H1 (e1.trans e) hD1 fun x => ?_
    rw [List.mem_filter, hperm.mem_iff]
    unfold waitP
    simp
def spFgo (K : PySem.W.Frag) : Sp := fun vs H Q _ => ∃ (f : Addr) (a : FA) (F : FS), vs = [.ref f] ∧ FairAt K H f a F ∧ F.Ok ∧ (∀ x ∈ F.A, PyData.strOk x = true) ∧ PM.DA F.M F.held F.next ∧ LamX.Tabs (TL K) H ∧
  ∀ (held' : Str → Option Str) (next' : Str → Nat) (asks' : Nat) (H' : Hp), Ch (TL K) (S6 f a) H H' → FairAt K H' f a { F with held := held', next := next', asks := asks' } → PM.DA F.M held' next' → PM.Settled F.M held' next' → Q .non H'
theorem ok_Fair_go_on (t : TX K mg base) : Does P w K mg base CX0 4 ("Fair", some "go_on") ["self"] (spFgo K) := by
  obtain ⟨fd_Fair_who_waits, G_Fair_who_waits, b_Fair_who_waits, p_Fair_who_waits⟩ := ok_Fair_who_waits (P := P) (w := w) t
  obtain ⟨fd_Fair_ask, G_Fair_ask, b_Fair_ask, p_Fair_ask⟩ := ok_Fair_ask (P := P) (w := w) t
  have nd := (sc_Fair_go_on).nd
  refine t.do_Fair_go_on (fun vs H Q E h => by obtain ⟨_, _, _, rfl, _⟩ := h; rfl) fun A outer s H vs Q E hr h => ⟨_, PSs.nox ((pss_cons (ps_set (i := 1) nd rfl (Or.inl rfl) (pe_meth0 (pv 0) t.c_Fair t.m_Fair_who_waits G_Fair_who_waits (hr.mono (by decide)) b_Fair_who_waits .nil pass0)) (pss_one (ps_while PassesOwn.never (pt_cmpR (op_neDK K rfl hr.units) (pv 1) (pe_lst pa_nil) (nomark _)) (pss_cons (ps_set (i := 2) nd rfl (Or.inl rfl) (pe_ix (ix_listK K rfl) (pv 1) pe_int (fun _ _ => rfl))) (pss_cons (ps_while PassesOwn.never (PW.pt (pw_and (pt_cmpR op_notN (pv 2) pe_non (nomark _)) (pw_and1 (pt_cmpR op_lt (pe_dget (hu_of hr) (pe_fldK K rfl (pv 0) rfl) (pv 2) (fun _ _ => rfl)) (pe_callB (call_lenK K rfl) (by rfl) t.n_len PySem.boot_len (pa_cons (pe_dget (hu_of hr) (pe_fldK K rfl (pv 0) rfl) (pv 2) (fun _ _ => rfl)) pa_nil)) (nomark _))))) (pss_one (ps_set (i := 2) nd rfl (Or.inl rfl) (pe_meth (pv 0) t.c_Fair t.m_Fair_ask G_Fair_ask (hr.mono (by decide)) b_Fair_ask .nil pass0 (pa_cons (pv 2) pa_nil))))) (pss_one (ps_set (i := 1) nd rfl (Or.inl rfl) (pe_meth0 (pv 0) t.c_Fair t.m_Fair_who_waits G_Fair_who_waits (hr.mono (by decide)) b_Fair_who_waits .nil pass0))))))))), ?_⟩
  obtain ⟨f, a, F, rfl, z, ok, sok, D, hT, hQ⟩ := h
  have okF : ∀ held' next' asks', FS.Ok { F with held := held', next := next', asks := asks' } := fun _ _ _ => ⟨ok.A, ok.R, ok.lst, ok.ord, ok.a, ok.r⟩
  refine ⟨_, rfl, f, _, _, rfl, z.ins, rfl, f, a, F, rfl, z, ok, hT, fun wl ws H1 e1 hw1 hws => ?_⟩
  refine ⟨fun mm σ H' => ∃ (held' : Str → Option Str) (next' : Str → Nat) (asks' : Nat) (wl : Addr) (ws : List Str) (zz : Option V), σ = [some (.ref f), some (.ref wl), zz] ∧ Ch (TL K) (S6 f a) H H' ∧ FairAt K H' f a { F with held := held', next := next', asks := asks' } ∧ PM.DA F.M held' next' ∧ H' wl = some (.lst (ws.map V.str)) ∧ (∀ x, x ∈ ws ↔ waitP F held' next' x) ∧ mm = rem F next',
    ⟨_, F.held, F.next, F.asks, wl, ws, _, rfl, Ex.weak e1, z.ex e1, D, hw1, hws, rfl⟩, ?_⟩
  rintro mm σ H2 ⟨held0, next0, asks0, wl, ws, zz, rfl, c2, z2, D2, hw2, hws2, rfl⟩
  refine ⟨_, rfl, by show 0 ≤ sizeLine; exact Nat.zero_le _, fun q hq => ?_⟩
  have e3 : Ex (TL K) H2 (upd H2 q (.lst [])) := (Ch.refl c2.tb).new hq
  refine rd_ne (d := deList deStr) (a := ws) (b := []) (by decide) (dp_listF (SqL.of (Ex.k e3 hw2)) dp_strs) (dp_listF (l := []) (f := V.str) (SqL.of upd_same) dp_strs) (fun x hx => sok x ((hws2 x).mp hx).1) (fun _ h => by cases h) ⟨_, rfl, ?_⟩
  have z3 := z2.ex e3
  have c3 := c2.trans (Ex.weak e3)
  have hw3 := Ex.k e3 hw2
  cases ws with
  | nil =>
    have e9 : (!decide (([] : List Str) = [])) = false := by simp
    rw [e9]
    refine hQ held0 next0 asks0 _ c3 z3 D2 fun x hx hn => ?_
    have h1 : ¬ waitP F held0 next0 x := fun h => by
      have := (hws2 x).mpr h
      cases this
    have h2 := D2.nx x hx
    have h3 : ¬ next0 x < (F.lst x).length := fun h => h1 ⟨hx, hn, h⟩
    exact Nat.le_antisymm h2 (Nat.le_of_not_lt h3)
  | cons y0 rest =>
    have e9 : (!decide ((y0 :: rest : List Str) = [])) = true := by simp
    rw [e9]
    have hy0 : waitP F held0 next0 y0 := (hws2 y0).mp (by simp)
    refine ⟨fun σ' H' => ∃ mm', mm' < rem F next0 ∧ _, fun σ' H' h => h, ?_⟩
    refine ⟨_, rfl, _, _, _, _, rfl, rfl, SqL.of hw3, atI_nat (j := 0) rfl, ?_⟩
    refine ⟨fun mm σ H' => ∃ (out : Option Str) (held' : Str → Option Str) (next' : Str → Nat) (asks' : Nat), σ = [some (.ref f), some (.ref wl), some (os out)] ∧ Ch (TL K) (S6 f a) H H' ∧ FairAt K H' f a { F with held := held', next := next', asks := asks' } ∧ PM.DA F.M held' next' ∧ (∀ y, out = some y → y ∈ F.A ∧ held' y = none) ∧
      (rem F next' < rem F next0 ∨ ∃ y, out = some y ∧ next' y < (F.lst y).length ∧ rem F next' = rem F next0) ∧ mm = rem F next',
      ⟨_, some y0, held0, next0, asks0, rfl, c3, z3, D2, fun y h => by cases h; exact ⟨hy0.1, hy0.2.1⟩, .inr ⟨y0, rfl, hy0.2.2, rfl⟩, rfl⟩, ?_⟩
    rintro mm σ H4 ⟨out, held1, next1, asks1, rfl, c4, z4, D4, ho, hrem, rfl⟩
    refine ⟨_, rfl, rfl, _, rfl, ?_⟩
    have eo : (!decide (os out = V.non)) = !decide (out = none) := by cases out <;> simp [os]
    rw [eo]
    cases out with
    | none =>
      have hr1 : rem F next1 < rem F next0 := by
        rcases hrem with h | ⟨y, h, _⟩
        · exact h
        · cases h
      refine ⟨_, rfl, f, _, _, rfl, z4.ins, rfl, f, a, _, rfl, z4, okF _ _ _, c4.tb, fun p ws' H5 e5 hp hws' => ?_⟩
      exact ⟨_, hr1, held1, next1, asks1, p, ws', _, rfl, c4.trans (Ex.weak e5), z4.ex e5, D4, hp, hws', rfl⟩
    | some y =>
      obtain ⟨hyA, hyn⟩ := ho y rfl
      refine ⟨_, rfl, f, _, a.dx, _, _, rfl, z4.ins, t.c_Fair, t.a_Fair_next, rfl, _, rfl, a.dn, _, rfl, dget_in (.of z4.n) hyA, ?_⟩
      refine ⟨_, rfl, f, _, a.dx, _, _, rfl, z4.ins, t.c_Fair, t.a_Fair_lists, rfl, _, rfl, a.dl, _, rfl, dget_in (.of z4.l) hyA, a.la y, _, rfl, .inr (z4.lt y hyA), _, _, rfl, rfl, _, rfl, ?_⟩
      rw [List.length_map]
      have e5 : (decide ((next1 y : Int) < ((F.lst y).length : Nat))) = decide (next1 y < (F.lst y).length) := by simp
      show if decide ((next1 y : Int) < ((F.lst y).length : Nat)) = true then _ else _
      rw [e5]
      by_cases hlt : next1 y < (F.lst y).length
      · rw [if_pos (decide_eq_true hlt)]
        obtain ⟨r, hr0⟩ : ∃ r, (F.lst y)[next1 y]? = some r := ⟨_, List.getElem?_eq_getElem hlt⟩
        have hdec := rem_lt (next := next1) hyA hlt
        refine ⟨fun σ' H' => ∃ mm', mm' < rem F next1 ∧ _, fun σ' H' h => h, ?_⟩
        refine ⟨_, rfl, f, _, _, rfl, z4.ins, rfl, _, rfl, f, a, _, y, r, rfl, z4, okF _ _ _, hyA, hyn, hr0, D4, c4.tb, fun out' held2 H5 c5 z5 A5 => ?_⟩
        have D5 := PM.ask_da (F.wf ok) D4 hyA hyn hr0 A5
        refine ⟨_, hdec, out', held2, _, _, rfl, c4.trans c5, z5, D5, fun y' h => ?_, .inl ?_, rfl⟩
        · subst h
          cases A5 with
          | self _ => exact ⟨hyA, hyn⟩
          | swap v lk hv hvi _ _ _ => exact ⟨(PM.mem_ins.mp hvi).1, PM.fset_same⟩
        · show rem F (PM.fset next1 y (next1 y + 1)) < rem F next0
          rcases hrem with h | ⟨_, _, _, h⟩
          · omega
          · omega
      · rw [if_neg (by rw [decide_eq_true_eq]; exact hlt)]
        have hr1 : rem F next1 < rem F next0 := by
          rcases hrem with h | ⟨y', h, h2, _⟩
          · exact h
          · cases h; exact absurd h2 hlt
        refine ⟨_, rfl, f, _, _, rfl, z4.ins, rfl, f, a, _, rfl, z4, okF _ _ _, c4.tb, fun p ws' H5 e5 hp hws' => ?_⟩
        exact ⟨_, hr1, held1, next1, asks1, p, ws', _, rfl, c4.trans (Ex.weak e5), z4.ex e5, D4, hp, hws', rfl⟩

def rsH (held : Str → Option Str) (ws : List Str) : Str → Option Str := fun x => if x ∈ ws then none else held x
def rsN (next : Str → Nat) (ws : List Str) : Str → Nat := fun x => if x ∈ ws then 0 else next x
theorem rsH_snoc {held : Str → Option Str} {ws : List Str} {y : Str} : PM.fset (rsH held ws) y none = rsH held (ws ++ [y]) := by
  funext x
  unfold rsH
  by_cases e : x = y
  · subst e; rw [PM.fset_same]; simp
  · rw [PM.fset_ne e]; simp [e]
theorem rsN_snoc {next : Str → Nat} {ws : List Str} {y : Str} : PM.fset (rsN next ws) y 0 = rsN next (ws ++ [y]) := by
  funext x
  unfold rsN
  by_cases e : x = y
  · subst e; rw [PM.fset_same]; simp
  · rw [PM.fset_ne e]; simp [e]
def spFanew (K : PySem.W.Frag) : Sp := fun vs H Q _ => ∃ (f : Addr) (a : FA) (F : FS) (p : Addr) (ws : List Str), vs = [.ref f, .ref p] ∧ FairAt K H f a F ∧ F.Ok ∧ (∀ x ∈ F.A, PyData.strOk x = true) ∧ H p = some (.lst (ws.map V.str)) ∧ (∀ x ∈ ws, x ∈ F.A) ∧ PM.DA F.M (rsH F.held ws) (rsN F.next ws) ∧ LamX.Tabs (TL K) H ∧
  ∀ (held' : Str → Option Str) (next' : Str → Nat) (asks' : Nat) (H' : Hp), Ch (TL K) (S6 f a) H H' → FairAt K H' f a { F with held := held', next := next', asks := asks' } → PM.DA F.M held' next' → PM.Settled F.M held' next' → Q .non H'
theorem ok_Fair_ask_anew (t : TX K mg base) : Does P w K mg base CX0 5 ("Fair", some "ask_anew") ["self", "askers"] (spFanew K) := by
  obtain ⟨fd_Fair_go_on, G_Fair_go_on, b_Fair_go_on, p_Fair_go_on⟩ := ok_Fair_go_on (P := P) (w := w) t
  have nd := (sc_Fair_ask_anew).nd
  refine t.do_Fair_ask_anew (fun vs H Q E h => by obtain ⟨_, _, _, _, _, rfl, _⟩ := h; rfl) fun A outer s H vs Q E hr h => ⟨_, PSs.nox ((pss_cons (ps_for PassesOwn.never rfl (pi_listK K rfl (pv 1)) (pg_name (i := 2) nd rfl (Or.inl rfl)) (pss_cons (ps_dput (hu_of hr) (pe_fldK K rfl (pv 0) rfl) (pv 2) pe_non rfl) (pss_one (ps_dput (hu_of hr) (pe_fldK K rfl (pv 0) rfl) (pv 2) pe_int rfl)))) (pss_one (ps_expr (pe_meth0 (pv 0) t.c_Fair t.m_Fair_go_on G_Fair_go_on (hr.mono (by decide)) b_Fair_go_on .nil pass0))))), ?_⟩
  obtain ⟨f, a, F, p, ws, rfl, z, ok, sok, hp, hws, D, hT, hQ⟩ := h
  refine ⟨_, rfl, p, rfl, ⟨_, SqL.of hp⟩, ?_⟩
  refine for_it (walk_list (xs := ws.map V.str)) (fun i σ H' => (∃ u, σ = [some (.ref f), some (.ref p), u]) ∧ Ch (TL K) (S6 f a) H H' ∧ FairAt K H' f a { F with held := rsH F.held (ws.take i), next := rsN F.next (ws.take i) } ∧ H' p = some (.lst (ws.map V.str))) ?_ ?_ ?_ ?_
  · refine ⟨⟨_, rfl⟩, Ch.refl hT, ?_, hp⟩
    have e1 : rsH F.held (ws.take 0) = F.held := by funext x; simp [rsH]
    have e2 : rsN F.next (ws.take 0) = F.next := by funext x; simp [rsN]
    rw [e1, e2]; exact z
  · intro i σ H' _ q
    exact SqL.of q.2.2.2
  · intro i v σ H1 H2 hi q hY
    obtain ⟨⟨u, rfl⟩, c1, z1, hp1⟩ := q
    have hi' : i < ws.length := by simpa using hi
    obtain ⟨y, hy⟩ : ∃ y, ws[i]? = some y := ⟨_, List.getElem?_eq_getElem hi'⟩
    obtain ⟨rfl, rfl⟩ := yat hy hY
    have hyA := hws y (List.mem_of_getElem? hy)
    refine ⟨_, rfl, f, _, a.dx, _, _, rfl, z1.ins, t.c_Fair, t.a_Fair_held, rfl, _, rfl, a.dh, _, rfl, dput_os (v := none) z1.h hyA ok.a, ?_⟩
    have z2 := z1.setH (hd := PM.fset (rsH F.held (ws.take i)) y none)
    have c2 := c1.putN (o := .dK (dkv F.A fun x => os (PM.fset (rsH F.held (ws.take i)) y none x))) z1.h nt_dK (.inr s6_h)
    refine ⟨_, rfl, f, _, a.dx, _, _, rfl, z2.ins, t.c_Fair, t.a_Fair_next, rfl, _, rfl, a.dn, _, rfl, dput_iv (v := 0) z2.n hyA ok.a, ?_⟩
    have z3 := z2.setN (nx := PM.fset (rsN F.next (ws.take i)) y 0)
    have c3 := c2.putN (o := .dK (dkv F.A fun x => iv (PM.fset (rsN F.next (ws.take i)) y 0 x))) z2.n nt_dK (.inr s6_n)
    have n1 : p ≠ a.dh := ne_of hp1 z1.h (by intro z; cases z)
    have n2 : p ≠ a.dn := ne_of hp1 z1.n (by intro z; cases z)
    rw [take_snoc hy, ← rsH_snoc, ← rsN_snoc]
    exact ⟨⟨_, rfl⟩, c3, z3, by rw [upd_ne n2, upd_ne n1]; exact hp1⟩
  · intro σ H' q
    obtain ⟨⟨u, rfl⟩, c1, z1, hp1⟩ := q
    rw [List.length_map, List.take_length] at z1
    refine ⟨_, rfl, f, _, _, rfl, z1.ins, rfl, f, a, _, rfl, z1, ⟨ok.A, ok.R, ok.lst, ok.ord, ok.a, ok.r⟩, sok, D, c1.tb, fun held' next' asks' H2 c2 z2 D2 S2 => ?_⟩
    exact hQ held' next' asks' H2 (c1.trans c2) z2 D2 S2
def TripT (K : PySem.W.Frag) (H : Hp) (p : Addr) (l : List (Str × Option Str)) : Prop := ∃ as : List Addr, SqT K H p (as.map V.ref) ∧ Paired (fun q e => H q = some (.tup [.str e.1, os e.2])) as l
def spFmatch (K : PySem.W.Frag) : Sp := fun vs H Q _ => ∃ (f : Addr) (a : FA) (F : FS), vs = [.ref f] ∧ FairAt K H f a F ∧ F.Ok ∧ LamX.Tabs (TL K) H ∧ ∀ (p : Addr) (ys : List Str) (H' : Hp), Ex (TL K) H H' → ys.Perm F.A → sortedS ys = true → TripT K H' p (ys.map fun x => (x, F.held x)) → Q (.ref p) H'
theorem ok_Fair_match (t : TX K mg base) : Does P w K mg base CX0 2 ("Fair", some "match") ["self"] (spFmatch K) := by
  have nd := (sc_Fair_match).nd
  refine t.do_Fair_match (fun vs H Q E h => by obtain ⟨_, _, _, rfl, _⟩ := h; rfl) fun A outer s H vs Q E hr h => ⟨_, PSs.nox ((pss_one (ps_ret (pe_callTy (call_tupleK K rfl) (by rfl) t.n_tuple (by decide +kernel) (pa_cons (pe_lc (X := ((X_Fair_match CX0 P w K mg base A outer s H E).nox)) (own := [("asker", 1)]) (g := (gName 1)) rfl nd (pi_listK K rfl (pe_callB (call_sortedD rfl) (by rfl) t.n_sorted (by decide +kernel) (pa_cons (pe_fldK K rfl (pv 0) rfl) pa_nil))) (blkOk_by (own := [("asker", 1)]) (N := ["self", "asker"]) (sc := defScope PMH.s_Fair_match) (by decide +kernel)) (fun s1 H1 C1 l1 p1 => (pg_name (i := 1) nd rfl (Or.inl rfl))) (fun s1 H1 C1 l1 p1 => pts_nil) (fun s1 H1 C1 l1 p1 => (pe_tup (pa_cons (pv 1) (pa_cons (pe_dget (hu_of hr) (pe_fldK K rfl (pv 0) rfl) (pv 1) (fun _ _ => rfl)) pa_nil))))) pa_nil))))), ?_⟩
  obtain ⟨f, a, F, rfl, z, ok, hT, hQ⟩ := h
  refine ⟨_, rfl, f, _, a.dx, _, _, rfl, z.ins, t.c_Fair, t.a_Fair_lists, rfl, a.dl, _, F.A, rfl, .of z.l, dkv_keys, by have := ok.a; omega, fun ys p hperm hsort hp => ?_⟩
  have e1 : Ex (TL K) H (upd H p (.lst (ys.map V.str))) := (Ch.refl hT).new hp
  have z1 := z.ex e1
  have lys := hperm.length_eq
  refine ⟨p, rfl, ⟨_, SqL.of upd_same⟩, fun D hD => ?_⟩
  refine lcx walk_list (ls := ys) (by simp) (fun _ => true) (fun x v H => ∃ q, v = V.ref q ∧ H q = some (.tup [.str x, os (F.held x)])) e1.tb hD (fun H e => Ex.sqL e (SqL.of upd_same)) (by rw [lys]; exact small8 ok.a) ?_ ?_ ?_
  · intro x y H H' c ⟨zs, hz⟩ ⟨q, e, hq⟩
    exact ⟨q, e, c.k hq (ne_of hq hz (by intro z; cases z))⟩
  · intro i x v H1 H2 N M hi e hY _ _ hM
    obtain ⟨rfl, rfl⟩ := yat hi hY
    have hx : x ∈ F.A := hperm.mem_iff.mp (List.mem_of_getElem? hi)
    have z2 := z1.ex e
    refine ⟨rfl, _, rfl, _, rfl, f, _, a.dx, _, _, rfl, z2.ins, t.c_Fair, t.a_Fair_held, rfl, _, rfl, a.dh, _, rfl, dget_in (.of z2.h) hx, by show 2 ≤ sizeLine; decide, fun nt hnt => ?_⟩
    exact hM rfl _ _ ((Ch.refl e.tb).new hnt) ⟨nt, rfl, upd_same⟩
  · intro H1 ys' e hD1 hys
    have fz : ys.filter (fun _ => true) = ys := by simp
    rw [fz] at hys
    obtain ⟨as, rfl, has⟩ := refs_of hys
    refine ⟨D, _, rfl, .inl ⟨SqL.of hD1, fun q hq => ?_⟩⟩
    have e2 : Ex (TL K) H1 (upd H1 q (.tup (as.map V.ref))) := (Ch.refl e.tb).new hq
    refine hQ q ys _ (e1.trans (e.trans e2)) hperm hsort ⟨as, SqT.of upd_same, ?_⟩
    exact Paired.mapR (g := fun x => (x, F.held x)) (Paired.flip (Paired.mapP has fun _ _ z => Ex.k e2 z))
def spNames (K : PySem.W.Frag) : Sp := fun vs H Q _ => ∃ (f : Addr) (a : FA) (F : FS), vs = [.ref f] ∧ FairAt K H f a F ∧ F.Ok ∧ LamX.Tabs (TL K) H ∧ ∀ (p pa pr : Addr) (ys rs : List Str) (H' : Hp), Ex (TL K) H H' → ys.Perm F.A → sortedS ys = true → rs.Perm F.R → sortedS rs = true → SqT K H' p [.ref pa, .ref pr] → TupF H' pa (ys.map V.str) → TupF H' pr (rs.map V.str) → Q (.ref p) H'
theorem ok_Fair_names (t : TX K mg base) : Does P w K mg base CX0 2 ("Fair", some "names") ["self"] (spNames K) := by
  have nd := (sc_Fair_names).nd
  refine t.do_Fair_names (fun vs H Q E h => by obtain ⟨_, _, _, rfl, _⟩ := h; rfl) fun A outer s H vs Q E hr h => ⟨_, PSs.nox ((pss_one (ps_ret (pe_tup (pa_cons (pe_callTy (call_tupleF K rfl) (by rfl) t.n_tuple (by decide +kernel) (pa_cons (pe_callB (call_sortedD rfl) (by rfl) t.n_sorted (by decide +kernel) (pa_cons (pe_fldK K rfl (pv 0) rfl) pa_nil)) pa_nil)) (pa_cons (pe_callTy (call_tupleF K rfl) (by rfl) t.n_tuple (by decide +kernel) (pa_cons (pe_callB (call_sortedD rfl) (by rfl) t.n_sorted (by decide +kernel) (pa_cons (pe_fldK K rfl (pv 0) rfl) pa_nil)) pa_nil)) pa_nil)))))), ?_⟩
  obtain ⟨f, a, F, rfl, z, ok, hT, hQ⟩ := h
  refine ⟨_, rfl, f, _, a.dx, _, _, rfl, z.ins, t.c_Fair, t.a_Fair_lists, rfl, a.dl, _, F.A, rfl, .of z.l, dkv_keys, by have := ok.a; omega, fun ys p hperm hsort hp => ?_⟩
  have e1 : Ex (TL K) H (upd H p (.lst (ys.map V.str))) := (Ch.refl hT).new hp
  refine ⟨p, _, rfl, SqL.of upd_same, fun pa oa hoa hpa => ?_⟩
  have e2 := e1.new (o := .frz oa (.tup (ys.map V.str))) hpa
  have z2 := z.ex e2
  refine ⟨_, rfl, f, _, a.dx, _, _, rfl, z2.ins, t.c_Fair, t.a_Fair_orders, rfl, a.do_, _, F.R, rfl, .of z2.o, dkv_keys, by have := ok.r; omega, fun rs p2 hperm2 hsort2 hp2 => ?_⟩
  have e3 := (Ch.refl (S := No) e2.tb).new (o := .lst (rs.map V.str)) hp2
  refine ⟨p2, _, rfl, SqL.of upd_same, fun pr ob hob hpr => ?_⟩
  have e4 := e3.new (o := .frz ob (.tup (rs.map V.str))) hpr
  refine ⟨by show 2 ≤ sizeLine; decide, fun q hq => ?_⟩
  have e5 := (Ch.refl (S := No) e4.tb).new (o := .tup [.ref pa, .ref pr]) hq
  exact hQ q pa pr ys rs _ (e2.trans (e4.trans e5)) hperm hsort hperm2 hsort2 (SqT.of upd_same) ⟨oa, hoa, Ex.k (e4.trans e5) upd_same⟩ ⟨ob, hob, Ex.k e5 upd_same⟩
end
end PMT

set_option Elab.async false
set_option linter.all false
set_option maxRecDepth 100000
set_option maxHeartbeats 2000000
/-! V4: what is told; the part that hangs together. -/
namespace PMT
open PySem PySem.Spec PyProof.Rows L2
theorem filter_yes {α : Type} (l : List α) : l.filter (fun _ => true) = l := List.filter_eq_self.mpr fun _ _ => rfl
def look (B : List Str) (g : Str → Option Str) (x : Str) : Option Str := if x ∈ B then g x else none
theorem dkv_putc {O : List Str} {k : Str} {v : V} : putK (dkv O fun _ => v) (Sum.inr k) v = dkv (if k ∈ O then O else O ++ [k]) fun _ => v := by
  by_cases h : k ∈ O
  · rw [if_pos h, putK_dkv_old h]
    exact dkv_congr fun x _ => by by_cases e : x = k; · rw [e, PM.fset_same]
                                  · rw [PM.fset_ne e]
  · rw [if_neg h, putK_dkv_new h]
    exact dkv_congr fun x _ => by by_cases e : x = k; · rw [e, PM.fset_same]
                                  · rw [PM.fset_ne e]
theorem merge_const {v : V} (ws : List Str) : ∃ ks : List Str, ks.Nodup ∧ (∀ x, x ∈ ks ↔ x ∈ ws) ∧ ks.length ≤ ws.length ∧ mergeK [] (dkv ws fun _ => v) = dkv ks fun _ => v := by
  refine PM.snoc_ind (P := fun ws => ∃ ks : List Str, ks.Nodup ∧ (∀ x, x ∈ ks ↔ x ∈ ws) ∧ ks.length ≤ ws.length ∧ mergeK [] (dkv ws fun _ => v) = dkv ks fun _ => v) ⟨[], .nil, fun _ => Iff.rfl, Nat.le_refl _, rfl⟩ ?_ ws
  rintro l a ⟨ks, h1, h2, h3, h4⟩
  have e : mergeK [] (dkv (l ++ [a]) fun _ => v) = putK (mergeK [] (dkv l fun _ => v)) (Sum.inr a) v := by
    unfold mergeK dkv
    rw [List.map_append, List.foldl_append]; rfl
  rw [e, h4, dkv_putc]
  by_cases h : a ∈ ks
  · rw [if_pos h]
    refine ⟨ks, h1, fun x => ?_, by rw [List.length_append]; omega, rfl⟩
    rw [h2, List.mem_append, List.mem_singleton]
    constructor
    · exact .inl
    · rintro (z | z)
      · exact z
      · rw [z]; exact (h2 a).mp h
  · rw [if_neg h]
    refine ⟨ks ++ [a], ?_, fun x => ?_, by rw [List.length_append, List.length_append]; simp; omega, rfl⟩
    · rw [List.nodup_append]
      exact ⟨h1, by simp, fun x hx y hy e => h (by rw [List.mem_singleton.mp hy] at e; rw [← e]; exact hx)⟩
    · rw [List.mem_append, List.mem_append, h2]
def movedOf (ys : List Str) (b a : Str → Option Str) : List (Str × Option Str × Option Str) := (ys.filter fun x => decide (b x ≠ a x)).map fun x => (x, b x, a x)
def MovedT (K : PySem.W.Frag) (H : Hp) (p : Addr) (l : List (Str × Option Str × Option Str)) : Prop := ∃ as : List Addr, SqT K H p (as.map V.ref) ∧ Paired (fun q e => H q = some (.tup [.str e.1, os e.2.1, os e.2.2])) as l
theorem MovedT.ex {K T H H' p l} (h : MovedT K H p l) (e : Ex T H H') : MovedT K H' p l := by
  obtain ⟨as, h1, h2⟩ := h
  exact ⟨as, Ex.sqT e h1, Paired.mapP h2 fun _ _ z => Ex.k e z⟩
theorem os_eq2 {o u : Option Str} : decide (os o = os u) = decide (o = u) := by cases o <;> cases u <;> simp [os]
theorem look_getD {B : List Str} {g : Str → Option Str} {x : Str} : (if x ∈ B then some (os (g x)) else none).getD V.non = os (look B g x) := by
  unfold look
  by_cases h : x ∈ B
  · rw [if_pos h, if_pos h]; rfl
  · rw [if_neg h, if_neg h]; rfl
section
variable {P : Program} {w : World} {K : PySem.W.Frag} {mg : Str → Option Value} {base : Heap}
def spTold (K : PySem.W.Frag) : Sp := fun vs H Q _ => ∃ (f : Addr) (a : FA) (F : FS) (db : Addr) (B : List Str) (g : Str → Option Str), vs = [.ref f, .ref db] ∧ FairAt K H f a F ∧ F.Ok ∧ H db = some (.dK (dkv B fun x => os (g x))) ∧ B.length ≤ 16 ∧ LamX.Tabs (TL K) H ∧
  ∀ (p : Addr) (ys : List Str) (H' : Hp), Ex (TL K) H H' → sortedS ys = true → ys.Nodup → (∀ x, x ∈ ys ↔ x ∈ B ∨ x ∈ F.A) → MovedT K H' p (movedOf ys (look B g) (look F.A F.held)) → Q (.ref p) H'
theorem ok_Fair_told (t : TX K mg base) : Does P w K mg base CX0 2 ("Fair", some "told") ["self", "before"] (spTold K) := by
  have nd := (sc_Fair_told).nd
  refine t.do_Fair_told (fun vs H Q E h => by obtain ⟨_, _, _, _, _, _, rfl, _⟩ := h; rfl) fun A outer s H vs Q E hr h => ⟨_, PSs.nox ((pss_cons (ps_set (i := 2) nd rfl (Or.inl rfl) (pe_callB (call_sortedD rfl) (by rfl) t.n_sorted (by decide +kernel) (pa_cons (pe_callTy (call_dictP rfl) (by rfl) t.n_dict (by decide +kernel) (pa_cons (pe_lc (X := ((X_Fair_told CX0 P w K mg base A outer s H E).nox)) (own := [("word", 3)]) (g := (gName 3)) rfl nd (pi_listK K rfl (pe_op op_cat (pe_callTy (call_listD rfl) (by rfl) t.n_list (by decide +kernel) (pa_cons (pv 1) pa_nil)) (pe_callTy (call_listD rfl) (by rfl) t.n_list (by decide +kernel) (pa_cons (pe_fldK K rfl (pv 0) rfl) pa_nil)))) (blkOk_by (own := [("word", 3)]) (N := ["self", "before", "words", "word"]) (sc := defScope PMH.s_Fair_told) (by decide +kernel)) (fun s1 H1 C1 l1 p1 => (pg_name (i := 3) nd rfl (Or.inl rfl))) (fun s1 H1 C1 l1 p1 => pts_nil) (fun s1 H1 C1 l1 p1 => (pe_tup (pa_cons (pv 3) (pa_cons pe_int pa_nil))))) pa_nil)) pa_nil))) (pss_one (ps_ret (pe_callTy (call_tupleK K rfl) (by rfl) t.n_tuple (by decide +kernel) (pa_cons (pe_lc (X := ((X_Fair_told CX0 P w K mg base A outer s H E).nox)) (own := [("word", 3)]) (g := (gName 3)) rfl nd (pi_listK K rfl (pv 2)) (blkOk_by (own := [("word", 3)]) (N := ["self", "before", "words", "word"]) (sc := defScope PMH.s_Fair_told) (by decide +kernel)) (fun s1 H1 C1 l1 p1 => (pg_name (i := 3) nd rfl (Or.inl rfl))) (fun s1 H1 C1 l1 p1 => (pts_one (pt_cmpR op_ne (pe_dget1 (hu_of hr) (pv 1) (pv 3) ⟨by rfl, by rfl, by rfl, by rfl⟩) (pe_dget1 (hu_of hr) (pe_fldK K rfl (pv 0) rfl) (pv 3) ⟨by rfl, by rfl, by rfl, by rfl⟩) (nomark _)))) (fun s1 H1 C1 l1 p1 => (pe_tup (pa_cons (pv 3) (pa_cons (pe_dget1 (hu_of hr) (pv 1) (pv 3) ⟨by rfl, by rfl, by rfl, by rfl⟩) (pa_cons (pe_dget1 (hu_of hr) (pe_fldK K rfl (pv 0) rfl) (pv 3) ⟨by rfl, by rfl, by rfl, by rfl⟩) pa_nil)))))) pa_nil)))))), ?_⟩
  obtain ⟨f, a, F, db, B, g, rfl, z, ok, hdb, hB, hT, hQ⟩ := h
  have oka := ok.a
  -- list(before) + list(self.held)
  refine ⟨_, rfl, db, _, rfl, .of hdb, fun l1 hl1 => ?_⟩
  have e1 : Ex (TL K) H (upd H l1 (.lst ((dkv B fun x => os (g x)).map fun kv => kV kv.1))) := (Ch.refl hT).new hl1
  have z1 := z.ex e1
  refine ⟨_, rfl, f, _, a.dx, _, _, rfl, z1.ins, t.c_Fair, t.a_Fair_held, rfl, a.dh, _, rfl, .of z1.h, fun l2 hl2 => ?_⟩
  have e2 := (Ch.refl (S := No) e1.tb).new (o := .lst ((dkv F.A fun x => os (F.held x)).map fun kv => kV kv.1)) hl2
  have km : ∀ (B : List Str) (g : Str → V), ((dkv B g).map fun kv => kV kv.1) = B.map V.str := fun B g => by simp [dkv, kV]
  refine ⟨l1, l2, _, _, rfl, rfl, Ex.k e2 upd_same, upd_same, by rw [km, km, List.length_map, List.length_map]; have := line_big; omega, fun l3 hl3 => ?_⟩
  have e3 := (Ch.refl (S := No) e2.tb).new (o := .lst (((dkv B fun x => os (g x)).map fun kv => kV kv.1) ++ ((dkv F.A fun x => os (F.held x)).map fun kv => kV kv.1))) hl3
  have e03 := e1.trans (e2.trans e3)
  rw [km, km, ← List.map_append] at e3 e03 ⊢
  have h3 : SqL K (upd (upd (upd H l1 (.lst (B.map V.str))) l2 (.lst (F.A.map V.str))) l3 (.lst ((B ++ F.A).map V.str))) l3 ((B ++ F.A).map V.str) := SqL.of upd_same
  refine ⟨l3, rfl, ⟨_, h3⟩, fun D hD => ?_⟩
  have hlen : (B ++ F.A).length ≤ 24 := by rw [List.length_append]; omega
  refine lcx walk_list (ls := B ++ F.A) (by simp) (fun _ => true) (fun (p : Str) v H => ∃ q, v = .ref q ∧ H q = some (.tup [.str p, iv 1])) e03.tb hD (fun H e => Ex.sqL e h3) (by have := line_big; omega) ?_ ?_ ?_
  · intro a y H H' c ⟨zs, hz⟩ ⟨q, e, hq⟩
    exact ⟨q, e, c.k hq (ne_of hq hz (by intro z; cases z))⟩
  · intro i x v H2 H3 N M ha e hY _ _ hM
    obtain ⟨rfl, rfl⟩ := yat ha hY
    exact ⟨rfl, _, rfl, by show 2 ≤ sizeLine; decide, fun p hp => hM rfl _ _ ((Ch.refl e.tb).new hp) ⟨p, rfl, upd_same⟩⟩
  intro H4 ys0 e4 hD4 hp4
  have fz : (B ++ F.A).filter (fun _ => true) = B ++ F.A := List.filter_eq_self.mpr fun _ _ => rfl
  rw [fz] at hp4
  obtain ⟨as, has, hps⟩ := dpairs (K := K) (k := fun (p : Str) => Sum.inr p) (u := fun _ => iv 1) hp4
  subst has
  refine ⟨D, as, _, rfl, SqL.of hD4, hps, fun dr hdr => ?_⟩
  obtain ⟨ks, k1, k2, k3, k4⟩ := merge_const (v := iv 1) (B ++ F.A)
  have k4' : mergeK [] ((B ++ F.A).map fun p => ((Sum.inr p : Key), iv 1)) = dkv ks fun _ => iv 1 := k4
  rw [k4']
  have e5 := e4.new (o := .dK (dkv ks fun _ => iv 1)) hdr
  have e05 := e03.trans e5
  refine ⟨dr, _, ks, rfl, .of upd_same, dkv_keys, by omega, fun ys p hperm hsort hp => ?_⟩
  have e6 := (Ch.refl (S := No) e05.tb).new (o := .lst (ys.map V.str)) hp
  have e06 := e05.trans e6
  have lys := hperm.length_eq
  refine ⟨_, rfl, p, rfl, ⟨_, SqL.of upd_same⟩, fun D2 hD2 => ?_⟩
  refine lcx walk_list (ls := ys) (by simp) (fun x => decide (look B g x ≠ look F.A F.held x)) (fun x v H => ∃ q, v = V.ref q ∧ H q = some (.tup [.str x, os (look B g x), os (look F.A F.held x)])) e06.tb hD2 (fun H e => Ex.sqL e (SqL.of upd_same)) (by have := line_big; omega) ?_ ?_ ?_
  · intro x y H H' c ⟨zs, hz⟩ ⟨q, e, hq⟩
    exact ⟨q, e, c.k hq (ne_of hq hz (by intro z; cases z))⟩
  · intro i x v H7 H8 N M hi e hY _ hN hM
    obtain ⟨rfl, rfl⟩ := yat hi hY
    have e07 := e06.trans e
    have z7 := z.ex e07
    have hb7 := Ex.k e07 hdb
    refine ⟨rfl, _, rfl, db, rfl, .inl ⟨_, .of hb7⟩, _, rfl, _, dget_r (x := x) (.of hb7), ?_⟩
    rw [look_getD]
    refine ⟨_, rfl, f, _, a.dx, _, _, rfl, z7.ins, t.c_Fair, t.a_Fair_held, rfl, a.dh, rfl, .inl ⟨_, .of z7.h⟩, _, rfl, _, dget_r (x := x) (.of z7.h), ?_⟩
    rw [look_getD]
    refine ⟨by cases look B g x <;> cases look F.A F.held x <;> rfl, _, rfl, ?_⟩
    rw [os_eq2]
    by_cases hk : look B g x = look F.A F.held x
    · rw [decide_eq_true hk]
      exact hN (decide_eq_false fun z => z hk) _ (Ch.refl e.tb)
    · rw [decide_eq_false hk]
      refine ⟨_, rfl, _, rfl, db, rfl, .inl ⟨_, .of hb7⟩, _, rfl, _, dget_r (x := x) (.of hb7), ?_⟩
      rw [look_getD]
      refine ⟨_, rfl, f, _, a.dx, _, _, rfl, z7.ins, t.c_Fair, t.a_Fair_held, rfl, a.dh, rfl, .inl ⟨_, .of z7.h⟩, _, rfl, _, dget_r (x := x) (.of z7.h), ?_⟩
      rw [look_getD]
      refine ⟨by show 3 ≤ sizeLine; decide, fun nt hnt => ?_⟩
      exact hM (decide_eq_true hk) _ _ ((Ch.refl e.tb).new hnt) ⟨nt, rfl, upd_same⟩
  · intro H7 ys' e7 hD7 hys
    obtain ⟨bs, rfl, hbs⟩ := refs_of hys
    refine ⟨D2, _, rfl, .inl ⟨SqL.of hD7, fun q hq => ?_⟩⟩
    have e8 : Ex (TL K) H7 (upd H7 q (.tup (bs.map V.ref))) := (Ch.refl e7.tb).new hq
    refine hQ q ys _ (e06.trans (e7.trans e8)) hsort (hperm.nodup_iff.mpr k1) (fun x => by rw [hperm.mem_iff, k2, List.mem_append]) ⟨bs, SqT.of upd_same, ?_⟩
    exact Paired.mapR (g := fun x => (x, look B g x, look F.A F.held x)) (Paired.flip (Paired.mapP hbs fun _ _ z => Ex.k e8 z))
end
end PMT

set_option Elab.async false
set_option linter.all false
set_option maxRecDepth 100000
set_option maxHeartbeats 2000000
/-! V5: the part that hangs together. -/
namespace PMT
open PySem PySem.Spec PyProof.Rows L2
theorem FairR.chS {K : PySem.W.Frag} {T : List (Addr × Str)} {S : Addr → Prop} {H H' : Hp} {f : Addr} {a : FA} {F : FS} (z : FairR K H f a F) (c : Ch T S H H') (hd : ∀ y, S y → ∃ kvs, H y = some (.dK kvs)) (h1 : ¬ S a.dl) (h2 : ¬ S a.do_) : FairR K H' f a F := by
  have nS : ∀ {y o}, H y = some o → (∀ kvs, o ≠ .dK kvs) → ¬ S y := fun e n s => by
    obtain ⟨kvs, q⟩ := hd _ s
    rw [q] at e
    exact n kvs (Option.some.inj e).symm
  have tk : ∀ {y xs}, SqT K H y xs → SqT K H' y xs := fun e => by
    rcases e with (e | ⟨o, e⟩) | e
    · exact .inl (.inl (c.k e (nS e (by intro _ z; cases z))))
    · exact .inl (.inr ⟨o, c.k e (nS e (by intro _ z; cases z))⟩)
    · exact .inr e
  have rk : ∀ {y kvs}, ¬ S y → Rd H y (.dK kvs) → Rd H' y (.dK kvs) := fun n e => by
    rcases e with e | ⟨o, e⟩
    · exact .inl (c.k e n)
    · exact .inr ⟨o, c.k e n⟩
  exact ⟨c.k z.ins (nS z.ins (by intro _ z; cases z)), rk h1 z.l, rk h2 z.o, fun x h => tk (z.lt x h), fun x h => tk (z.ot x h)⟩
/-- a dict is locked -/
theorem FairR.lock {K : PySem.W.Frag} {H : Hp} {f d : Addr} {a : FA} {F : FS} {kvs : List (Key × V)} {od : Obj} (z : FairR K H f a F) (h : H d = some (.dK kvs)) : FairR K (upd H d (.frz od (.dK kvs))) f a F := by
  have rk : ∀ {y ks}, Rd H y (.dK ks) → Rd (upd H d (.frz od (.dK kvs))) y (.dK ks) := fun {y ks} e => by
    by_cases q : y = d
    · subst q
      rcases e with e | ⟨o, e⟩
      · rw [h] at e; cases e
        exact .inr ⟨od, upd_same⟩
      · rw [h] at e; cases e
    · rcases e with e | ⟨o, e⟩
      · exact .inl (by rw [upd_ne q]; exact e)
      · exact .inr ⟨o, by rw [upd_ne q]; exact e⟩
  have ne : f ≠ d := ne_of z.ins h (by intro z; cases z)
  exact ⟨by rw [upd_ne ne]; exact z.ins, rk z.l, rk z.o, fun x hx => sqT_dK h (z.lt x hx), fun x hx => sqT_dK h (z.ot x hx)⟩
def ins1 (O : List Str) (x : Str) : List Str := if x ∈ O then O else O ++ [x]
theorem ins1_mem {O : List Str} {x y : Str} : y ∈ ins1 O x ↔ y ∈ O ∨ y = x := by
  unfold ins1
  by_cases h : x ∈ O
  · rw [if_pos h]
    constructor
    · exact .inl
    · rintro (z | z)
      · exact z
      · rw [z]; exact h
  · rw [if_neg h]; simp
theorem ins1_nd {O : List Str} {x : Str} (h : O.Nodup) : (ins1 O x).Nodup := by
  unfold ins1
  by_cases e : x ∈ O
  · rw [if_pos e]; exact h
  · rw [if_neg e, List.nodup_append]
    exact ⟨h, by simp, fun a ha b hb z => e (by rw [List.mem_singleton.mp hb] at z; rw [← z]; exact ha)⟩
theorem ins1_len {O : List Str} {x : Str} : O.length ≤ (ins1 O x).length ∧ (x ∉ O → (ins1 O x).length = O.length + 1) := by
  unfold ins1
  by_cases e : x ∈ O
  · rw [if_pos e]; exact ⟨Nat.le_refl _, fun h => absurd e h⟩
  · rw [if_neg e]; simp
abbrev c1 : Str → V := fun _ => .int 1
theorem dput_c {H : Hp} {d : Addr} {O : List Str} {x : Str} (h : H d = some (.dK (dkv O c1))) (hl : O.length ≤ 100) : DPut H d (.str x) (.int 1) (upd H d (.dK (dkv (ins1 O x) c1))) := by
  have := dkv_putc (O := O) (k := x) (v := .int 1)
  unfold ins1
  rw [← this]
  exact DPut.k (k := Sum.inr x) h (by rw [dkv_len]; have := line_big; omega)
/-- what a pass over the pairs keeps -/
structure PJ (F : FS) (sA sR O10 O20 : List Str) (seen : Str → Str → Prop) (O1 O2 : List Str) (mv : Bool) : Prop where
  n1 : O1.Nodup
  n2 : O2.Nodup
  s1 : ∀ x ∈ O1, x ∈ F.A ++ sA
  s2 : ∀ x ∈ O2, x ∈ F.R ++ sR
  g1 : ∀ x ∈ O10, x ∈ O1
  g2 : ∀ x ∈ O20, x ∈ O2
  no : mv = false → O1 = O10 ∧ O2 = O20 ∧ ∀ x r, seen x r → F.M.likes x r → (x ∈ O10 ↔ r ∈ O20)
  yes : mv = true → O10.length + O20.length < O1.length + O2.length
  ge : O10.length + O20.length ≤ O1.length + O2.length
theorem PJ.step {F : FS} {sA sR O10 O20 : List Str} {seen seen' : Str → Str → Prop} {O1 O2 : List Str} {mv : Bool} (J : PJ F sA sR O10 O20 seen O1 O2 mv) {x r : Str} (hs : ∀ x' r', seen' x' r' → seen x' r' ∨ (x' = x ∧ r' = r)) :
    (F.M.likes x r → (x ∈ O1 ↔ r ∈ O2)) → PJ F sA sR O10 O20 seen' O1 O2 mv := fun h =>
  ⟨J.n1, J.n2, J.s1, J.s2, J.g1, J.g2, fun e => by
    obtain ⟨h1, h2, h3⟩ := J.no e
    refine ⟨h1, h2, fun x' r' q l => ?_⟩
    rcases hs x' r' q with q | ⟨q1, q2⟩
    · exact h3 x' r' q l
    · subst q1 q2; rw [← h1, ← h2]; exact h l, J.yes, J.ge⟩
theorem PJ.put {F : FS} {sA sR O10 O20 : List Str} {seen seen' : Str → Str → Prop} {O1 O2 : List Str} {mv : Bool} (J : PJ F sA sR O10 O20 seen O1 O2 mv) {x r : Str} (l : F.M.likes x r) (h : ¬ (x ∈ O1 ↔ r ∈ O2)) : PJ F sA sR O10 O20 seen' (ins1 O1 x) (ins1 O2 r) true := by
  have a1 := ins1_len (O := O1) (x := x)
  have a2 := ins1_len (O := O2) (x := r)
  have ge := J.ge
  have gt : O1.length + O2.length < (ins1 O1 x).length + (ins1 O2 r).length := by
    by_cases h1 : x ∈ O1
    · have h2 : r ∉ O2 := fun z => h ⟨fun _ => z, fun _ => h1⟩
      have := a2.2 h2
      omega
    · have := a1.2 h1
      omega
  refine ⟨ins1_nd J.n1, ins1_nd J.n2, fun y hy => ?_, fun y hy => ?_, fun y hy => ins1_mem.mpr (.inl (J.g1 y hy)), fun y hy => ins1_mem.mpr (.inl (J.g2 y hy)), fun e => by (cases e), fun _ => by omega, by omega⟩
  · rcases ins1_mem.mp hy with z | z
    · exact J.s1 y z
    · rw [z]; exact List.mem_append_left _ l.1
  · rcases ins1_mem.mp hy with z | z
    · exact J.s2 y z
    · rw [z]; exact List.mem_append_left _ l.2.1
section
variable {P : Program} {w : World} {K : PySem.W.Frag} {mg : Str → Option Value} {base : Heap}
def spPart (K : PySem.W.Frag) : Sp := fun vs H Q _ => ∃ (f : Addr) (a : FA) (F : FS) (pa pr : Addr) (sA sR : List Str), vs = [.ref f, .ref pa, .ref pr] ∧ FairAt K H f a F ∧ F.Ok ∧ H pa = some (.lst (sA.map V.str)) ∧ H pr = some (.lst (sR.map V.str)) ∧ sA.length ≤ 1 ∧ sR.length ≤ 1 ∧ LamX.Tabs (TL K) H ∧
  ∀ (p : Addr) (ws O : List Str) (H' : Hp), Ex (TL K) H H' → H' p = some (.lst (ws.map V.str)) → New H p → ws.Nodup → (∀ x ∈ ws, x ∈ F.A) → (∀ x ∈ sA, x ∈ F.A → x ∈ ws) → (∀ r ∈ sR, r ∈ O) → (∀ x r, F.M.likes x r → (x ∈ ws ↔ r ∈ O)) → Q (.ref p) H'
theorem ok_Fair_part_of (t : TX K mg base) : Does P w K mg base CX0 3 ("Fair", some "part_of") ["self", "askers", "rooms"] (spPart K) := by
  obtain ⟨fd_Fair_likes, G_Fair_likes, b_Fair_likes, p_Fair_likes⟩ := ok_Fair_likes (P := P) (w := w) t
  have nd := (sc_Fair_part_of).nd
  refine t.do_Fair_part_of (fun vs H Q E h => by obtain ⟨_, _, _, _, _, _, _, rfl, _⟩ := h; rfl) fun A outer s H vs Q E hr h => ⟨_, PSs.nox ((pss_cons (ps_asg (pe_tup (pa_cons (pe_callTy (call_dictP rfl) (by rfl) t.n_dict (by decide +kernel) (pa_cons (pe_lc (X := ((X_Fair_part_of CX0 P w K mg base A outer s H E).nox)) (own := [("one", 8)]) (g := (gName 8)) rfl nd (pi_listK K rfl (pv 1)) (blkOk_by (own := [("one", 8)]) (N := ["self", "askers", "rooms", "moved", "ones", "others", "asker", "room", "one"]) (sc := defScope PMH.s_Fair_part_of) (by decide +kernel)) (fun s1 H1 C1 l1 p1 => (pg_name (i := 8) nd rfl (Or.inl rfl))) (fun s1 H1 C1 l1 p1 => pts_nil) (fun s1 H1 C1 l1 p1 => (pe_tup (pa_cons (pv 8) (pa_cons pe_int pa_nil))))) pa_nil)) (pa_cons (pe_callTy (call_dictP rfl) (by rfl) t.n_dict (by decide +kernel) (pa_cons (pe_lc (X := ((X_Fair_part_of CX0 P w K mg base A outer s H E).nox)) (own := [("one", 8)]) (g := (gName 8)) rfl nd (pi_listK K rfl (pv 2)) (blkOk_by (own := [("one", 8)]) (N := ["self", "askers", "rooms", "moved", "ones", "others", "asker", "room", "one"]) (sc := defScope PMH.s_Fair_part_of) (by decide +kernel)) (fun s1 H1 C1 l1 p1 => (pg_name (i := 8) nd rfl (Or.inl rfl))) (fun s1 H1 C1 l1 p1 => pts_nil) (fun s1 H1 C1 l1 p1 => (pe_tup (pa_cons (pv 8) (pa_cons pe_int pa_nil))))) pa_nil)) pa_nil))) (pg_tup rfl (pgs_cons (pg_name (i := 4) nd rfl (Or.inr rfl)) (pgs_cons (pg_name (i := 5) nd rfl (Or.inl rfl)) pgs_nil)))) (pss_cons (ps_set (i := 3) nd rfl (Or.inl rfl) pe_bl) (pss_cons (ps_while PassesOwn.never (pt_val (pv 3)) (pss_cons (ps_set (i := 3) nd rfl (Or.inl rfl) pe_bl) (pss_one (ps_lock (ps_for PassesOwn.never rfl (pi_keys (pe_fldK K rfl (pv 0) rfl)) (pg_name (i := 6) nd rfl (Or.inl rfl)) (pss_one (ps_lock (ps_for PassesOwn.never rfl (pi_keys (pe_fldK K rfl (pv 0) rfl)) (pg_name (i := 7) nd rfl (Or.inl rfl)) (pss_one (ps_if (PW.pt (pw_and (pt_val (pe_meth (pv 0) t.c_Fair t.m_Fair_likes G_Fair_likes (hr.mono (by decide)) b_Fair_likes .nil pass0 (pa_cons (pv 6) (pa_cons (pv 7) pa_nil)))) (pw_and1 (pt_cmpR op_ne (pe_cmp (pc_din (hu_of hr) (pv 6) (pv 4)) (by rfl)) (pe_cmp (pc_din (hu_of hr) (pv 7) (pv 5)) (by rfl)) (nomark _))))) (pss_cons (ps_dput (hu_of hr) (pv 4) (pv 6) pe_int rfl) (pss_cons (ps_dput (hu_of hr) (pv 5) (pv 7) pe_int rfl) (pss_one (ps_set (i := 3) nd rfl (Or.inl rfl) pe_bl)))) pss_nil)))))))))) (pss_one (ps_ret (pe_lc (X := ((X_Fair_part_of CX0 P w K mg base A outer s H E).nox)) (own := [("asker", 6)]) (g := (gName 6)) rfl nd (pi_listK K rfl (pe_callB (call_sortedD rfl) (by rfl) t.n_sorted (by decide +kernel) (pa_cons (pe_fldK K rfl (pv 0) rfl) pa_nil))) (blkOk_by (own := [("asker", 6)]) (N := ["self", "askers", "rooms", "moved", "ones", "others", "asker", "room", "one"]) (sc := defScope PMH.s_Fair_part_of) (by decide +kernel)) (fun s1 H1 C1 l1 p1 => (pg_name (i := 6) nd rfl (Or.inl rfl))) (fun s1 H1 C1 l1 p1 => (pts_one (pt_cmp (pc_din (hu_of hr) (pv 6) (pv 4))))) (fun s1 H1 C1 l1 p1 => (pv 6))))))))), ?_⟩
  obtain ⟨f, a, F, pa, pr, sA, sR, rfl, z, ok, hpa, hpr, lA, lR, hT, hQ⟩ := h
  have oka := ok.a
  have okr := ok.r
  have e11 : ∀ {l : List Str}, l.length ≤ 1 → mergeK [] (l.map fun p => ((Sum.inr p : Key), V.int 1)) = dkv l c1 := fun {l} h => by
    cases l with
    | nil => rfl
    | cons b r =>
      cases r with
      | nil => rfl
      | cons _ _ => simp at h
  have nd1 : ∀ {l : List Str}, l.length ≤ 1 → l.Nodup := fun {l} h => by
    cases l with
    | nil => exact .nil
    | cons b r =>
      cases r with
      | nil => simp
      | cons _ _ => simp at h
  -- ones
  refine ⟨_, rfl, pa, rfl, ⟨_, SqL.of hpa⟩, fun D hD => ?_⟩
  refine lcx walk_list (ls := sA) (by simp) (fun _ => true) (fun (p : Str) v H => ∃ q, v = .ref q ∧ H q = some (.tup [.str p, .int 1])) hT hD (fun H e => Ex.sqL e (SqL.of hpa)) (by have := line_big; omega) ?_ ?_ ?_
  · intro a y H H' c ⟨zs, hz⟩ ⟨q, e, hq⟩
    exact ⟨q, e, c.k hq (ne_of hq hz (by intro z; cases z))⟩
  · intro i x v H2 H3 N M ha e hY _ _ hM
    obtain ⟨rfl, rfl⟩ := yat ha hY
    exact ⟨rfl, _, rfl, by show 2 ≤ sizeLine; decide, fun p hp => hM rfl _ _ ((Ch.refl e.tb).new hp) ⟨p, rfl, upd_same⟩⟩
  intro H1 ys1 e1 hD1 hp1
  rw [filter_yes] at hp1
  obtain ⟨as1, rfl, hps1⟩ := dpairs (K := K) (k := fun (p : Str) => Sum.inr p) (u := fun _ => V.int 1) hp1
  refine ⟨D, as1, _, rfl, SqL.of hD1, hps1, fun d1 hd1 => ?_⟩
  rw [e11 lA]
  have e2 := e1.new (o := .dK (dkv sA c1)) hd1
  -- others
  refine ⟨_, rfl, pr, rfl, ⟨_, SqL.of (Ex.k e2 hpr)⟩, fun D2 hD2 => ?_⟩
  refine lcx walk_list (ls := sR) (by simp) (fun _ => true) (fun (p : Str) v H => ∃ q, v = .ref q ∧ H q = some (.tup [.str p, .int 1])) e2.tb hD2 (fun H e => Ex.sqL e (SqL.of (Ex.k e2 hpr))) (by have := line_big; omega) ?_ ?_ ?_
  · intro a y H H' c ⟨zs, hz⟩ ⟨q, e, hq⟩
    exact ⟨q, e, c.k hq (ne_of hq hz (by intro z; cases z))⟩
  · intro i x v H2 H3 N M ha e hY _ _ hM
    obtain ⟨rfl, rfl⟩ := yat ha hY
    exact ⟨rfl, _, rfl, by show 2 ≤ sizeLine; decide, fun p hp => hM rfl _ _ ((Ch.refl e.tb).new hp) ⟨p, rfl, upd_same⟩⟩
  intro H3 ys2 e3 hD3 hp3
  rw [filter_yes] at hp3
  obtain ⟨as2, rfl, hps2⟩ := dpairs (K := K) (k := fun (p : Str) => Sum.inr p) (u := fun _ => V.int 1) hp3
  refine ⟨D2, as2, _, rfl, SqL.of hD3, hps2, fun d2 hd2 => ?_⟩
  rw [e11 lR]
  have hd13 : H3 d1 = some (.dK (dkv sA c1)) := Ex.k e3 upd_same
  have n12 : d1 ≠ d2 := New.ne (New.of hd2) hd13
  have e4 := (e2.trans e3).new (o := .dK (dkv sR c1)) hd2
  have nd1' : New H d1 := Ex.backN e1 (New.of hd1)
  have nd2' : New H d2 := Ex.backN (e2.trans e3) (New.of hd2)
  refine ⟨by show 2 ≤ sizeLine; decide, fun tp htp => ?_⟩
  have e5 := e4.new (o := .tup [.ref d1, .ref d2]) htp
  have e45 := (Ch.refl (S := No) e4.tb).new (o := .tup [.ref d1, .ref d2]) htp
  have hd1' : (upd (upd H3 d2 (.dK (dkv sR c1))) tp (.tup [.ref d1, .ref d2])) d1 = some (.dK (dkv sA c1)) := Ex.k e45 (by rw [upd_ne n12]; exact hd13)
  have hd2' : (upd (upd H3 d2 (.dK (dkv sR c1))) tp (.tup [.ref d1, .ref d2])) d2 = some (.dK (dkv sR c1)) := Ex.k e45 upd_same
  refine ⟨tp, _, rfl, SqT.of upd_same, rfl, _, _, rfl, _, _, rfl, rfl, ?_⟩
  generalize upd (upd H3 d2 (.dK (dkv sR c1))) tp (.tup [.ref d1, .ref d2]) = H0 at e5 hd1' hd2' ⊢
  have z0 := z.ex e5
  have NS : ∀ {y o}, H y = some o → (∀ ps, o ≠ .tbl ps) → ¬ (y = d1 ∨ y = d2) := fun h k s => by
    rcases s with s | s
    · subst s; obtain ⟨ps, q⟩ := nd1' _ h; exact k ps q
    · subst s; obtain ⟨ps, q⟩ := nd2' _ h; exact k ps q
  have nl := NS z.l (by intro _ z; cases z)
  have no := NS z.o (by intro _ z; cases z)
  have ndo : a.dl ≠ a.do_ := z.ne5.1
  have newS : ∀ y, (y = d1 ∨ y = d2) → New H y := fun y s => by
    rcases s with s | s <;> subst s
    · exact nd1'
    · exact nd2'
  refine ⟨fun mm σ Hc => ∃ (O1 O2 : List Str) (mv : Bool) (u6 u7 u8 : Option V), σ = [some (.ref f), some (.ref pa), some (.ref pr), some (.bl mv), some (.ref d1), some (.ref d2), u6, u7, u8] ∧ Ch (TL K) (fun y => y = d1 ∨ y = d2) H0 Hc ∧ Hc d1 = some (.dK (dkv O1 c1)) ∧ Hc d2 = some (.dK (dkv O2 c1)) ∧
    O1.Nodup ∧ O2.Nodup ∧ (∀ x ∈ O1, x ∈ F.A ++ sA) ∧ (∀ x ∈ O2, x ∈ F.R ++ sR) ∧ (∀ x ∈ sA, x ∈ O1) ∧ (∀ x ∈ sR, x ∈ O2) ∧ (mv = false → ∀ x r, F.M.likes x r → (x ∈ O1 ↔ r ∈ O2)) ∧ mm = (if mv = true then 1000 - (O1.length + O2.length) else 0),
    ⟨_, sA, sR, true, _, _, _, rfl, Ch.refl e5.tb, hd1', hd2', nd1 lA, nd1 lR, fun x h => List.mem_append_right _ h, fun x h => List.mem_append_right _ h, fun _ h => h, fun _ h => h, fun h => (by cases h), rfl⟩, ?_⟩
  rintro mm σ Hc ⟨O1, O2, mv, u6, u7, u8, rfl, cc, hc1, hc2, m1, m2, m3, m4, m5, m6, m7, rfl⟩
  have ec : Ex (TL K) H Hc := Ch.base e5 cc newS
  have zc := z.ex ec
  refine ⟨_, rfl, _, rfl, ?_⟩
  cases mv with
  | false =>
    refine ⟨_, rfl, f, _, a.dx, _, _, rfl, zc.ins, t.c_Fair, t.a_Fair_lists, rfl, a.dl, _, F.A, rfl, .of zc.l, dkv_keys, by omega, fun ys p hperm _ hp => ?_⟩
    have e6 : Ex (TL K) Hc (upd Hc p (.lst (ys.map V.str))) := (Ch.refl ec.tb).new hp
    have lys := hperm.length_eq
    refine ⟨p, rfl, ⟨_, SqL.of upd_same⟩, fun D hD => ?_⟩
    refine lcf walk_list (ls := ys) (by simp) (fun x => decide (x ∈ O1)) V.str e6.tb hD (fun H e => Ex.sqL e (SqL.of upd_same)) (by have := line_big; omega) ?_ ?_
    · intro i x v H1 H2 N M hi e hY hN hM
      obtain ⟨rfl, rfl⟩ := yat hi hY
      refine ⟨rfl, _, rfl, _, rfl, d1, _, rfl, dget_r (x := x) (.of (Ex.k (e6.trans e) hc1)), _, rfl, ?_⟩
      by_cases hx : x ∈ O1
      · rw [if_pos hx]
        exact ⟨_, rfl, hM (decide_eq_true hx) _ (Ch.refl e.tb)⟩
      · rw [if_neg hx]
        exact hN (decide_eq_false hx) _ (Ch.refl e.tb)
    · intro H1 e hD1
      have mm : ∀ x, x ∈ ys.filter (fun x => decide (x ∈ O1)) ↔ x ∈ F.A ∧ x ∈ O1 := fun x => by
        rw [List.mem_filter, hperm.mem_iff, decide_eq_true_eq]
      refine hQ D _ O2 H1 (ec.trans (e6.trans e)) hD1 (Ex.backN (ec.trans e6) (New.of hD)) ((hperm.nodup_iff.mpr ok.A).sublist List.filter_sublist) (fun x h => ((mm x).mp h).1) (fun x h hA => (mm x).mpr ⟨hA, m5 x h⟩) m6 fun x r l => ?_
      rw [mm, ← m7 rfl x r l]
      exact ⟨fun h => h.2, fun h => ⟨l.1, h⟩⟩
  | true =>
    have bnd : ∀ {P1 P2 : List Str}, P1.Nodup → P2.Nodup → (∀ x ∈ P1, x ∈ F.A ++ sA) → (∀ x ∈ P2, x ∈ F.R ++ sR) → P1.length + P2.length ≤ 18 := fun {P1 P2} h1 h2 h3 h4 => by
      have q1 := PM.nodup_sub_len h1 h3
      have q2 := PM.nodup_sub_len h2 h4
      rw [List.length_append] at q1 q2
      omega
    have b0 := bnd m1 m2 m3 m4
    refine ⟨fun σ' H' => ∃ mm', mm' < 1000 - (O1.length + O2.length) ∧ _, fun σ' H' h => h, ?_⟩
    refine ⟨a.dl, _, zc.l, trivial, fun od => ?_⟩
    have r1 : FairR K (upd Hc a.dl (.frz od (.dK (dkv F.A fun x => .ref (a.la x))))) f a F := zc.r.lock zc.l
    have t1 : LamX.Tabs (TL K) (upd Hc a.dl (.frz od (.dK (dkv F.A fun x => .ref (a.la x))))) := tabs_upd ec.tb (by rw [zc.l]; exact nt_dK)
    have q1 : (upd Hc a.dl (.frz od (.dK (dkv F.A fun x => .ref (a.la x))))) d1 = some (.dK (dkv O1 c1)) := by rw [upd_ne (fun h => nl (.inl h.symm))]; exact hc1
    have q2 : (upd Hc a.dl (.frz od (.dK (dkv F.A fun x => .ref (a.la x))))) d2 = some (.dK (dkv O2 c1)) := by rw [upd_ne (fun h => nl (.inr h.symm))]; exact hc2
    have q3 : (upd Hc a.dl (.frz od (.dK (dkv F.A fun x => .ref (a.la x))))) a.do_ = some (.dK (dkv F.R fun x => .ref (a.oa x))) := by rw [upd_ne (Ne.symm ndo)]; exact zc.o
    have q4 : (upd Hc a.dl (.frz od (.dK (dkv F.A fun x => .ref (a.la x))))) a.dl = some (.frz od (.dK (dkv F.A fun x => .ref (a.la x)))) := upd_same
    generalize hL1 : upd Hc a.dl (.frz od (.dK (dkv F.A fun x => .ref (a.la x)))) = L1 at r1 t1 q1 q2 q3 q4 ⊢
    refine ⟨_, rfl, f, _, a.dx, _, _, rfl, r1.ins, t.c_Fair, t.a_Fair_lists, rfl, a.dl, od, rfl, .inl ⟨_, q4, ?_⟩⟩
    have hdS1 : ∀ y, (y = d1 ∨ y = d2) → ∃ kvs, L1 y = some (.dK kvs) := fun y s => by
      rcases s with s | s <;> subst s
      · exact ⟨_, q1⟩
      · exact ⟨_, q2⟩
    refine for_it (walk_keys (kvs := dkv F.A fun x => .ref (a.la x)) (d := a.dl) (o := od)) (fun i σ H' => ∃ (P1 P2 : List Str) (mv : Bool) (u6 u7 u8 : Option V), σ = [some (.ref f), some (.ref pa), some (.ref pr), some (.bl mv), some (.ref d1), some (.ref d2), u6, u7, u8] ∧ Ch (TL K) (fun y => y = d1 ∨ y = d2) L1 H' ∧ H' d1 = some (.dK (dkv P1 c1)) ∧ H' d2 = some (.dK (dkv P2 c1)) ∧
      PJ F sA sR O1 O2 (fun x _ => x ∈ F.A.take i) P1 P2 mv) ?_ ?_ ?_ ?_
    · exact ⟨O1, O2, false, _, _, _, rfl, Ch.refl t1, q1, q2, m1, m2, m3, m4, fun _ h => h, fun _ h => h, fun _ => ⟨rfl, rfl, fun x r h => by simp at h⟩, fun h => (by cases h), Nat.le_refl _⟩
    · rintro i σ H' _ ⟨P1, P2, mv, u6, u7, u8, rfl, cL, _⟩
      exact cL.k q4 nl
    · rintro i v σ Ho Ho' hi ⟨P1, P2, mv, u6, u7, u8, rfl, cL, p1, p2, J⟩ hY
      obtain ⟨rfl, kx, vx, hkx, rfl⟩ := hY
      obtain ⟨x, hx, rfl, rfl⟩ := dkv_of hkx
      have rO : FairR K Ho' f a F := r1.chS cL hdS1 nl no
      have o3 : Ho' a.do_ = some (.dK (dkv F.R fun x => .ref (a.oa x))) := cL.k q3 no
      refine ⟨a.do_, _, o3, trivial, fun od2 => ?_⟩
      have r2 := rO.lock (od := od2) o3
      have t2 : LamX.Tabs (TL K) (upd Ho' a.do_ (.frz od2 (.dK (dkv F.R fun x => .ref (a.oa x))))) := tabs_upd cL.tb (by rw [o3]; exact nt_dK)
      have w1 : (upd Ho' a.do_ (.frz od2 (.dK (dkv F.R fun x => .ref (a.oa x))))) d1 = some (.dK (dkv P1 c1)) := by rw [upd_ne (fun h => no (.inl h.symm))]; exact p1
      have w2 : (upd Ho' a.do_ (.frz od2 (.dK (dkv F.R fun x => .ref (a.oa x))))) d2 = some (.dK (dkv P2 c1)) := by rw [upd_ne (fun h => no (.inr h.symm))]; exact p2
      have w3 : (upd Ho' a.do_ (.frz od2 (.dK (dkv F.R fun x => .ref (a.oa x))))) a.do_ = some (.frz od2 (.dK (dkv F.R fun x => .ref (a.oa x)))) := upd_same
      generalize hL2 : upd Ho' a.do_ (.frz od2 (.dK (dkv F.R fun x => .ref (a.oa x)))) = L2 at r2 t2 w1 w2 w3 ⊢
      have hdS2 : ∀ y, (y = d1 ∨ y = d2) → ∃ kvs, L2 y = some (.dK kvs) := fun y s => by
        rcases s with s | s <;> subst s
        · exact ⟨_, w1⟩
        · exact ⟨_, w2⟩
      refine ⟨_, rfl, f, _, a.dx, _, _, rfl, r2.ins, t.c_Fair, t.a_Fair_orders, rfl, a.do_, od2, rfl, .inl ⟨_, w3, ?_⟩⟩
      refine for_it (walk_keys (kvs := dkv F.R fun x => .ref (a.oa x)) (d := a.do_) (o := od2)) (fun j σ H' => ∃ (P1 P2 : List Str) (mv : Bool) (u7 u8 : Option V), σ = [some (.ref f), some (.ref pa), some (.ref pr), some (.bl mv), some (.ref d1), some (.ref d2), some (.str x), u7, u8] ∧ Ch (TL K) (fun y => y = d1 ∨ y = d2) L2 H' ∧ H' d1 = some (.dK (dkv P1 c1)) ∧ H' d2 = some (.dK (dkv P2 c1)) ∧
        PJ F sA sR O1 O2 (fun x' r' => x' ∈ F.A.take i ∨ (x' = x ∧ r' ∈ F.R.take j)) P1 P2 mv) ?_ ?_ ?_ ?_
      · refine ⟨P1, P2, mv, _, _, rfl, Ch.refl t2, w1, w2, J.n1, J.n2, J.s1, J.s2, J.g1, J.g2, fun h => ?_, J.yes, J.ge⟩
        obtain ⟨g1, g2, g3⟩ := J.no h
        refine ⟨g1, g2, fun x' r' q l => g3 x' r' ?_ l⟩
        rcases q with q | ⟨_, q⟩
        · exact q
        · simp at q
      · rintro j σ H' _ ⟨P1, P2, mv, u7, u8, rfl, cL, _⟩
        exact cL.k w3 no
      · rintro j v σ Hi Hi' hj ⟨P1, P2, mv, u7, u8, rfl, cI, i1, i2, J⟩ hY
        obtain ⟨rfl, kr, vr, hkr, rfl⟩ := hY
        obtain ⟨r, hr0, rfl, rfl⟩ := dkv_of hkr
        have rI : FairR K Hi' f a F := r2.chS cI hdS2 (fun s => nl s) (fun s => no s)
        have sn : ∀ x' r', (x' ∈ F.A.take i ∨ (x' = x ∧ r' ∈ F.R.take (j + 1))) → (x' ∈ F.A.take i ∨ (x' = x ∧ r' ∈ F.R.take j)) ∨ (x' = x ∧ r' = r) := fun x' r' h => by
          rcases h with h | ⟨h1, h2⟩
          · exact .inl (.inl h)
          · rw [take_snoc hr0] at h2
            rcases List.mem_append.mp h2 with h2 | h2
            · exact .inl (.inr ⟨h1, h2⟩)
            · exact .inr ⟨h1, List.mem_singleton.mp h2⟩
        refine ⟨_, rfl, f, _, _, rfl, rI.ins, rfl, _, rfl, _, rfl, f, a, F, x, r, rfl, rI, _, rfl, ?_⟩
        cases hl : likesB F x r with
        | false => exact ⟨P1, P2, mv, _, _, rfl, cI, i1, i2, J.step sn fun l => by rw [← likesB_iff, hl] at l; cases l⟩
        | true =>
          have lk : F.M.likes x r := likesB_iff.mp hl
          refine ⟨_, rfl, _, rfl, d1, _, rfl, dget_r (x := x) (.of i1), _, rfl, _, rfl, d2, _, rfl, dget_r (x := r) (.of i2), rfl, _, rfl, ?_⟩
          have es : (!decide (V.bl (if x ∈ P1 then some (c1 x) else none).isSome = V.bl (if r ∈ P2 then some (c1 r) else none).isSome)) = !decide (x ∈ P1 ↔ r ∈ P2) := by
            by_cases h1 : x ∈ P1 <;> by_cases h2 : r ∈ P2 <;> simp [h1, h2]
          rw [es]
          by_cases hb : (x ∈ P1 ↔ r ∈ P2)
          · rw [decide_eq_true hb]
            exact ⟨P1, P2, mv, _, _, rfl, cI, i1, i2, J.step sn fun _ => hb⟩
          · rw [decide_eq_false hb]
            have bl := bnd J.n1 J.n2 J.s1 J.s2
            refine ⟨_, rfl, _, rfl, d1, _, rfl, dput_c i1 (by omega), ?_⟩
            have cJ : Ch (TL K) (fun y => y = d1 ∨ y = d2) L2 (upd Hi' d1 (.dK (dkv (ins1 P1 x) c1))) := Ch.putN cI i1 nt_dK (.inr (.inl rfl))
            have i2' : (upd Hi' d1 (.dK (dkv (ins1 P1 x) c1))) d2 = some (.dK (dkv P2 c1)) := by rw [upd_ne (Ne.symm n12)]; exact i2
            refine ⟨_, rfl, _, rfl, d2, _, rfl, dput_c i2' (by omega), ?_⟩
            refine ⟨_, _, true, _, _, rfl, Ch.putN cJ i2' nt_dK (.inr (.inr rfl)), ?_, upd_same, J.put lk hb⟩
            rw [upd_ne n12]; exact upd_same
      · rintro σ H' ⟨P1, P2, mv, u7, u8, rfl, cI, i1, i2, J⟩
        have w4 : H' a.do_ = some (.frz od2 (.dK (dkv F.R fun x => .ref (a.oa x)))) := cI.k w3 no
        subst hL2
        have cb := Ch.lock o3 cI w4
        refine ⟨w4, P1, P2, mv, _, _, _, rfl, cL.trans cb, by rw [upd_ne (fun h => no (.inl h.symm))]; exact i1, by rw [upd_ne (fun h => no (.inr h.symm))]; exact i2, J.n1, J.n2, J.s1, J.s2, J.g1, J.g2, fun h => ?_, J.yes, J.ge⟩
        obtain ⟨g1, g2, g3⟩ := J.no h
        refine ⟨g1, g2, fun x' r' q l => g3 x' r' ?_ l⟩
        rw [take_snoc hx] at q
        rcases List.mem_append.mp q with q | q
        · exact .inl q
        · refine .inr ⟨List.mem_singleton.mp q, ?_⟩
          have : F.R.take (dkv F.R fun x => V.ref (a.oa x)).length = F.R := by rw [dkv_len, List.take_length]
          rw [this]
          exact l.2.1
    · rintro σ H' ⟨P1, P2, mv, u6, u7, u8, rfl, cL, p1, p2, J⟩
      have q5 : H' a.dl = some (.frz od (.dK (dkv F.A fun x => .ref (a.la x)))) := cL.k q4 nl
      subst hL1
      have cb := Ch.lock zc.l cL q5
      have bl := bnd J.n1 J.n2 J.s1 J.s2
      refine ⟨q5, _, ?_, P1, P2, mv, _, _, _, rfl, cc.trans cb, by rw [upd_ne (fun h => nl (.inl h.symm))]; exact p1, by rw [upd_ne (fun h => nl (.inr h.symm))]; exact p2, J.n1, J.n2, J.s1, J.s2, fun x h => J.g1 x (m5 x h), fun x h => J.g2 x (m6 x h), fun h x r l => ?_, rfl⟩
      · cases mv with
        | false => simp only [Bool.false_eq_true, if_false, if_true]; omega
        | true =>
          have := J.yes rfl
          simp only [if_true]
          omega
      · obtain ⟨g1, g2, g3⟩ := J.no h
        rw [g1, g2]
        refine g3 x r ?_ l
        have : F.A.take (dkv F.A fun x => V.ref (a.la x)).length = F.A := by rw [dkv_len, List.take_length]
        rw [this]
        exact l.1
end
end PMT

set_option Elab.async false
set_option linter.all false
set_option maxRecDepth 100000
set_option maxHeartbeats 2000000
/-! V6: a fair by numbers. -/
namespace PMT
open PySem PySem.Spec PyProof.Rows L2
theorem idx_first {l : List Str} {x : Str} : ∀ m, m < l.idxOf x → l[m]? ≠ some x := fun m hm e => by
  obtain ⟨hm2, e2⟩ := List.getElem?_eq_some_iff.mp e
  have := List.not_of_lt_findIdx (p := fun b => b == x) (xs := l) (i := m) hm
  rw [e2] at this
  simp at this
def mktN (F : FS) (ys rs : List Str) : NM := ⟨ys.map fun x => ((F.lst x).filter fun r => decide (r ∈ rs)).map fun r => rs.idxOf r, rs.map fun r => ((F.ord r).filter fun x => decide (x ∈ ys)).map fun x => ys.idxOf x, rs.map F.q⟩
theorem nodup_mapOn {α β : Type} {f : α → β} : ∀ {l : List α}, l.Nodup → (∀ a ∈ l, ∀ b ∈ l, f a = f b → a = b) → (l.map f).Nodup
  | [], _, _ => .nil
  | a :: r, h, hi => by
    rw [List.map_cons, List.nodup_cons]
    have h' := List.nodup_cons.mp h
    refine ⟨fun z => ?_, nodup_mapOn h'.2 fun x hx y hy => hi x (List.mem_cons_of_mem _ hx) y (List.mem_cons_of_mem _ hy)⟩
    obtain ⟨b, hb, e⟩ := List.mem_map.mp z
    have := hi b (List.mem_cons_of_mem _ hb) a List.mem_cons_self e
    rw [this] at hb
    exact h'.1 hb
theorem mktN_ok {F : FS} (ok : F.Ok) {ys rs : List Str} (hy : ys.Perm F.A) (hr : rs.Perm F.R) : (mktN F ys rs).Ok := by
  have ly := hy.length_eq
  have lr := hr.length_eq
  have oka := ok.a
  have okr := ok.r
  refine ⟨fun l hl => ?_, fun l hl => ?_, by simp [mktN], by simp [mktN]; omega, by simp [mktN]; omega⟩
  · obtain ⟨x, hx, rfl⟩ := List.mem_map.mp hl
    have hxA := hy.mem_iff.mp hx
    refine ⟨nodup_mapOn ((ok.lst x hxA).1.sublist List.filter_sublist) fun a ha b hb e => ?_, ?_, fun r hr2 => ?_⟩
    · rw [List.mem_filter, decide_eq_true_eq] at ha
      exact PM.idx_inj ha.2 e
    · rw [List.length_map]
      have := List.length_filter_le (fun r => decide (r ∈ rs)) (F.lst x)
      have := (ok.lst x hxA).2
      omega
    · obtain ⟨a, ha, rfl⟩ := List.mem_map.mp hr2
      rw [List.mem_filter, decide_eq_true_eq] at ha
      have := List.idxOf_lt_length_of_mem ha.2
      simpa [mktN] using this
  · obtain ⟨r, hr1, rfl⟩ := List.mem_map.mp hl
    have hrR := hr.mem_iff.mp hr1
    refine ⟨nodup_mapOn ((ok.ord r hrR).1.sublist List.filter_sublist) fun a ha b hb e => ?_, ?_, fun x hx2 => ?_⟩
    · rw [List.mem_filter, decide_eq_true_eq] at ha
      exact PM.idx_inj ha.2 e
    · rw [List.length_map]
      have := List.length_filter_le (fun x => decide (x ∈ ys)) (F.ord r)
      have := (ok.ord r hrR).2
      omega
    · obtain ⟨a, ha, rfl⟩ := List.mem_map.mp hx2
      rw [List.mem_filter, decide_eq_true_eq] at ha
      have := List.idxOf_lt_length_of_mem ha.2
      simpa [mktN] using this
def byN (F : FS) (ys rs : List Str) : List (Option Nat) := ys.map fun x => (F.held x).map fun r => rs.idxOf r
section
variable {P : Program} {w : World} {K : PySem.W.Frag} {mg : Str → Option Value} {base : Heap}
def spByN (K : PySem.W.Frag) : Sp := fun vs H Q _ => ∃ (f : Addr) (a : FA) (F : FS), vs = [.ref f] ∧ FairAt K H f a F ∧ F.Ok ∧ (∀ x ∈ F.A, ∀ r, F.held x = some r → r ∈ F.R) ∧ LamX.Tabs (TL K) H ∧ ∀ (p : Addr) (ys rs : List Str) (H' : Hp), Ex (TL K) H H' → ys.Perm F.A → sortedS ys = true → rs.Perm F.R → sortedS rs = true → SqT K H' p ((byN F ys rs).map ov) → Q (.ref p) H'
theorem ok_Fair_by_numbers (t : TX K mg base) : Does P w K mg base CX0 3 ("Fair", some "by_numbers") ["self"] (spByN K) := by
  obtain ⟨fd_Fair_names, G_Fair_names, b_Fair_names, p_Fair_names⟩ := ok_Fair_names (P := P) (w := w) t
  have nd := (sc_Fair_by_numbers).nd
  refine t.do_Fair_by_numbers (fun vs H Q E h => by obtain ⟨_, _, _, rfl, _⟩ := h; rfl) fun A outer s H vs Q E hr h => ⟨_, PSs.nox ((pss_cons (ps_asg (pe_meth0 (pv 0) t.c_Fair t.m_Fair_names G_Fair_names (hr.mono (by decide)) b_Fair_names .nil pass0) (pg_tup rfl (pgs_cons (pg_name (i := 1) nd rfl (Or.inl rfl)) (pgs_cons (pg_name (i := 2) nd rfl (Or.inr rfl)) pgs_nil)))) (pss_one (ps_ret (pe_callTy (call_tupleK K rfl) (by rfl) t.n_tuple (by decide +kernel) (pa_cons (pe_lc (X := ((X_Fair_by_numbers CX0 P w K mg base A outer s H E).nox)) (own := [("asker", 3)]) (g := (gName 3)) rfl nd (pi_tupK K rfl (pv 1)) (blkOk_by (own := [("asker", 3)]) (N := ["self", "askers", "rooms", "asker"]) (sc := defScope PMH.s_Fair_by_numbers) (by decide +kernel)) (fun s1 H1 C1 l1 p1 => (pg_name (i := 3) nd rfl (Or.inl rfl))) (fun s1 H1 C1 l1 p1 => pts_nil) (fun s1 H1 C1 l1 p1 => (pe_ifExp (pt_cmpR op_isN (pe_dget (hu_of hr) (pe_fldK K rfl (pv 0) rfl) (pv 3) (fun _ _ => rfl)) pe_non (nomark _)) pe_non (pe_bmT PySem.F.plainAttrs_tuple PySem.F.slot_tuple_index PySem.F.type_tuple_index (mt_tup_indexK K rfl) (pv 2) (pa_cons (pe_dget (hu_of hr) (pe_fldK K rfl (pv 0) rfl) (pv 3) (fun _ _ => rfl)) pa_nil))))) pa_nil)))))), ?_⟩
  obtain ⟨f, a, F, rfl, z, ok, hR, hT, hQ⟩ := h
  refine ⟨_, rfl, f, _, _, rfl, z.ins, rfl, f, a, F, rfl, z, ok, hT, fun p pa pr ys rs H1 e1 hy sy hr0 sr hp hpa hpr => ?_⟩
  refine ⟨p, _, rfl, hp, rfl, _, _, rfl, _, _, rfl, rfl, ?_⟩
  have z1 := z.ex e1
  have ly := hy.length_eq
  refine ⟨_, rfl, pa, rfl, ⟨_, hpa.t⟩, fun D hD => ?_⟩
  refine lcf walk_tup (ls := ys) (by simp) (fun _ => true) (fun x => ov ((F.held x).map fun r => rs.idxOf r)) e1.tb hD (fun H e => Ex.sqT e hpa.t) (by rw [ly]; exact small8 ok.a) ?_ ?_
  · intro i x v H2 H3 N M hi e hY hN hM
    obtain ⟨rfl, rfl⟩ := yat hi hY
    have hx : x ∈ F.A := hy.mem_iff.mp (List.mem_of_getElem? hi)
    have z2 := z1.ex e
    refine ⟨rfl, _, rfl, f, _, a.dx, _, _, rfl, z2.ins, t.c_Fair, t.a_Fair_held, rfl, _, rfl, a.dh, _, rfl, dget_in (.of z2.h) hx, rfl, _, rfl, ?_⟩
    cases hh : F.held x with
    | none =>
      have := hM rfl H3 (Ch.refl e.tb)
      rw [hh] at this
      exact this
    | some r =>
      have hr1 : r ∈ rs := hr0.mem_iff.mpr (hR x hx r hh)
      have hd := dget_in (.of z2.h) hx
      rw [hh] at hd
      refine ⟨_, rfl, ⟨pr, _, rfl, hpr.ex e⟩, ?_⟩
      refine ⟨_, rfl, f, _, a.dx, _, _, rfl, z2.ins, t.c_Fair, t.a_Fair_held, rfl, _, rfl, a.dh, _, rfl, hd, pr, rs, r, rs.idxOf r, rfl, rfl, (hpr.ex e).t, PM.get?_idx hr1, idx_first, ?_⟩
      have := hM rfl H3 (Ch.refl e.tb)
      rw [hh] at this
      exact this
  · intro H2 e hD2
    rw [filter_yes] at hD2
    refine ⟨D, _, rfl, .inl ⟨SqL.of hD2, fun q hq => ?_⟩⟩
    refine hQ q ys rs _ (e1.trans (e.new hq)) hy sy hr0 sr (SqT.of ?_)
    unfold byN
    rw [List.map_map]
    exact upd_same
def spAsM (K : PySem.W.Frag) : Sp := fun vs H Q _ => ∃ (f : Addr) (a : FA) (F : FS), vs = [.ref f] ∧ FairAt K H f a F ∧ F.Ok ∧ LamX.Tabs (TL K) H ∧ ∀ (x : Addr) (ys rs : List Str) (H' : Hp), Ex (TL K) H H' → ys.Perm F.A → sortedS ys = true → rs.Perm F.R → sortedS rs = true → MktAt K H' x (mktN F ys rs) → Q (.ref x) H'
theorem ok_Fair_as_market (t : TX K mg base) : Does P w K mg base CX0 8 ("Fair", some "as_market") ["self"] (spAsM K) := by
  obtain ⟨fd_Fair_names, G_Fair_names, b_Fair_names, p_Fair_names⟩ := ok_Fair_names (P := P) (w := w) t
  obtain ⟨fd_Market_init, G_Market_init, b_Market_init, p_Market_init⟩ := ok_Market_init (P := P) (w := w) t
  have nd := (sc_Fair_as_market).nd
  refine t.do_Fair_as_market (fun vs H Q E h => by obtain ⟨_, _, _, rfl, _⟩ := h; rfl) fun A outer s H vs Q E hr h => ⟨_, PSs.nox ((pss_cons (ps_asg (pe_meth0 (pv 0) t.c_Fair t.m_Fair_names G_Fair_names (hr.mono (by decide)) b_Fair_names .nil pass0) (pg_tup rfl (pgs_cons (pg_name (i := 3) nd rfl (Or.inr rfl)) (pgs_cons (pg_name (i := 4) nd rfl (Or.inr rfl)) pgs_nil)))) (pss_cons (ps_setLc (X := ((X_Fair_as_market CX0 P w K mg base A outer s H E).nox)) (i := 1) (own := [("asker", 5)]) (g := (gName 5)) rfl nd rfl rfl (sw_true rfl rfl rfl (by decide +kernel)) (pi_tupK K rfl (pv 3)) (blkOk_by (own := [("asker", 5)]) (N := ["self", "lists", "orders", "askers", "rooms", "asker", "room"]) (sc := defScope PMH.s_Fair_as_market) (by decide +kernel)) (fun s1 H1 C1 l1 p1 => (pg_name (i := 5) nd rfl (Or.inl rfl))) (fun s1 H1 C1 l1 p1 => pts_nil) (fun s1 H1 C1 l1 p1 => (pe_lc (X := (Cx.blk ((X_Fair_as_market CX0 P w K mg base A outer s H E).nox) s1 H1 _ (compEnvC _ l1 C1 ((X_Fair_as_market CX0 P w K mg base A outer s H E).nox).env) p1)) (own := [("room", 6)]) (g := (gName 6)) rfl nd (pi_tupK K rfl (pe_dget (hu_of hr) (pe_fldK K rfl (pv 0) rfl) (pv 5) (fun _ _ => rfl))) (blkOk_by (by rfl)) (fun s2 H2 C2 l2 p2 => (pg_name (i := 6) nd rfl (Or.inl rfl))) (fun s2 H2 C2 l2 p2 => (pts_one (pt_cmpR (op_inK K rfl) (pv 6) (pv 4) (by rfl)))) (fun s2 H2 C2 l2 p2 => (pe_bmT PySem.F.plainAttrs_tuple PySem.F.slot_tuple_index PySem.F.type_tuple_index (mt_tup_indexK K rfl) (pv 4) (pa_cons (pv 6) pa_nil)))))) (pss_cons (ps_setLc (X := ((X_Fair_as_market CX0 P w K mg base A outer s H E).nox)) (i := 2) (own := [("room", 6)]) (g := (gName 6)) rfl nd rfl rfl (sw_true rfl rfl rfl (by decide +kernel)) (pi_tupK K rfl (pv 4)) (blkOk_by (own := [("room", 6)]) (N := ["self", "lists", "orders", "askers", "rooms", "asker", "room"]) (sc := defScope PMH.s_Fair_as_market) (by decide +kernel)) (fun s1 H1 C1 l1 p1 => (pg_name (i := 6) nd rfl (Or.inl rfl))) (fun s1 H1 C1 l1 p1 => pts_nil) (fun s1 H1 C1 l1 p1 => (pe_lc (X := (Cx.blk ((X_Fair_as_market CX0 P w K mg base A outer s H E).nox) s1 H1 _ (compEnvC _ l1 C1 ((X_Fair_as_market CX0 P w K mg base A outer s H E).nox).env) p1)) (own := [("asker", 5)]) (g := (gName 5)) rfl nd (pi_tupK K rfl (pe_dget (hu_of hr) (pe_fldK K rfl (pv 0) rfl) (pv 6) (fun _ _ => rfl))) (blkOk_by (by rfl)) (fun s2 H2 C2 l2 p2 => (pg_name (i := 5) nd rfl (Or.inl rfl))) (fun s2 H2 C2 l2 p2 => (pts_one (pt_cmpR (op_inK K rfl) (pv 5) (pv 3) (by rfl)))) (fun s2 H2 C2 l2 p2 => (pe_bmT PySem.F.plainAttrs_tuple PySem.F.slot_tuple_index PySem.F.type_tuple_index (mt_tup_indexK K rfl) (pv 3) (pa_cons (pv 5) pa_nil)))))) (pss_one (ps_ret (pe_make t.k_Market G_Market_init (hr.mono (by decide)) (by rfl) t.g_Market b_Market_init .nil pass0 (pa_cons (pv 1) (pa_cons (pv 2) (pa_cons (pe_lc (X := ((X_Fair_as_market CX0 P w K mg base A outer s H E).nox)) (own := [("room", 6)]) (g := (gName 6)) rfl nd (pi_tupK K rfl (pv 4)) (blkOk_by (own := [("room", 6)]) (N := ["self", "lists", "orders", "askers", "rooms", "asker", "room"]) (sc := defScope PMH.s_Fair_as_market) (by decide +kernel)) (fun s1 H1 C1 l1 p1 => (pg_name (i := 6) nd rfl (Or.inl rfl))) (fun s1 H1 C1 l1 p1 => pts_nil) (fun s1 H1 C1 l1 p1 => (pe_dget (hu_of hr) (pe_fldK K rfl (pv 0) rfl) (pv 6) (fun _ _ => rfl)))) pa_nil)))))))))), ?_⟩
  obtain ⟨f, a, F, rfl, z, ok, hT, hQ⟩ := h
  refine ⟨_, rfl, f, _, _, rfl, z.ins, rfl, f, a, F, rfl, z, ok, hT, fun p pa pr ys rs H1 e1 hy sy hr0 sr hp hpa hpr => ?_⟩
  refine ⟨p, _, rfl, hp, rfl, _, _, rfl, _, _, rfl, rfl, ?_⟩
  have z1 := z.ex e1
  have ly := hy.length_eq
  have lr := hr0.length_eq
  refine ⟨_, rfl, pa, rfl, ⟨_, hpa.t⟩, fun D1 hD1 => ?_⟩
  refine lcx walk_tup (ls := ys) (by simp) (fun _ => true) (fun x v H => ∃ q, v = V.ref q ∧ q ≠ D1 ∧ H q = some (.lst ((((F.lst x).filter fun r => decide (r ∈ rs)).map fun r => rs.idxOf r).map iv))) e1.tb hD1 (fun H e => Ex.sqT e hpa.t) (by have := ok.a; have := ok.r; have := line_big; omega) ?_ ?_ ?_
  · intro x y H H' c _ ⟨q, e, hn, hq⟩
    exact ⟨q, e, hn, c.k hq hn⟩
  · intro i x v H2 H3 N M hi e hY ⟨zs, hz⟩ hN hM
    obtain ⟨rfl, rfl⟩ := yat hi hY
    have hx : x ∈ F.A := hy.mem_iff.mp (List.mem_of_getElem? hi)
    have z2 := z1.ex e
    have hsrc := z2.lt x hx
    refine ⟨rfl, _, rfl, f, _, a.dx, _, _, rfl, z2.ins, t.c_Fair, t.a_Fair_lists, rfl, _, rfl, a.dl, _, rfl, dget_in (.of z2.l) hx, a.la x, rfl, ⟨_, hsrc⟩, fun Di hDi => ?_⟩
    have nD : Di ≠ D1 := fun z => by subst z; rw [hz] at hDi; cases hDi
    refine lcf walk_tup (ls := F.lst x) (by simp) (fun r => decide (r ∈ rs)) (fun r => iv (rs.idxOf r)) e.tb hDi (fun H e => Ex.sqT e hsrc) (by have := (ok.lst x hx).2; have := line_big; omega) ?_ ?_
    · intro j r v H4 H5 N' M' hj e4 hY hN' hM'
      obtain ⟨rfl, rfl⟩ := yat hj hY
      have hp2 := hpr.ex (e.trans e4)
      refine ⟨rfl, _, rfl, _, rfl, pr, _, rfl, .inr hp2.t, rfl, flat_str, _, rfl, ?_⟩
      simp only [Bool.false_eq_true, if_false, inV_str]
      by_cases hr2 : r ∈ rs
      · rw [decide_eq_true hr2]
        exact ⟨_, rfl, ⟨pr, _, rfl, hp2⟩, _, rfl, pr, rs, r, rs.idxOf r, rfl, rfl, hp2.t, PM.get?_idx hr2, idx_first, hM' (decide_eq_true hr2) _ (Ch.refl e4.tb)⟩
      · rw [decide_eq_false hr2]
        exact hN' (decide_eq_false hr2) _ (Ch.refl e4.tb)
    · intro H4 e4 hD4
      exact hM rfl _ _ e4 ⟨Di, rfl, nD, by rw [hD4, List.map_map]; rfl⟩
  intro H2 ysv e2 hDl hys2
  rw [filter_yes] at hys2
  obtain ⟨as, rfl, has⟩ := refs_of hys2
  have e12 := e1.trans e2
  have z2 := z1.ex e2
  refine ⟨_, rfl, pr, rfl, ⟨_, (hpr.ex e2).t⟩, fun D2 hD2 => ?_⟩
  refine lcx walk_tup (ls := rs) (by simp) (fun _ => true) (fun x v H => ∃ q, v = V.ref q ∧ q ≠ D2 ∧ H q = some (.lst ((((F.ord x).filter fun r => decide (r ∈ ys)).map fun r => ys.idxOf r).map iv))) e12.tb hD2 (fun H e => Ex.sqT e (hpr.ex e2).t) (by have := ok.a; have := ok.r; have := line_big; omega) ?_ ?_ ?_
  · intro x y H H' c _ ⟨q, e, hn, hq⟩
    exact ⟨q, e, hn, c.k hq hn⟩
  · intro i x v H2 H3 N M hi e hY ⟨zs, hz⟩ hN hM
    obtain ⟨rfl, rfl⟩ := yat hi hY
    have hx : x ∈ F.R := hr0.mem_iff.mp (List.mem_of_getElem? hi)
    have z2 := z2.ex e
    have hsrc := z2.ot x hx
    refine ⟨rfl, _, rfl, f, _, a.dx, _, _, rfl, z2.ins, t.c_Fair, t.a_Fair_orders, rfl, _, rfl, a.do_, _, rfl, dget_in (.of z2.o) hx, a.oa x, rfl, ⟨_, hsrc⟩, fun Di hDi => ?_⟩
    have nD : Di ≠ D2 := fun z => by subst z; rw [hz] at hDi; cases hDi
    refine lcf walk_tup (ls := F.ord x) (by simp) (fun r => decide (r ∈ ys)) (fun r => iv (ys.idxOf r)) e.tb hDi (fun H e => Ex.sqT e hsrc) (by have := (ok.ord x hx).2; have := line_big; omega) ?_ ?_
    · intro j r v H4 H5 N' M' hj e4 hY hN' hM'
      obtain ⟨rfl, rfl⟩ := yat hj hY
      have hp2 := (hpa.ex e2).ex (e.trans e4)
      refine ⟨rfl, _, rfl, _, rfl, pa, _, rfl, .inr hp2.t, rfl, flat_str, _, rfl, ?_⟩
      simp only [Bool.false_eq_true, if_false, inV_str]
      by_cases hr2 : r ∈ ys
      · rw [decide_eq_true hr2]
        exact ⟨_, rfl, ⟨pa, _, rfl, hp2⟩, _, rfl, pa, ys, r, ys.idxOf r, rfl, rfl, hp2.t, PM.get?_idx hr2, idx_first, hM' (decide_eq_true hr2) _ (Ch.refl e4.tb)⟩
      · rw [decide_eq_false hr2]
        exact hN' (decide_eq_false hr2) _ (Ch.refl e4.tb)
    · intro H4 e4 hD4
      exact hM rfl _ _ e4 ⟨Di, rfl, nD, by rw [hD4, List.map_map]; rfl⟩
  intro H3 rsv e3 hD3 hrs3
  rw [filter_yes] at hrs3
  obtain ⟨bs, rfl, hbs⟩ := refs_of hrs3
  have e23 := e2.trans e3
  have e13 := e1.trans e23
  have z3 := z2.ex e3
  refine ⟨_, rfl, _, rfl, _, rfl, pr, rfl, ⟨_, (hpr.ex e23).t⟩, fun D3 hD3' => ?_⟩
  refine lcf walk_tup (ls := rs) (by simp) (fun _ => true) (fun r => iv (F.q r)) e13.tb hD3' (fun H e => Ex.sqT e (hpr.ex e23).t) (by have := ok.r; have := line_big; omega) ?_ ?_
  · intro i r v H4 H5 N M hi e hY hN hM
    obtain ⟨rfl, rfl⟩ := yat hi hY
    have hr1 : r ∈ F.R := hr0.mem_iff.mp (List.mem_of_getElem? hi)
    have z4 := z3.ex e
    exact ⟨rfl, _, rfl, f, _, a.dx, _, _, rfl, z4.ins, t.c_Fair, t.a_Fair_seats, rfl, _, rfl, a.ds, _, rfl, dget_in (.of z4.s) hr1, hM rfl _ (Ch.refl e.tb)⟩
  · intro H4 e4 hD4
    rw [filter_yes] at hD4
    have e14 := e13.trans e4
    have hA : Paired (fun p l => H4 p = some (.lst (l.map iv))) as (mktN F ys rs).ls := by
      refine Paired.mapR (g := fun x => ((F.lst x).filter fun r => decide (r ∈ rs)).map fun r => rs.idxOf r) (Paired.flip (Paired.mapP has fun x q z => ?_))
      exact Ex.k (e3.trans e4) z.2
    have hB : Paired (fun p l => H4 p = some (.lst (l.map iv))) bs (mktN F ys rs).os := by
      refine Paired.mapR (g := fun r => ((F.ord r).filter fun x => decide (x ∈ ys)).map fun x => ys.idxOf x) (Paired.flip (Paired.mapP hbs fun x q z => ?_))
      exact Ex.k e4 z.2
    intro x dx hx hdx hne
    have f1 : Ex (TL K) H4 (upd H4 dx (.own x)) := (Ch.refl e14.tb).new hdx
    have hx1 : upd H4 dx (.own x) x = none := by rw [upd_ne (Ne.symm hne)]; exact hx
    have f2 : Ex (TL K) H4 (upd (upd H4 dx (.own x)) x (.ins (He.ga K "Market") dx [])) := f1.new hx1
    refine ⟨x, D1, D2, D3, dx, as, bs, mktN F ys rs, rfl, upd_same, Ex.k ((e3.trans e4).trans f2) hDl, Ex.k (e4.trans f2) hD3, Ex.k f2 (by rw [hD4]; simp [mktN]), Paired.mapP hA fun _ _ z => Ex.k f2 z, Paired.mapP hB fun _ _ z => Ex.k f2 z, mktN_ok ok hy hr0, f2.tb, fun H5 c5 hm => ⟨rfl, ?_⟩⟩
    exact hQ x ys rs _ (e14.trans (Ch.made c5 hx hdx)) hy sy hr0 sr hm
end
end PMT

set_option Elab.async false
set_option linter.all false
/-! M4: markets of words as markets of numbers; every matching. Plain Lean. -/
namespace PM
section
variable {α β α' β' : Type} [DecidableEq α] [DecidableEq β] [DecidableEq α'] [DecidableEq β']
/-- one market stands for another -/
structure Hom (M : Mkt α β) (M' : Mkt α' β') (φ : α → α') (ψ : β → β') : Prop where
  inA : ∀ a ∈ M.A, ∀ b ∈ M.A, φ a = φ b → a = b
  inR : ∀ a ∈ M.R, ∀ b ∈ M.R, ψ a = ψ b → a = b
  sur : ∀ a' ∈ M'.A, ∃ a ∈ M.A, φ a = a'
  mA : ∀ a ∈ M.A, φ a ∈ M'.A
  likes : ∀ a r, M.likes a r → M'.likes (φ a) (ψ r)
  back : ∀ a' r', M'.likes a' r' → ∃ a r, M.likes a r ∧ φ a = a' ∧ ψ r = r'
  q : ∀ r ∈ M.R, M'.q (ψ r) = M.q r
  lst : ∀ a r s, M.likes a r → M.likes a s → ((M'.lst (φ a)).idxOf (ψ s) < (M'.lst (φ a)).idxOf (ψ r) ↔ (M.lst a).idxOf s < (M.lst a).idxOf r)
  ord : ∀ a b r, M.likes a r → M.likes b r → ((M'.ord (ψ r)).idxOf (φ b) < (M'.ord (ψ r)).idxOf (φ a) ↔ (M.ord r).idxOf b < (M.ord r).idxOf a)
theorem nodup_mapI {f : α → β} : ∀ {l : List α}, l.Nodup → (∀ a ∈ l, ∀ b ∈ l, f a = f b → a = b) → (l.map f).Nodup
  | [], _, _ => .nil
  | a :: r, h, hi => by
    rw [List.map_cons, List.nodup_cons]
    have h' := List.nodup_cons.mp h
    refine ⟨fun z => ?_, nodup_mapI h'.2 fun x hx y hy => hi x (List.mem_cons_of_mem _ hx) y (List.mem_cons_of_mem _ hy)⟩
    obtain ⟨b, hb, e⟩ := List.mem_map.mp z
    have := hi b (List.mem_cons_of_mem _ hb) a List.mem_cons_self e
    rw [this] at hb
    exact h'.1 hb
theorem Hom.rej {M : Mkt α β} {M' : Mkt α' β'} {φ : α → α'} {ψ : β → β'} (h : Hom M M' φ ψ) {a : α} {r : β} (R : Rej M a r) : M.likes a r → Rej M' (φ a) (ψ r) := by
  induction R with
  | mk a r S nd len by_ up ih =>
    intro lk
    refine .mk _ _ (S.map φ) (nodup_mapI nd fun x hx y hy => h.inA x (by_ x hx).1.1 y (by_ y hy).1.1) (by rw [List.length_map, len, h.q r lk.2.1]) ?_ ?_
    · intro b' hb'
      obtain ⟨b, hb, rfl⟩ := List.mem_map.mp hb'
      exact ⟨h.likes b r (by_ b hb).1, (h.ord a b r lk (by_ b hb).1).mpr (by_ b hb).2⟩
    · intro b' hb' r' hl' hlt
      obtain ⟨b, hb, rfl⟩ := List.mem_map.mp hb'
      obtain ⟨b2, r2, hl2, e1, e2⟩ := h.back _ _ hl'
      have := h.inA b2 hl2.1 b (by_ b hb).1.1 e1
      subst this e2
      exact ih b2 hb r2 hl2 ((h.lst b2 r r2 (by_ b2 hb).1 hl2).mp hlt) hl2
theorem Hom.fin {M : Mkt α β} {M' : Mkt α' β'} (w : M.WF) (w' : M'.WF) {φ : α → α'} {ψ : β → β'} (h : Hom M M' φ ψ) {held : α → Option β} {held' : α' → Option β'} (hh : ∀ a ∈ M.A, held' (φ a) = (held a).map ψ) (F : Fin M held) : Fin M' held' := by
  have at_ : ∀ a ∈ M.A, ∀ r', held' (φ a) = some r' → ∃ r, held a = some r ∧ ψ r = r' ∧ M.likes a r := fun a ha r' e => by
    rw [hh a ha] at e
    cases e2 : held a with
    | none => rw [e2] at e; cases e
    | some r => rw [e2] at e; cases e; exact ⟨r, rfl, rfl, F.hd a ha r e2⟩
  have insub : ∀ r ∈ M.R, ∀ b' ∈ ins M' held' (ψ r), ∃ b ∈ ins M held r, φ b = b' := fun r hr b' hb' => by
    obtain ⟨h1, h2⟩ := mem_ins.mp hb'
    obtain ⟨b, hb, rfl⟩ := h.sur b' h1
    obtain ⟨r2, e1, e2, e3⟩ := at_ b hb _ h2
    have := h.inR r2 e3.2.1 r hr e2
    subst this
    exact ⟨b, mem_ins.mpr ⟨hb, e1⟩, rfl⟩
  have ndm : ∀ r, ((ins M held r).map φ).Nodup := fun r => nodup_mapI (ins_nodup w) fun x hx y hy => h.inA x (mem_ins.mp hx).1 y (mem_ins.mp hy).1
  refine ⟨fun a' ha' r' e => ?_, fun r' => ?_, fun a' r' lk' hlt => ?_⟩
  · obtain ⟨a, ha, rfl⟩ := h.sur a' ha'
    obtain ⟨r, e1, rfl, e3⟩ := at_ a ha _ e
    exact h.likes a r e3
  · by_cases hz : ins M' held' r' = []
    · rw [hz]; exact Nat.zero_le _
    · obtain ⟨b', hb'⟩ := List.exists_mem_of_ne_nil _ hz
      obtain ⟨h1, h2⟩ := mem_ins.mp hb'
      obtain ⟨b, hb, rfl⟩ := h.sur b' h1
      obtain ⟨r, e1, rfl, e3⟩ := at_ b hb _ h2
      rw [h.q r e3.2.1]
      refine Nat.le_trans (nodup_sub_len (ins_nodup w') (l₂ := (ins M held r).map φ) fun x hx => ?_) (by rw [List.length_map]; exact F.cap r)
      obtain ⟨b, hb, e⟩ := insub r e3.2.1 x hx
      exact List.mem_map.mpr ⟨b, hb, e⟩
  · obtain ⟨a, r, lk, rfl, rfl⟩ := h.back _ _ lk'
    have hlt2 : (M.lst a).idxOf r < pl (M.lst a) (held a) := by
      rw [hh a lk.1] at hlt
      cases e : held a with
      | none => exact List.idxOf_lt_length_of_mem lk.2.2.1
      | some s => rw [e] at hlt; exact (h.lst a s r (F.hd a lk.1 s e) lk).mp hlt
    obtain ⟨rj, f1, f2⟩ := F.rj a r lk hlt2
    refine ⟨h.rej rj lk, ?_, fun b' hb' => ?_⟩
    · rw [h.q r lk.2.1]
      refine Nat.le_trans f1 ?_
      rw [← List.length_map (as := ins M held r) φ]
      refine nodup_sub_len (ndm r) fun x hx => ?_
      obtain ⟨b, hb, rfl⟩ := List.mem_map.mp hx
      obtain ⟨hb1, hb2⟩ := mem_ins.mp hb
      exact mem_ins.mpr ⟨h.mA b hb1, by rw [hh b hb1, hb2]; rfl⟩
    · obtain ⟨b, hb, rfl⟩ := insub r lk.2.1 b' hb'
      obtain ⟨hb1, hb2⟩ := mem_ins.mp hb
      exact (h.ord a b r lk (F.hd b hb1 r hb2)).mpr (f2 b hb)
end
theorem idx_map {α β : Type} [DecidableEq α] [DecidableEq β] {f : α → β} : ∀ {l : List α} {x : α}, x ∈ l → (∀ a ∈ l, f a = f x → a = x) → (l.map f).idxOf (f x) = l.idxOf x
  | a :: t, x, hx, hi => by
    rw [List.map_cons, List.idxOf_cons, List.idxOf_cons]
    by_cases e : a = x
    · subst e; simp
    · have e2 : f a ≠ f x := fun z => e (hi a List.mem_cons_self z)
      have hx' : x ∈ t := (List.mem_cons.mp hx).resolve_left (Ne.symm e)
      rw [show (f a == f x) = false from beq_false_of_ne e2, show (a == x) = false from beq_false_of_ne e]
      simp only [cond_false, idx_map hx' fun a ha => hi a (List.mem_cons_of_mem _ ha)]
theorem idx_filter {α : Type} [DecidableEq α] {p : α → Bool} : ∀ {l : List α} {s r : α}, s ∈ l → r ∈ l → p s = true → p r = true → ((l.filter p).idxOf s < (l.filter p).idxOf r ↔ l.idxOf s < l.idxOf r)
  | a :: t, s, r, hs, hr, ps, pr => by
    by_cases pa : p a = true
    · rw [List.filter_cons_of_pos pa]
      simp only [List.idxOf_cons]
      by_cases es : a = s
      · subst es
        by_cases er : a = r
        · subst er; simp
        · rw [show (a == r) = false from beq_false_of_ne er]; simp
      · rw [show (a == s) = false from beq_false_of_ne es]
        have hs' := (List.mem_cons.mp hs).resolve_left (Ne.symm es)
        by_cases er : a = r
        · subst er; simp
        · rw [show (a == r) = false from beq_false_of_ne er]
          have hr' := (List.mem_cons.mp hr).resolve_left (Ne.symm er)
          have := idx_filter (p := p) hs' hr' ps pr
          simp only [cond_false]
          omega
    · rw [List.filter_cons_of_neg pa]
      have es : a ≠ s := fun z => pa (z ▸ ps)
      have er : a ≠ r := fun z => pa (z ▸ pr)
      have hs' := (List.mem_cons.mp hs).resolve_left (Ne.symm es)
      have hr' := (List.mem_cons.mp hr).resolve_left (Ne.symm er)
      have := idx_filter (p := p) hs' hr' ps pr
      simp only [List.idxOf_cons]
      rw [show (a == s) = false from beq_false_of_ne es, show (a == r) = false from beq_false_of_ne er]
      simp only [cond_false]
      omega
end PM
namespace PMT
open PySem
theorem mktN_l {F : FS} {ys rs : List Str} {x : Str} (h : x ∈ ys) : (mktN F ys rs).l (ys.idxOf x) = ((F.lst x).filter fun r => decide (r ∈ rs)).map fun r => rs.idxOf r :=
  NM.l_at (by show (ys.map _)[ys.idxOf x]? = _; rw [List.getElem?_map, PM.get?_idx h]; rfl)
theorem mktN_o {F : FS} {ys rs : List Str} {x : Str} (h : x ∈ rs) : (mktN F ys rs).o (rs.idxOf x) = ((F.ord x).filter fun y => decide (y ∈ ys)).map fun y => ys.idxOf y :=
  NM.o_at (by show (rs.map _)[rs.idxOf x]? = _; rw [List.getElem?_map, PM.get?_idx h]; rfl)
theorem mktN_q {F : FS} {ys rs : List Str} {x : Str} (h : x ∈ rs) : (mktN F ys rs).q (rs.idxOf x) = F.q x :=
  NM.q_at (by show (rs.map _)[rs.idxOf x]? = _; rw [List.getElem?_map, PM.get?_idx h]; rfl)
theorem idx_mf {l zs : List Str} {r s : Str} (hr : r ∈ l) (hs : s ∈ l) (zr : r ∈ zs) (zs' : s ∈ zs) : ((((l.filter fun x => decide (x ∈ zs)).map fun x => zs.idxOf x).idxOf (zs.idxOf s)) < (((l.filter fun x => decide (x ∈ zs)).map fun x => zs.idxOf x).idxOf (zs.idxOf r)) ↔ l.idxOf s < l.idxOf r) := by
  have inj : ∀ x ∈ zs, ∀ a ∈ l.filter (fun x => decide (x ∈ zs)), zs.idxOf a = zs.idxOf x → a = x := fun x hx a ha e => PM.idx_inj (by simpa using (List.mem_filter.mp ha).2) e
  rw [PM.idx_map (f := fun x => zs.idxOf x) (List.mem_filter.mpr ⟨hs, decide_eq_true zs'⟩) (inj s zs'), PM.idx_map (f := fun x => zs.idxOf x) (List.mem_filter.mpr ⟨hr, decide_eq_true zr⟩) (inj r zr)]
  exact PM.idx_filter hs hr (decide_eq_true zs') (decide_eq_true zr)
theorem mem_mf {l zs : List Str} {n : Nat} : n ∈ ((l.filter fun x => decide (x ∈ zs)).map fun x => zs.idxOf x) ↔ ∃ x ∈ l, x ∈ zs ∧ zs.idxOf x = n := by
  simp only [List.mem_map, List.mem_filter, decide_eq_true_eq, and_assoc]
theorem mktN_hom {F : FS} (ok : F.Ok) {ys rs : List Str} (hy : ys.Perm F.A) (hr : rs.Perm F.R) : PM.Hom F.M (mktN F ys rs).M (fun x => ys.idxOf x) (fun r => rs.idxOf r) := by
  have ll : (mktN F ys rs).ls.length = ys.length := by simp [mktN]
  have lo : (mktN F ys rs).os.length = rs.length := by simp [mktN]
  have memA : ∀ {a}, a ∈ F.A ↔ a ∈ ys := fun {a} => hy.mem_iff.symm
  have memR : ∀ {a}, a ∈ F.R ↔ a ∈ rs := fun {a} => hr.mem_iff.symm
  have ndy : ys.Nodup := hy.nodup_iff.mpr ok.A
  have ndr : rs.Nodup := hr.nodup_iff.mpr ok.R
  refine ⟨fun a ha b hb e => PM.idx_inj (memA.mp ha) e, fun a ha b hb e => PM.idx_inj (memR.mp ha) e, ?_, ?_, ?_, ?_, ?_, ?_, ?_⟩
  · intro k hk
    have hk2 : k < ys.length := by rw [← ll]; exact List.mem_range.mp hk
    exact ⟨ys[k], memA.mpr (List.getElem_mem hk2), PM.idx_get ndy hk2⟩
  · intro a ha
    exact List.mem_range.mpr (by rw [ll]; exact List.idxOf_lt_length_of_mem (memA.mp ha))
  · intro a r ⟨h1, h2, h3, h4⟩
    have ha := memA.mp h1
    have hr' := memR.mp h2
    refine ⟨List.mem_range.mpr (by rw [ll]; exact List.idxOf_lt_length_of_mem ha), List.mem_range.mpr (by rw [lo]; exact List.idxOf_lt_length_of_mem hr'), ?_, ?_⟩
    · show _ ∈ (mktN F ys rs).l _
      rw [mktN_l ha]; exact mem_mf.mpr ⟨r, h3, hr', rfl⟩
    · show _ ∈ (mktN F ys rs).o _
      rw [mktN_o hr']; exact mem_mf.mpr ⟨a, h4, ha, rfl⟩
  · intro k n ⟨h1, h2, h3, h4⟩
    have hk : k < ys.length := by rw [← ll]; exact List.mem_range.mp h1
    have hn : n < rs.length := by rw [← lo]; exact List.mem_range.mp h2
    have e1 : ys.idxOf ys[k] = k := PM.idx_get ndy hk
    have e2 : rs.idxOf rs[n] = n := PM.idx_get ndr hn
    have m1 : ys[k] ∈ ys := List.getElem_mem hk
    have m2 : rs[n] ∈ rs := List.getElem_mem hn
    have h3' : n ∈ (mktN F ys rs).l (ys.idxOf ys[k]) := by rw [e1]; exact h3
    have h4' : k ∈ (mktN F ys rs).o (rs.idxOf rs[n]) := by rw [e2]; exact h4
    rw [mktN_l m1] at h3'
    rw [mktN_o m2] at h4'
    obtain ⟨r, r1, r2, r3⟩ := mem_mf.mp h3'
    obtain ⟨a, a1, a2, a3⟩ := mem_mf.mp h4'
    have er : r = rs[n] := PM.idx_inj r2 (by rw [r3, e2])
    have ea : a = ys[k] := PM.idx_inj a2 (by rw [a3, e1])
    subst er ea
    exact ⟨_, _, ⟨memA.mpr m1, memR.mpr m2, r1, a1⟩, e1, e2⟩
  · intro r hr'
    exact mktN_q (memR.mp hr')
  · intro a r s h1 h2
    show (((mktN F ys rs).l (ys.idxOf a)).idxOf (rs.idxOf s) < ((mktN F ys rs).l (ys.idxOf a)).idxOf (rs.idxOf r)) ↔ _
    rw [mktN_l (memA.mp h1.1)]
    exact idx_mf h1.2.2.1 h2.2.2.1 (memR.mp h1.2.1) (memR.mp h2.2.1)
  · intro a b r h1 h2
    show (((mktN F ys rs).o (rs.idxOf r)).idxOf (ys.idxOf b) < ((mktN F ys rs).o (rs.idxOf r)).idxOf (ys.idxOf a)) ↔ _
    rw [mktN_o (memR.mp h1.2.1)]
    exact idx_mf h1.2.2.2 h2.2.2.2 (memA.mp h1.1) (memA.mp h2.1)
theorem byN_at {F : FS} {ys rs : List Str} {x : Str} (h : x ∈ ys) : hf (byN F ys rs) (ys.idxOf x) = (F.held x).map fun r => rs.idxOf r := by
  unfold hf byN
  rw [List.getD_eq_getElem?_getD, List.getElem?_map, PM.get?_idx h]
  rfl
theorem byN_len {F : FS} {ys rs : List Str} : (byN F ys rs).length = (mktN F ys rs).ls.length := by simp [byN, mktN]
/-- what stands behind a deed, by numbers -/
theorem fin_byN {F : FS} (ok : F.Ok) {ys rs : List Str} (hy : ys.Perm F.A) (hr : rs.Perm F.R) (D : PM.DA F.M F.held F.next) (S : PM.Settled F.M F.held F.next) : PM.Fin (mktN F ys rs).M (hf (byN F ys rs)) :=
  (mktN_hom ok hy hr).fin (F.wf ok) ((mktN F ys rs).wf (mktN_ok ok hy hr)) (fun a ha => byN_at (hy.mem_iff.mpr ha)) (D.fin S)
/-! every matching -/
def roomsN (m : NM) (k : Nat) : List (Option Nat) := none :: (((m.l k).filter fun r => decide (k ∈ m.o r)).map some)
def fitsN (m : NM) (row : List (Option Nat)) : Option Nat → Bool
  | none => true
  | some r => decide (row.count (some r) < m.q r)
def freshN (m : NM) (k : Nat) (row : List (Option Nat)) : List (List (Option Nat)) := ((roomsN m k).filter (fitsN m row)).map fun x => row ++ [x]
def matchesN (m : NM) (n : Nat) : List (List (Option Nat)) := (List.range n).foldl (fun f k => f.flatMap (freshN m k)) [[]]
theorem matchesN_succ {m : NM} {n : Nat} : matchesN m (n + 1) = (matchesN m n).flatMap (freshN m n) := by
  unfold matchesN
  rw [List.range_succ, List.foldl_append]; rfl
def Fits (m : NM) (μ : List (Option Nat)) : Prop := ∀ k r, μ[k]? = some (some r) → r ∈ m.l k ∧ k ∈ m.o r ∧ (μ.take k).count (some r) < m.q r
theorem mem_rooms {m : NM} {k : Nat} {x : Option Nat} : x ∈ roomsN m k ↔ ∀ r, x = some r → r ∈ m.l k ∧ k ∈ m.o r := by
  unfold roomsN
  cases x with
  | none => simp
  | some r => simp
theorem mem_fresh {m : NM} {k : Nat} {row μ : List (Option Nat)} : μ ∈ freshN m k row ↔ ∃ x, μ = row ++ [x] ∧ ∀ r, x = some r → r ∈ m.l k ∧ k ∈ m.o r ∧ row.count (some r) < m.q r := by
  unfold freshN
  simp only [List.mem_map, List.mem_filter, mem_rooms]
  constructor
  · rintro ⟨x, ⟨h1, h2⟩, rfl⟩
    exact ⟨x, rfl, fun r e => ⟨(h1 r e).1, (h1 r e).2, by subst e; exact of_decide_eq_true h2⟩⟩
  · rintro ⟨x, rfl, h⟩
    refine ⟨x, ⟨fun r e => ⟨(h r e).1, (h r e).2.1⟩, ?_⟩, rfl⟩
    cases x with
    | none => rfl
    | some r => exact decide_eq_true (h r rfl).2.2
theorem mem_matchesN {m : NM} : ∀ {n : Nat} {μ : List (Option Nat)}, μ ∈ matchesN m n ↔ μ.length = n ∧ Fits m μ
  | 0, μ => by
    show μ ∈ [[]] ↔ _
    rw [List.mem_singleton]
    constructor
    · rintro rfl; exact ⟨rfl, fun k r h => by simp at h⟩
    · intro h; exact List.length_eq_zero_iff.mp h.1
  | n + 1, μ => by
    rw [matchesN_succ, List.mem_flatMap]
    constructor
    · rintro ⟨row, hrow, hμ⟩
      obtain ⟨hl, hf⟩ := mem_matchesN.mp hrow
      obtain ⟨x, rfl, hx⟩ := mem_fresh.mp hμ
      refine ⟨by simp [hl], fun k r h => ?_⟩
      by_cases hk : k < row.length
      · rw [List.getElem?_append_left hk] at h
        rw [List.take_append_of_le_length (Nat.le_of_lt hk)]
        exact hf k r h
      · rw [List.getElem?_append_right (Nat.le_of_not_lt hk)] at h
        have h0 : k - row.length = 0 := by
          have := (List.getElem?_eq_some_iff.mp h).1
          simp at this; omega
        have e : k = row.length := by omega
        subst e
        rw [h0] at h
        rw [List.take_left]
        rw [hl]
        exact hx r (by simpa using h)
    · rintro ⟨hl, hf⟩
      have hne : μ ≠ [] := fun z => by rw [z] at hl; simp at hl
      have e := List.dropLast_concat_getLast hne
      have hdl : μ.dropLast.length = n := by simp [hl]
      refine ⟨μ.dropLast, mem_matchesN.mpr ⟨hdl, fun k r h => ?_⟩, mem_fresh.mpr ⟨_, e.symm, fun r hr => ?_⟩⟩
      · have hk := (List.getElem?_eq_some_iff.mp h).1
        have h2 : μ[k]? = some (some r) := by rw [← e, List.getElem?_append_left hk]; exact h
        have := hf k r h2
        rw [← e, List.take_append_of_le_length (Nat.le_of_lt hk)] at this
        exact this
      · have h2 : μ[n]? = some (some r) := by
          rw [← e, List.getElem?_append_right (by omega), hdl, Nat.sub_self]; simp [hr]
        have := hf n r h2
        rw [show μ.take n = μ.dropLast by rw [List.dropLast_eq_take, hl]; rfl] at this
        exact this
theorem insN_count {μ : List (Option Nat)} {r : Nat} : (insN μ r).length = μ.count (some r) := by
  unfold insN
  rw [List.length_map]
  have : ∀ (l : List (Option Nat)) (s : Nat), ((l.zipIdx s).filter fun p => decide (p.1 = some r)).length = l.count (some r) := by
    intro l
    induction l with
    | nil => intro s; rfl
    | cons a t ih =>
      intro s
      rw [List.zipIdx_cons, List.count_cons]
      by_cases e : a = some r
      · rw [List.filter_cons_of_pos (by simpa using e), List.length_cons, ih, e]; simp
      · rw [List.filter_cons_of_neg (by simpa using e), ih]; simp [e]
  exact this μ 0
theorem fits_iff {m : NM} {μ : List (Option Nat)} : Fits m μ ↔ (∀ k r, μ[k]? = some (some r) → r ∈ m.l k ∧ k ∈ m.o r) ∧ ∀ r, (insN μ r).length ≤ m.q r := by
  constructor
  · intro h
    refine ⟨fun k r e => ⟨(h k r e).1, (h k r e).2.1⟩, fun r => ?_⟩
    rw [insN_count]
    have : ∀ j, j ≤ μ.length → (μ.take j).count (some r) ≤ m.q r := by
      intro j
      induction j with
      | zero => intro _; simp
      | succ j ih =>
        intro hj
        have hj' : j < μ.length := by omega
        rw [List.take_succ, List.getElem?_eq_getElem hj', Option.toList_some, List.count_append]
        by_cases e : μ[j] = some r
        · have := (h j r (by rw [List.getElem?_eq_getElem hj', e])).2.2
          rw [e]; simp; omega
        · have := ih (by omega)
          rw [List.count_singleton, show (μ[j] == some r) = false from beq_false_of_ne e]
          simpa using this
    have := this μ.length (Nat.le_refl _)
    rwa [List.take_length] at this
  · rintro ⟨h1, h2⟩ k r e
    refine ⟨(h1 k r e).1, (h1 k r e).2, ?_⟩
    have h3 := h2 r
    rw [insN_count] at h3
    have hk := (List.getElem?_eq_some_iff.mp e).1
    have h4 : (μ.take (k + 1)).count (some r) = (μ.take k).count (some r) + 1 := by
      rw [List.take_succ, e, Option.toList_some, List.count_append]; simp
    have h5 : (μ.take (k + 1)).count (some r) ≤ μ.count (some r) := (List.take_sublist _ _).count_le _
    omega
/-- who blocks a matching with whom -/
def insideN (m : NM) (μ : List (Option Nat)) (r : Nat) : List Nat := (List.range m.ls.length).filter fun j => decide (hf μ j = some r)
def worseN (m : NM) (μ : List (Option Nat)) (k r : Nat) : List Nat := (insideN m μ r).filter fun j => decide ((m.o r).idxOf k < (m.o r).idxOf j)
def blkN (m : NM) (μ : List (Option Nat)) (k r : Nat) : Bool := decide (k ∈ m.o r) && (decide ((insideN m μ r).length < m.q r) || !decide ((worseN m μ k r).length = 0))
def blocksK (m : NM) (μ : List (Option Nat)) (k : Nat) : List Nat := ((m.l k).take (PM.pl (m.l k) (hf μ k))).filter (blkN m μ k)
def blocksN (m : NM) (μ : List (Option Nat)) : List Nat := (List.range m.ls.length).flatMap (blocksK m μ)
def stableN (m : NM) : List (List (Option Nat)) := (matchesN m m.ls.length).filter fun μ => decide ((blocksN m μ).length = 0)
theorem mem_insideN {m : NM} {μ : List (Option Nat)} {r j : Nat} : j ∈ insideN m μ r ↔ j ∈ PM.ins m.M (hf μ) r := by
  rw [PM.mem_ins]; simp [insideN, NM.M]
theorem insideN_len {m : NM} (ok : m.Ok) {μ : List (Option Nat)} {r : Nat} : (insideN m μ r).length = (PM.ins m.M (hf μ) r).length :=
  PM.nodup_same_len (List.nodup_range.sublist List.filter_sublist) (PM.ins_nodup (m.wf ok)) fun _ => mem_insideN
theorem mem_stableN {m : NM} (ok : m.Ok) {μ : List (Option Nat)} : μ ∈ stableN m ↔ μ.length = m.ls.length ∧ PM.Stable m.M (hf μ) := by
  unfold stableN
  rw [List.mem_filter, mem_matchesN, fits_iff, decide_eq_true_eq, List.length_eq_zero_iff]
  have nb0 : blocksN m μ = [] ↔ ∀ k, k < m.ls.length → ∀ r ∈ m.l k, (m.l k).idxOf r < PM.pl (m.l k) (hf μ k) → blkN m μ k r = false := by
    unfold blocksN
    rw [List.flatMap_eq_nil_iff]
    constructor
    · intro h k hk r hr hlt
      have := h k (List.mem_range.mpr hk)
      unfold blocksK at this
      rw [List.filter_eq_nil_iff] at this
      have := this r ((PM.mem_take_idx (NM.l_nd ok hk)).mpr ⟨hr, hlt⟩)
      simpa using this
    · intro h k hk
      unfold blocksK
      rw [List.filter_eq_nil_iff]
      intro r hr
      have hk := List.mem_range.mp hk
      obtain ⟨h1, h2⟩ := (PM.mem_take_idx (NM.l_nd ok hk)).mp hr
      rw [h k hk r h1 h2]; exact Bool.false_ne_true
  rw [nb0]
  constructor
  · rintro ⟨⟨hl, ir, cap⟩, nb⟩
    have ir' : ∀ a ∈ m.M.A, ∀ r, hf μ a = some r → m.M.likes a r := fun a ha r h => by
      have := ir a r (hf_at.mp h)
      exact ⟨ha, List.mem_range.mpr ((ok.lnd _ (List.mem_of_getElem? (m.at_l (List.mem_range.mp ha)))).2.2 r this.1), this.1, this.2⟩
    refine ⟨hl, ir', fun r => by rw [insN_M_len ok hl]; exact cap r, fun a r lk hlt => ?_⟩
    have h := nb a (List.mem_range.mp lk.1) r lk.2.2.1 hlt
    unfold blkN at h
    have h4 : a ∈ m.o r := lk.2.2.2
    rw [decide_eq_true h4, Bool.true_and, Bool.or_eq_false_iff, decide_eq_false_iff_not, Bool.not_eq_false', decide_eq_true_eq, List.length_eq_zero_iff] at h
    refine ⟨by rw [← insideN_len ok]; exact Nat.le_of_not_lt h.1, fun b hb => ?_⟩
    have hw := h.2
    unfold worseN at hw
    rw [List.filter_eq_nil_iff] at hw
    have := hw b (mem_insideN.mpr hb)
    rw [decide_eq_true_eq] at this
    have hb2 := PM.mem_ins.mp hb
    have hbl : b ∈ m.o r := (ir' b hb2.1 r hb2.2).2.2.2
    have ne : (m.o r).idxOf b ≠ (m.o r).idxOf a := fun z => by
      have := PM.idx_inj hbl z
      subst this
      rw [hb2.2] at hlt
      exact Nat.lt_irrefl _ hlt
    show (m.o r).idxOf b < (m.o r).idxOf a
    omega
  · rintro ⟨hl, S⟩
    refine ⟨⟨hl, fun k r h => ?_, fun r => by rw [← insN_M_len ok hl]; exact S.cap r⟩, fun k hk r hr hlt => ?_⟩
    · have := S.ir k (List.mem_range.mpr (by rw [← hl]; exact (List.getElem?_eq_some_iff.mp h).1)) r (hf_at.mpr h)
      exact ⟨this.2.2.1, this.2.2.2⟩
    · unfold blkN
      by_cases hk2 : k ∈ m.o r
      · have lk : m.M.likes k r := ⟨List.mem_range.mpr hk, List.mem_range.mpr ((ok.lnd _ (List.mem_of_getElem? (m.at_l hk))).2.2 r hr), hr, hk2⟩
        obtain ⟨f1, f2⟩ := S.nb k r lk hlt
        have f1' : m.q r ≤ (insideN m μ r).length := by rw [insideN_len ok]; exact f1
        rw [decide_eq_false (Nat.not_lt_of_le f1')]
        have : worseN m μ k r = [] := by
          unfold worseN
          rw [List.filter_eq_nil_iff]
          intro b hb
          have h3 : (m.o r).idxOf b < (m.o r).idxOf k := f2 b (mem_insideN.mp hb)
          rw [decide_eq_true_eq]; omega
        rw [this]; simp
      · rw [decide_eq_false hk2]; rfl
/-- of what is stable the finished one is the best for each -/
theorem best_stable {m : NM} (ok : m.Ok) {μ : List (Option Nat)} (hl : μ.length = m.ls.length) (F : PM.Fin m.M (hf μ)) : μ ∈ stableN m ∧ ∀ ν ∈ stableN m, ν.length = m.ls.length ∧ ∀ k, k < m.ls.length → (∀ r, hf ν k = some r → r ∈ m.l k) ∧ PM.pl (m.l k) (hf μ k) ≤ PM.pl (m.l k) (hf ν k) := by
  refine ⟨(mem_stableN ok).mpr ⟨hl, F.stable⟩, fun ν hν => ?_⟩
  obtain ⟨h1, S⟩ := (mem_stableN ok).mp hν
  exact ⟨h1, fun k hk => ⟨fun r h => (S.ir k (List.mem_range.mpr hk) r h).2.2.1, F.best S (List.mem_range.mpr hk)⟩⟩
end PMT

set_option Elab.async false
set_option linter.all false
set_option maxRecDepth 100000
set_option maxHeartbeats 2000000
/-! SU: sorted lists of texts are told by their members. -/
namespace PMT
open PySem PySem.Spec PyProof.Rows L2
theorem le_of_nlt {a b : List Nat} (h : ltCps b a = false) : a ≤ b := by
  rw [ltCps_eq] at h
  exact fun z => absurd z (of_decide_eq_false h)
theorem rising_pw : ∀ (r : List Str) (p : Str), risingS p r = true → (∀ y ∈ r, p.cps.toList ≤ y.cps.toList) ∧ r.Pairwise fun a b => a.cps.toList ≤ b.cps.toList
  | [], _, _ => ⟨fun _ h => (by cases h), .nil⟩
  | x :: r, p, h => by
    have h' : (!ltCps x.cps.toList p.cps.toList && risingS x r) = true := h
    simp only [Bool.and_eq_true, Bool.not_eq_true'] at h'
    obtain ⟨h1, h2⟩ := rising_pw r x h'.2
    have hpx := le_of_nlt h'.1
    refine ⟨fun y hy => ?_, .cons h1 h2⟩
    rcases List.mem_cons.mp hy with rfl | hy
    · exact hpx
    · exact List.le_trans hpx (h1 y hy)
theorem sorted_pws {l : List Str} (h : sortedS l = true) : l.Pairwise fun a b => a.cps.toList ≤ b.cps.toList := by
  cases l with
  | nil => exact .nil
  | cons x r =>
    obtain ⟨h1, h2⟩ := rising_pw r x h
    exact .cons h1 h2
theorem str_ext {a b : Str} (h : a.cps.toList = b.cps.toList) : a = b := by
  obtain ⟨a⟩ := a
  obtain ⟨b⟩ := b
  have h : a.toList = b.toList := h
  rw [Array.toList_inj.mp h]
theorem sorted_uniq {l m : List Str} (h1 : sortedS l = true) (h2 : sortedS m = true) (n1 : l.Nodup) (n2 : m.Nodup) (h : ∀ x, x ∈ l ↔ x ∈ m) : l = m :=
  List.Perm.eq_of_pairwise (le := fun a b : Str => a.cps.toList ≤ b.cps.toList) (fun a b _ _ p q => str_ext (List.le_antisymm p q)) (sorted_pws h1) (sorted_pws h2) ((List.perm_ext_iff_of_nodup n1 n2).mpr h)
end PMT

set_option Elab.async false
set_option linter.all false
set_option maxRecDepth 100000
set_option maxHeartbeats 2000000
/-! V7: the deeds of a fair. -/
namespace PMT
open PySem PySem.Spec PyProof.Rows L2
def nA : List Str := ["a", "b", "c", "d"]
def nR : List Str := ["x", "y", "z"]
/-- a fair between two deeds -/
structure FI (F : FS) : Prop where
  A : F.A.Nodup
  R : F.R.Nodup
  inA : ∀ x ∈ F.A, x ∈ nA
  inR : ∀ r ∈ F.R, r ∈ nR
  lst : ∀ x ∈ F.A, (F.lst x).Nodup ∧ ∀ r ∈ F.lst x, r ∈ nR
  ord : ∀ r ∈ F.R, (F.ord r).Nodup ∧ ∀ x ∈ F.ord r, x ∈ nA
theorem nA_ok : ∀ x ∈ nA, PyData.strOk x = true := by decide +kernel
theorem nR_ok : ∀ x ∈ nR, PyData.strOk x = true := by decide +kernel
theorem lenA {l : List Str} (h : l.Nodup) (k : ∀ x ∈ l, x ∈ nA) : l.length ≤ 4 := PM.nodup_sub_len h k
theorem lenR {l : List Str} (h : l.Nodup) (k : ∀ x ∈ l, x ∈ nR) : l.length ≤ 3 := PM.nodup_sub_len h k
theorem FI.ok {F : FS} (I : FI F) : F.Ok := by
  have h1 := lenA I.A I.inA
  have h2 := lenR I.R I.inR
  exact ⟨I.A, I.R, fun x hx => ⟨(I.lst x hx).1, by have := lenR (I.lst x hx).1 (I.lst x hx).2; omega⟩, fun x hx => ⟨(I.ord x hx).1, by have := lenA (I.ord x hx).1 (I.ord x hx).2; omega⟩, by omega, by omega⟩
theorem FI.sok {F : FS} (I : FI F) : ∀ x ∈ F.A, PyData.strOk x = true := fun x hx => nA_ok x (I.inA x hx)
/-- a deed is done: from F to the market of F1 -/
structure Did (K : PySem.W.Frag) (H : Hp) (f : Addr) (a : FA) (F F1 : FS) (q : Addr) (H' : Hp) : Prop where
  ex : ∃ (a' : FA) (held' : Str → Option Str) (next' : Str → Nat) (asks' : Nat) (rows : List (Str × Option Str × Option Str)), Ch (TL K) (S6 f a) H H' ∧ a'.ds5 = a.ds5 ∧ FairAt K H' f a' { F1 with held := held', next := next', asks := asks' } ∧ FI F1 ∧ PM.DA F1.M held' next' ∧ PM.Settled F1.M held' next' ∧
    (∀ ys : List Str, sortedS ys = true → ys.Nodup → (∀ x, x ∈ ys ↔ x ∈ F.A ∨ x ∈ F1.A) → rows = movedOf ys (look F.A F.held) (look F1.A held')) ∧ MovedT K H' q rows
section
variable {P : Program} {w : World} {K : PySem.W.Frag} {mg : Str → Option Value} {base : Heap}
theorem FairAt.upA {H : Hp} {f : Addr} {a : FA} {F : FS} (z : FairAt K H f a F) {A' : List Str} {la' : Str → Addr} {lst' : Str → List Str} {hd' : Str → Option Str} {nx' : Str → Nat} (h : ∀ y ∈ A', SqT K H (la' y) ((lst' y).map V.str)) :
    FairAt K (upd (upd (upd H a.dl (.dK (dkv A' fun y => .ref (la' y)))) a.dh (.dK (dkv A' fun y => os (hd' y)))) a.dn (.dK (dkv A' fun y => iv (nx' y)))) f { a with la := la' } { F with A := A', lst := lst', held := hd', next := nx' } := by
  obtain ⟨n1, n2, n3, n4, n5, n6, n7, n8, n9, n10⟩ := z.ne5
  obtain ⟨f1, f2, f3, f4, f5⟩ := z.nf
  have g2 : (upd H a.dl (.dK (dkv A' fun y => .ref (la' y)))) a.dh = _ := (upd_ne (Ne.symm n3)).trans z.h
  have g3 : (upd (upd H a.dl (.dK (dkv A' fun y => .ref (la' y)))) a.dh (.dK (dkv A' fun y => os (hd' y)))) a.dn = _ := (upd_ne (Ne.symm n10)).trans ((upd_ne (Ne.symm n4)).trans z.n)
  have tk : ∀ {b xs}, SqT K H b xs → SqT K (upd (upd (upd H a.dl (.dK (dkv A' fun y => .ref (la' y)))) a.dh (.dK (dkv A' fun y => os (hd' y)))) a.dn (.dK (dkv A' fun y => iv (nx' y)))) b xs := fun e => sqT_dK g3 (sqT_dK g2 (sqT_dK z.l e))
  refine ⟨?_, ?_, ?_, ?_, ?_, upd_same, fun y hy => tk (h y hy), fun r hr => tk (z.ot r hr), z.ap⟩
  · rw [upd_ne f5, upd_ne f4, upd_ne f1]; exact z.ins
  · show upd _ _ _ a.dl = _
    rw [upd_ne n4, upd_ne n3, upd_same]
  · show upd _ _ _ a.do_ = _
    rw [upd_ne n7, upd_ne n6, upd_ne (Ne.symm n1)]; exact z.o
  · show upd _ _ _ a.ds = _
    rw [upd_ne n9, upd_ne n8, upd_ne (Ne.symm n2)]; exact z.s
  · show upd _ _ _ a.dh = _
    rw [upd_ne n10, upd_same]
theorem FairAt.upR {H : Hp} {f : Addr} {a : FA} {F : FS} (z : FairAt K H f a F) {R' : List Str} {oa' : Str → Addr} {ord' : Str → List Str} {q' : Str → Nat} (h : ∀ y ∈ R', SqT K H (oa' y) ((ord' y).map V.str)) :
    FairAt K (upd (upd H a.do_ (.dK (dkv R' fun y => .ref (oa' y)))) a.ds (.dK (dkv R' fun y => iv (q' y)))) f { a with oa := oa' } { F with R := R', ord := ord', q := q' } := by
  obtain ⟨n1, n2, n3, n4, n5, n6, n7, n8, n9, n10⟩ := z.ne5
  obtain ⟨f1, f2, f3, f4, f5⟩ := z.nf
  have g2 : (upd H a.do_ (.dK (dkv R' fun y => .ref (oa' y)))) a.ds = _ := (upd_ne (Ne.symm n5)).trans z.s
  have tk : ∀ {b xs}, SqT K H b xs → SqT K (upd (upd H a.do_ (.dK (dkv R' fun y => .ref (oa' y)))) a.ds (.dK (dkv R' fun y => iv (q' y)))) b xs := fun e => sqT_dK g2 (sqT_dK z.o e)
  refine ⟨?_, ?_, ?_, upd_same, ?_, ?_, fun y hy => tk (z.lt y hy), fun r hr => tk (h r hr), z.ap⟩
  · rw [upd_ne f3, upd_ne f2]; exact z.ins
  · show upd _ _ _ a.dl = _
    rw [upd_ne n2, upd_ne n1]; exact z.l
  · show upd _ _ _ a.do_ = _
    rw [upd_ne n5, upd_same]
  · show upd _ _ _ a.dh = _
    rw [upd_ne (Ne.symm n8), upd_ne (Ne.symm n6)]; exact z.h
  · show upd _ _ _ a.dn = _
    rw [upd_ne (Ne.symm n9), upd_ne (Ne.symm n7)]; exact z.n
theorem FairAt.upL {H : Hp} {f : Addr} {a : FA} {F : FS} (z : FairAt K H f a F) {la' : Str → Addr} {lst' : Str → List Str} (h : ∀ y ∈ F.A, SqT K H (la' y) ((lst' y).map V.str)) :
    FairAt K (upd H a.dl (.dK (dkv F.A fun y => .ref (la' y)))) f { a with la := la' } { F with lst := lst' } := by
  obtain ⟨n1, n2, n3, n4, n5, n6, n7, n8, n9, n10⟩ := z.ne5
  obtain ⟨f1, f2, f3, f4, f5⟩ := z.nf
  have tk : ∀ {b xs}, SqT K H b xs → SqT K (upd H a.dl (.dK (dkv F.A fun y => .ref (la' y)))) b xs := fun e => sqT_dK z.l e
  refine ⟨?_, upd_same, ?_, ?_, ?_, ?_, fun y hy => tk (h y hy), fun r hr => tk (z.ot r hr), z.ap⟩
  · rw [upd_ne f1]; exact z.ins
  · show upd _ _ _ a.do_ = _
    rw [upd_ne (Ne.symm n1)]; exact z.o
  · show upd _ _ _ a.ds = _
    rw [upd_ne (Ne.symm n2)]; exact z.s
  · show upd _ _ _ a.dh = _
    rw [upd_ne (Ne.symm n3)]; exact z.h
  · show upd _ _ _ a.dn = _
    rw [upd_ne (Ne.symm n4)]; exact z.n
theorem FairAt.notS {H : Hp} {f d : Addr} {a : FA} {F : FS} (z : FairAt K H f a F) (n : New H d) : ¬ S6 f a d := by
  rintro (h | h)
  · exact absurd h.symm (New.ne n z.ins)
  · unfold FA.ds5 at h
    simp only [List.mem_cons, List.not_mem_nil, or_false] at h
    rcases h with h | h | h | h | h
    · exact absurd h.symm (New.ne n z.l)
    · exact absurd h.symm (New.ne n z.o)
    · exact absurd h.symm (New.ne n z.s)
    · exact absurd h.symm (New.ne n z.h)
    · exact absurd h.symm (New.ne n z.n)
theorem dput_new {H : Hp} {d : Addr} {A : List Str} {g g' : Str → V} {k : Str} {v : V} (h : H d = some (.dK (dkv A g))) (hk : k ∉ A) (hl : A.length ≤ 8) (hg : ∀ y ∈ A ++ [k], PM.fset g k v y = g' y) : DPut H d (.str k) v (upd H d (.dK (dkv (A ++ [k]) g'))) := by
  rw [← dkv_congr hg, ← putK_dkv_new hk]
  exact DPut.k (k := Sum.inr k) h (by rw [dkv_len]; exact small8 hl)
theorem dput_old {H : Hp} {d : Addr} {A : List Str} {g g' : Str → V} {k : Str} {v : V} (h : H d = some (.dK (dkv A g))) (hk : k ∈ A) (hl : A.length ≤ 8) (hg : ∀ y ∈ A, PM.fset g k v y = g' y) : DPut H d (.str k) v (upd H d (.dK (dkv A g'))) := by
  rw [← dkv_congr hg, ← putK_dkv_old hk]
  exact DPut.k (k := Sum.inr k) h (by rw [dkv_len]; exact small8 hl)
theorem fset_comp {γ : Type} {g : Str → γ} {w : γ → V} {k y : Str} {v : γ} : PM.fset (fun x => w (g x)) k (w v) y = w (PM.fset g k v y) := by
  by_cases e : y = k
  · subst e; rw [PM.fset_same, PM.fset_same]
  · rw [PM.fset_ne e, PM.fset_ne e]
theorem told_all {ys : List Str} {B C : List Str} {b a : Str → Option Str} (hs : sortedS ys = true) (hn : ys.Nodup) (hm : ∀ x, x ∈ ys ↔ x ∈ B ∨ x ∈ C) : ∀ zs : List Str, sortedS zs = true → zs.Nodup → (∀ x, x ∈ zs ↔ x ∈ B ∨ x ∈ C) → movedOf ys b a = movedOf zs b a := fun zs h1 h2 h3 => by
  rw [sorted_uniq hs h1 hn h2 fun x => by rw [hm, h3]]
def comeF (F : FS) (x : Str) (l : List Str) : FS := { F with A := F.A ++ [x], lst := PM.fset F.lst x l, held := PM.fset F.held x none, next := PM.fset F.next x 0 }
def spCome (K : PySem.W.Frag) : Sp := fun vs H Q E => ∃ (f : Addr) (a : FA) (F : FS) (x : Str) (p : Addr) (l : List Str), vs = [.ref f, .str x, .ref p] ∧ FairAt K H f a F ∧ FI F ∧ PM.DA F.M F.held F.next ∧ x ∈ nA ∧ SqT K H p (l.map V.str) ∧ l.Nodup ∧ (∀ r ∈ l, r ∈ nR) ∧ LamX.Tabs (TL K) H ∧
  (x ∈ F.A → E (.ref (He.ga K "BadDeed")) none H) ∧ (x ∉ F.A → ∀ q H', Did K H f a F (comeF F x l) q H' → Q (.ref q) H')
theorem ok_Fair_come (t : TX K mg base) : Does P w K mg base (L2.CX P w) 5 ("Fair", some "come") ["self", "asker", "rooms"] (spCome K) := by
  obtain ⟨fd_check_words, G_check_words, b_check_words, p_check_words⟩ := ok_check_words (P := P) (w := w) t
  obtain ⟨fd_Fair_go_on, G_Fair_go_on, b_Fair_go_on, p_Fair_go_on⟩ := ok_Fair_go_on (P := P) (w := w) t
  obtain ⟨fd_Fair_told, G_Fair_told, b_Fair_told, p_Fair_told⟩ := ok_Fair_told (P := P) (w := w) t
  have nd := (sc_Fair_come).nd
  refine t.do_Fair_come (fun vs H Q E h => by obtain ⟨_, _, _, _, _, _, rfl, _⟩ := h; rfl) fun A outer s H vs Q E hr h => ⟨_, (pss_cons (ps_if (pt_cmp (pc_din (hu_of hr) (pv 1) (pe_fldK K rfl (pv 0) rfl))) (pss_one (ps_raise rfl (takes_of rfl rfl rfl rfl) (pmk_own PySem.F.excBase_ValueError t.x_BadDeed.1 t.g_BadDeed t.x_BadDeed.2.1 (raises_own t.x_BadDeed.2.2.1 t.x_BadDeed.2.2.2) rfl))) pss_nil) (PSs.nox (pss_cons (ps_set (i := 3) nd rfl (Or.inl rfl) (pe_callTy call_dictD (by rfl) t.n_dict (by decide +kernel) (pa_cons (pe_fldK K rfl (pv 0) rfl) pa_nil))) (pss_cons (ps_dput (hu_of hr) (pe_fldK K rfl (pv 0) rfl) (pv 1) (pe_call G_check_words (hr.mono (by decide)) (by rfl) t.g_check_words p_check_words b_check_words .nil pass0 (pa_cons (pv 2) pa_nil)) rfl) (pss_cons (ps_dput (hu_of hr) (pe_fldK K rfl (pv 0) rfl) (pv 1) pe_non rfl) (pss_cons (ps_dput (hu_of hr) (pe_fldK K rfl (pv 0) rfl) (pv 1) pe_int rfl) (pss_cons (ps_expr (pe_meth0 (pv 0) t.c_Fair t.m_Fair_go_on G_Fair_go_on (hr.mono (by decide)) b_Fair_go_on .nil pass0)) (pss_one (ps_ret (pe_meth (pv 0) t.c_Fair t.m_Fair_told G_Fair_told (hr.mono (by decide)) b_Fair_told .nil pass0 (pa_cons (pv 3) pa_nil))))))))))), ?_⟩
  obtain ⟨f, a, F, x, p, l, rfl, z, I, D, hxn, hp, hl1, hl2, hT, hE, hQ⟩ := h
  have ok := I.ok
  refine ⟨_, rfl, _, rfl, f, _, a.dx, _, _, rfl, z.ins, t.c_Fair, t.a_Fair_lists, rfl, a.dl, _, rfl, dget_r (x := x) (.of z.l), _, rfl, ?_⟩
  by_cases hx : x ∈ F.A
  · rw [if_pos hx]
    exact hE hx
  rw [if_neg hx]
  -- before
  refine ⟨_, rfl, f, _, a.dx, _, _, rfl, z.ins, t.c_Fair, t.a_Fair_held, rfl, a.dh, _, rfl, .of z.h, fun db hdb => ?_⟩
  have e1 : Ex (TL K) H (upd H db (.dK (dkv F.A fun x => os (F.held x)))) := (Ch.refl hT).new hdb
  have z1 := z.ex e1
  have hdb1 := upd_same (H := H) (a := db) (o := .dK (dkv F.A fun x => os (F.held x)))
  have hp1 := Ex.sqT e1 hp
  have l3 := lenR hl1 hl2
  -- lists
  refine ⟨_, rfl, p, l, rfl, hp1, hl1, by omega, e1.tb, fun H2 e2 => ?_⟩
  have e12 := e1.trans e2
  have z2 := z.ex e12
  have hp2 := Ex.sqT e12 hp
  obtain ⟨n1, n2, n3, n4, n5, n6, n7, n8, n9, n10⟩ := z.ne5
  obtain ⟨f1, f2, f3, f4, f5⟩ := z.nf
  refine ⟨_, rfl, f, _, a.dx, _, _, rfl, z2.ins, t.c_Fair, t.a_Fair_lists, rfl, _, rfl, a.dl, _, rfl, dput_new (g' := fun y => .ref (PM.fset a.la x p y)) z2.l hx ok.a (fun y _ => fset_comp (w := V.ref)), ?_⟩
  have q1 : (upd H2 a.dl (.dK (dkv (F.A ++ [x]) fun y => .ref (PM.fset a.la x p y)))) f = _ := (upd_ne f1).trans z2.ins
  have q2 : (upd H2 a.dl (.dK (dkv (F.A ++ [x]) fun y => .ref (PM.fset a.la x p y)))) a.dh = _ := (upd_ne (Ne.symm n3)).trans z2.h
  refine ⟨_, rfl, f, _, a.dx, _, _, rfl, q1, t.c_Fair, t.a_Fair_held, rfl, _, rfl, a.dh, _, rfl, dput_new (g' := fun y => os (PM.fset F.held x none y)) (v := os none) q2 hx ok.a (fun y _ => fset_comp (w := os)), ?_⟩
  have q3 : (upd (upd H2 a.dl (.dK (dkv (F.A ++ [x]) fun y => .ref (PM.fset a.la x p y)))) a.dh (.dK (dkv (F.A ++ [x]) fun y => os (PM.fset F.held x none y)))) f = _ := (upd_ne f4).trans q1
  have q4 : (upd (upd H2 a.dl (.dK (dkv (F.A ++ [x]) fun y => .ref (PM.fset a.la x p y)))) a.dh (.dK (dkv (F.A ++ [x]) fun y => os (PM.fset F.held x none y)))) a.dn = _ := (upd_ne (Ne.symm n10)).trans ((upd_ne (Ne.symm n4)).trans z2.n)
  refine ⟨_, rfl, f, _, a.dx, _, _, rfl, q3, t.c_Fair, t.a_Fair_next, rfl, _, rfl, a.dn, _, rfl, dput_new (g' := fun y => iv (PM.fset F.next x 0 y)) (v := iv 0) q4 hx ok.a (fun y _ => fset_comp (w := iv)), ?_⟩
  have z5 := z2.upA (A' := F.A ++ [x]) (la' := PM.fset a.la x p) (lst' := PM.fset F.lst x l) (hd' := PM.fset F.held x none) (nx' := PM.fset F.next x 0) (fun y hy => by
    by_cases e : y = x
    · subst e; rw [PM.fset_same, PM.fset_same]; exact hp2
    · rw [PM.fset_ne e, PM.fset_ne e]
      rcases List.mem_append.mp hy with hy | hy
      · exact z2.lt y hy
      · exact absurd (List.mem_singleton.mp hy) e)
  have c5 : Ch (TL K) (S6 f a) H (upd (upd (upd H2 a.dl (.dK (dkv (F.A ++ [x]) fun y => .ref (PM.fset a.la x p y)))) a.dh (.dK (dkv (F.A ++ [x]) fun y => os (PM.fset F.held x none y)))) a.dn (.dK (dkv (F.A ++ [x]) fun y => iv (PM.fset F.next x 0 y)))) :=
    (((Ex.weak e12).putN z2.l nt_dK (.inr s6_l)).putN q2 nt_dK (.inr s6_h)).putN q4 nt_dK (.inr s6_n)
  have I1 : FI (comeF F x l) := by
    refine ⟨?_, I.R, fun y hy => ?_, I.inR, fun y hy => ?_, I.ord⟩
    · show (F.A ++ [x]).Nodup
      rw [List.nodup_append]
      exact ⟨I.A, by simp, fun y hy b hb e => hx (by rw [List.mem_singleton.mp hb] at e; rw [← e]; exact hy)⟩
    · rcases List.mem_append.mp hy with hy | hy
      · exact I.inA y hy
      · rw [List.mem_singleton.mp hy]; exact hxn
    · show (PM.fset F.lst x l y).Nodup ∧ ∀ r ∈ PM.fset F.lst x l y, r ∈ nR
      by_cases e : y = x
      · subst e; rw [PM.fset_same]; exact ⟨hl1, hl2⟩
      · rw [PM.fset_ne e]
        rcases List.mem_append.mp hy with hy | hy
        · exact I.lst y hy
        · exact absurd (List.mem_singleton.mp hy) e
  have D1 : PM.DA (comeF F x l).M (PM.fset F.held x none) (PM.fset F.next x 0) := by
    have mem : ∀ y, y ∈ (comeF F x l).M.A → y ≠ x → y ∈ F.A := fun y hy e => by
      rcases List.mem_append.mp hy with hy | hy
      · exact hy
      · exact absurd (List.mem_singleton.mp hy) e
    refine PM.deed_da (M := F.M) (P := fun y => y = x) (FS.wf ok) (FS.wf I1.ok) ⟨fun y hy e => ⟨mem y hy e, PM.fset_ne e⟩, fun y hy e r => ?_, fun y hy e r lk => ⟨rfl, rfl, fun b hb => ⟨List.mem_append_left _ hb.1, fun e2 => hx (e2 ▸ hb.1)⟩⟩⟩ D (fun y _ => ?_) fun y _ => ?_
    · constructor
      · rintro ⟨_, h2, h3, h4⟩
        exact ⟨mem y hy e, h2, by show r ∈ F.lst y; rw [← show PM.fset F.lst x l y = F.lst y from PM.fset_ne e]; exact h3, h4⟩
      · rintro ⟨h1, h2, h3, h4⟩
        exact ⟨List.mem_append_left _ h1, h2, by show r ∈ PM.fset F.lst x l y; rw [PM.fset_ne e]; exact h3, h4⟩
    · by_cases e : y = x
      · rw [if_pos e, e, PM.fset_same]
      · rw [if_neg e, PM.fset_ne e]
    · by_cases e : y = x
      · rw [if_pos e, e, PM.fset_same]
      · rw [if_neg e, PM.fset_ne e]
  refine ⟨_, rfl, f, _, _, rfl, z5.ins, rfl, f, _, comeF F x l, rfl, z5, I1.ok, I1.sok, D1, c5.tb, fun held' next' asks' H6 c6 z6 D6 S6' => ?_⟩
  have c56 : Ch (TL K) (S6 f a) H H6 := c5.trans c6
  have c25 : Ch (TL K) (S6 f a) H2 H6 := ((((Ch.refl e12.tb).putN z2.l nt_dK (.inr s6_l)).putN q2 nt_dK (.inr s6_h)).putN q4 nt_dK (.inr s6_n)).trans c6
  have hdb6 := c25.k (Ex.k e2 hdb1) (z.notS (New.of hdb))
  refine ⟨_, rfl, f, _, _, rfl, z6.ins, rfl, _, rfl, f, _, _, db, F.A, F.held, rfl, z6, ⟨I1.ok.A, I1.ok.R, I1.ok.lst, I1.ok.ord, I1.ok.a, I1.ok.r⟩, hdb6, by have := ok.a; omega, c6.tb, fun q ys H7 e7 hs hnd hm hq => ?_⟩
  exact hQ hx q H7 ⟨{ a with la := PM.fset a.la x p }, held', next', asks', _, c56.trans (Ex.weak e7), rfl, z6.ex e7, I1, D6, S6', told_all hs hnd hm, hq⟩
end
end PMT

set_option Elab.async false
set_option linter.all false
set_option maxRecDepth 100000
set_option maxHeartbeats 2000000
/-! V8: leave, rooms. -/
namespace PMT
open PySem PySem.Spec PyProof.Rows L2
section
variable {P : Program} {w : World} {K : PySem.W.Frag} {mg : Str → Option Value} {base : Heap}
def leaveF (F : FS) (x : Str) : FS := { F with A := F.A.filter fun y => decide (y ≠ x) }
def spLeave (K : PySem.W.Frag) : Sp := fun vs H Q E => ∃ (f : Addr) (a : FA) (F : FS) (x : Str), vs = [.ref f, .str x] ∧ FairAt K H f a F ∧ FI F ∧ PM.DA F.M F.held F.next ∧ LamX.Tabs (TL K) H ∧
  (x ∉ F.A → E (.ref (He.ga K "NoSuch")) none H) ∧ (x ∈ F.A → ∀ q H', Did K H f a F (leaveF F x) q H' → Q (.ref q) H')
theorem ok_Fair_leave (t : TX K mg base) : Does P w K mg base (L2.CX P w) 6 ("Fair", some "leave") ["self", "asker"] (spLeave K) := by
  obtain ⟨fd_Fair_part_of, G_Fair_part_of, b_Fair_part_of, p_Fair_part_of⟩ := ok_Fair_part_of (P := P) (w := w) t
  obtain ⟨fd_Fair_ask_anew, G_Fair_ask_anew, b_Fair_ask_anew, p_Fair_ask_anew⟩ := ok_Fair_ask_anew (P := P) (w := w) t
  obtain ⟨fd_Fair_told, G_Fair_told, b_Fair_told, p_Fair_told⟩ := ok_Fair_told (P := P) (w := w) t
  have nd := (sc_Fair_leave).nd
  refine t.do_Fair_leave (fun vs H Q E h => by obtain ⟨_, _, _, _, rfl, _⟩ := h; rfl) fun A outer s H vs Q E hr h => ⟨_, (pss_cons (ps_if (pt_cmp (pc_dnotin (hu_of hr) (pv 1) (pe_fldK K rfl (pv 0) rfl))) (pss_one (ps_raise rfl (takes_of rfl rfl rfl rfl) (pmk_own PySem.F.excBase_ValueError t.x_NoSuch.1 t.g_NoSuch t.x_NoSuch.2.1 (raises_own t.x_NoSuch.2.2.1 t.x_NoSuch.2.2.2) rfl))) pss_nil) (PSs.nox (pss_cons (ps_set (i := 2) nd rfl (Or.inl rfl) (pe_callTy call_dictD (by rfl) t.n_dict (by decide +kernel) (pa_cons (pe_fldK K rfl (pv 0) rfl) pa_nil))) (pss_cons (ps_setLc (X := ((X_Fair_leave (L2.CX P w) P w K mg base A outer s H E).nox)) (i := 3) (own := [("one", 4)]) (g := (gName 4)) rfl nd rfl rfl (sw_true rfl rfl rfl (by decide +kernel)) (pi_listK K rfl (pe_meth (pv 0) t.c_Fair t.m_Fair_part_of G_Fair_part_of (hr.mono (by decide)) b_Fair_part_of .nil pass0 (pa_cons (pe_lst (pa_cons (pv 1) pa_nil)) (pa_cons (pe_lst pa_nil) pa_nil)))) (blkOk_by (own := [("one", 4)]) (N := ["self", "asker", "before", "part", "one"]) (sc := defScope PMH.s_Fair_leave) (by decide +kernel)) (fun s1 H1 C1 l1 p1 => (pg_name (i := 4) nd rfl (Or.inl rfl))) (fun s1 H1 C1 l1 p1 => (pts_one (pt_cmpR op_ne (pv 4) (pv 1) (nomark _)))) (fun s1 H1 C1 l1 p1 => (pv 4))) (pss_cons (ps_ddel (pe_fldK K rfl (pv 0) rfl) (pv 1)) (pss_cons (ps_ddel (pe_fldK K rfl (pv 0) rfl) (pv 1)) (pss_cons (ps_ddel (pe_fldK K rfl (pv 0) rfl) (pv 1)) (pss_cons (ps_expr (pe_meth (pv 0) t.c_Fair t.m_Fair_ask_anew G_Fair_ask_anew (hr.mono (by decide)) b_Fair_ask_anew .nil pass0 (pa_cons (pv 3) pa_nil))) (pss_one (ps_ret (pe_meth (pv 0) t.c_Fair t.m_Fair_told G_Fair_told (hr.mono (by decide)) b_Fair_told .nil pass0 (pa_cons (pv 2) pa_nil)))))))))))), ?_⟩
  obtain ⟨f, a, F, x, rfl, z, I, D, hT, hE, hQ⟩ := h
  have ok := I.ok
  refine ⟨_, rfl, _, rfl, f, _, a.dx, _, _, rfl, z.ins, t.c_Fair, t.a_Fair_lists, rfl, a.dl, _, rfl, dget_r (x := x) (.of z.l), _, rfl, ?_⟩
  by_cases hx : x ∈ F.A
  rotate_left
  · rw [if_neg hx]
    exact hE hx
  rw [if_pos hx]
  -- before
  refine ⟨_, rfl, f, _, a.dx, _, _, rfl, z.ins, t.c_Fair, t.a_Fair_held, rfl, a.dh, _, rfl, .of z.h, fun db hdb => ?_⟩
  have e1 : Ex (TL K) H (upd H db (.dK (dkv F.A fun x => os (F.held x)))) := (Ch.refl hT).new hdb
  have hdb1 := upd_same (H := H) (a := db) (o := .dK (dkv F.A fun x => os (F.held x)))
  have z1 := z.ex e1
  -- the part
  refine ⟨_, rfl, f, _, _, rfl, z1.ins, rfl, _, rfl, by show 1 ≤ sizeLine; decide, fun l1 hl1 => ⟨by show 0 ≤ sizeLine; exact Nat.zero_le _, fun l2 hl2 => ?_⟩⟩
  have e2 := (Ch.refl (S := No) e1.tb).new (o := .lst [.str x]) hl1
  have e3 := (Ch.refl (S := No) e2.tb).new (o := .lst []) hl2
  have e13 := e1.trans (e2.trans e3)
  refine ⟨f, a, F, l1, l2, [x], [], rfl, z.ex e13, ok, Ex.k e3 upd_same, upd_same, by simp, by simp, e13.tb, fun wp ws O H4 e4 hwp nwpH wnd wA wS wR wC => ?_⟩
  have e14 := e13.trans e4
  have xw : x ∈ ws := wS x (by simp) hx
  have wl : ws.length ≤ 4 := lenA wnd fun y hy => I.inA y (wA y hy)
  refine ⟨wp, rfl, ⟨_, SqL.of hwp⟩, fun D1 hD1 => ?_⟩
  refine lcf walk_list (ls := ws) (by simp) (fun y => decide (y ≠ x)) V.str e14.tb hD1 (fun H e => Ex.sqL e (SqL.of hwp)) (by have := line_big; omega) ?_ ?_
  · intro i y v H5 H6 N M hi e hY hN hM
    obtain ⟨rfl, rfl⟩ := yat hi hY
    refine ⟨rfl, _, rfl, _, rfl, rfl, _, rfl, ?_⟩
    by_cases hyx : y = x
    · rw [show (!decide (V.str y = V.str x)) = false by simp [hyx]]
      exact hN (by simp [hyx]) _ (Ch.refl e.tb)
    · rw [show (!decide (V.str y = V.str x)) = true by simp [hyx]]
      exact ⟨_, rfl, hM (by simp [hyx]) _ (Ch.refl e.tb)⟩
  intro H5 e5 hD5
  have e15 := e14.trans e5
  have z5 := z.ex e15
  obtain ⟨n1, n2, n3, n4, n5, n6, n7, n8, n9, n10⟩ := z.ne5
  obtain ⟨f1, f2, f3, f4, f5⟩ := z.nf
  -- del
  have vs : ∀ {g : Str → V}, (valV (dkv F.A g) (Sum.inr x)).isSome = true := by intro g; rw [valV_dkv, if_pos hx]; rfl
  refine ⟨_, rfl, f, _, a.dx, _, _, rfl, z5.ins, t.c_Fair, t.a_Fair_lists, rfl, _, rfl, a.dl, _, Sum.inr x, rfl, z5.l, rfl, vs, ?_⟩
  rw [dropK_dkv]
  have q1 : (upd H5 a.dl (.dK (dkv (F.A.filter fun y => decide (y ≠ x)) fun y => .ref (a.la y)))) f = _ := (upd_ne f1).trans z5.ins
  have q2 : (upd H5 a.dl (.dK (dkv (F.A.filter fun y => decide (y ≠ x)) fun y => .ref (a.la y)))) a.dh = _ := (upd_ne (Ne.symm n3)).trans z5.h
  refine ⟨_, rfl, f, _, a.dx, _, _, rfl, q1, t.c_Fair, t.a_Fair_held, rfl, _, rfl, a.dh, _, Sum.inr x, rfl, q2, rfl, vs, ?_⟩
  rw [dropK_dkv]
  have q3 : (upd (upd H5 a.dl (.dK (dkv (F.A.filter fun y => decide (y ≠ x)) fun y => .ref (a.la y)))) a.dh (.dK (dkv (F.A.filter fun y => decide (y ≠ x)) fun y => os (F.held y)))) f = _ := (upd_ne f4).trans q1
  have q4 : (upd (upd H5 a.dl (.dK (dkv (F.A.filter fun y => decide (y ≠ x)) fun y => .ref (a.la y)))) a.dh (.dK (dkv (F.A.filter fun y => decide (y ≠ x)) fun y => os (F.held y)))) a.dn = _ := (upd_ne (Ne.symm n10)).trans ((upd_ne (Ne.symm n4)).trans z5.n)
  refine ⟨_, rfl, f, _, a.dx, _, _, rfl, q3, t.c_Fair, t.a_Fair_next, rfl, _, rfl, a.dn, _, Sum.inr x, rfl, q4, rfl, vs, ?_⟩
  rw [dropK_dkv]
  have z6 := z5.upA (A' := F.A.filter fun y => decide (y ≠ x)) (la' := a.la) (lst' := F.lst) (hd' := F.held) (nx' := F.next) (fun y hy => z5.lt y (List.mem_filter.mp hy).1)
  have c56 : Ch (TL K) (S6 f a) H5 _ := (((Ch.refl e15.tb).putN (o := .dK (dkv (F.A.filter fun y => decide (y ≠ x)) fun y => .ref (a.la y))) z5.l nt_dK (.inr s6_l)).putN (o := .dK (dkv (F.A.filter fun y => decide (y ≠ x)) fun y => os (F.held y))) q2 nt_dK (.inr s6_h)).putN (o := .dK (dkv (F.A.filter fun y => decide (y ≠ x)) fun y => iv (F.next y))) q4 nt_dK (.inr s6_n)
  have nw : ∀ {d : Addr}, New H d → ¬ S6 f a d := fun n => z.notS n
  have hDn : New H D1 := Ex.backN e14 (New.of hD1)
  have hD6 := c56.k hD5 (nw hDn)
  have I1 : FI (leaveF F x) := ⟨I.A.sublist List.filter_sublist, I.R, fun y hy => I.inA y (List.mem_filter.mp hy).1, I.inR, fun y hy => I.lst y (List.mem_filter.mp hy).1, I.ord⟩
  have pm : ∀ y, y ∈ ws.filter (fun y => decide (y ≠ x)) ↔ y ∈ ws ∧ y ≠ x := fun y => by rw [List.mem_filter, decide_eq_true_eq]
  have am : ∀ y, y ∈ (leaveF F x).M.A ↔ y ∈ F.A ∧ y ≠ x := fun y => by
    show y ∈ F.A.filter _ ↔ _
    rw [List.mem_filter, decide_eq_true_eq]
  have D6 : PM.DA (leaveF F x).M (rsH F.held (ws.filter fun y => decide (y ≠ x))) (rsN F.next (ws.filter fun y => decide (y ≠ x))) := by
    refine PM.deed_da (M := F.M) (P := fun y => y ∈ ws.filter fun y => decide (y ≠ x)) (FS.wf ok) (FS.wf I1.ok) ⟨fun y hy _ => ⟨((am y).mp hy).1, rfl⟩, fun y hy _ r => ?_, fun y hy hn r lk => ⟨rfl, rfl, fun b hb => ?_⟩⟩ D (fun _ _ => rfl) fun _ _ => rfl
    · exact ⟨fun ⟨h1, h2, h3, h4⟩ => ⟨((am y).mp h1).1, h2, h3, h4⟩, fun ⟨h1, h2, h3, h4⟩ => ⟨hy, h2, h3, h4⟩⟩
    · have h1 : y ∉ ws := fun h => hn ((pm y).mpr ⟨h, ((am y).mp hy).2⟩)
      have h2 : r ∉ O := fun h => h1 ((wC y r lk).mpr h)
      have h3 : b ∉ ws := fun h => h2 ((wC b r hb).mp h)
      exact ⟨(am b).mpr ⟨hb.1, fun e => h3 (e ▸ xw)⟩, fun h => h3 ((pm b).mp h).1⟩
  refine ⟨_, rfl, f, _, _, rfl, z6.ins, rfl, _, rfl, f, _, leaveF F x, D1, ws.filter fun y => decide (y ≠ x), rfl, z6, I1.ok, I1.sok, hD6, fun y hy => (am y).mpr ⟨wA y ((pm y).mp hy).1, ((pm y).mp hy).2⟩, D6, c56.tb, fun held' next' asks' H7 c7 z7 D7 S7 => ?_⟩
  have c57 := c56.trans c7
  have hdb7 := c57.k (Ex.k ((e2.trans e3).trans (e4.trans e5)) hdb1) (nw (New.of hdb))
  refine ⟨_, rfl, f, _, _, rfl, z7.ins, rfl, _, rfl, f, _, _, db, F.A, F.held, rfl, z7, ⟨I1.ok.A, I1.ok.R, I1.ok.lst, I1.ok.ord, I1.ok.a, I1.ok.r⟩, hdb7, by have := ok.a; omega, c7.tb, fun q ys H8 e8 hs hnd hm hq => ?_⟩
  exact hQ hx q H8 ⟨a, held', next', asks', _, ((Ex.weak e15).trans c57).trans (Ex.weak e8), rfl, z7.ex e8, I1, D7, S7, told_all hs hnd hm, hq⟩

def setF (F : FS) (r : Str) (l : List Str) (c : Nat) : FS := { F with R := if r ∈ F.R then F.R else F.R ++ [r], ord := PM.fset F.ord r l, q := PM.fset F.q r c }
def spSetRoom (K : PySem.W.Frag) : Sp := fun vs H Q _ => ∃ (f : Addr) (a : FA) (F : FS) (r : Str) (p : Addr) (l : List Str) (c : Nat), vs = [.ref f, .str r, .ref p, iv c] ∧ FairAt K H f a F ∧ F.Ok ∧ SqT K H p (l.map V.str) ∧ LamX.Tabs (TL K) H ∧
  ∀ H', Ch (TL K) (fun y => y = a.do_ ∨ y = a.ds) H H' → FairAt K H' f { a with oa := PM.fset a.oa r p } (setF F r l c) → Q .non H'
theorem ok_Fair_set_room (t : TX K mg base) : Does P w K mg base CX0 2 ("Fair", some "set_room") ["self", "room", "askers", "count"] (spSetRoom K) := by
  have nd := (sc_Fair_set_room).nd
  refine t.do_Fair_set_room (fun vs H Q E h => by obtain ⟨_, _, _, _, _, _, _, rfl, _⟩ := h; rfl) fun A outer s H vs Q E hr h => ⟨_, PSs.nox ((pss_cons (ps_if (pt_cmpR op_lt (pv 3) pe_int (nomark _)) (pss_one ps_never) pss_nil) (pss_cons (ps_dput (hu_of hr) (pe_fldK K rfl (pv 0) rfl) (pv 1) (pv 2) rfl) (pss_one (ps_dput (hu_of hr) (pe_fldK K rfl (pv 0) rfl) (pv 1) (pv 3) rfl))))), ?_⟩
  obtain ⟨f, a, F, r, p, l, c, rfl, z, ok, hp, hT, hQ⟩ := h
  have e0 : decide ((c : Int) < 0) = false := decide_eq_false (by omega)
  refine ⟨_, rfl, _, _, rfl, rfl, _, rfl, ?_⟩
  rw [e0]
  obtain ⟨n1, n2, n3, n4, n5, n6, n7, n8, n9, n10⟩ := z.ne5
  obtain ⟨f1, f2, f3, f4, f5⟩ := z.nf
  have hr8 := ok.r
  have gp : ∀ {γ : Type} (u : Str → γ) (w : γ → V) (v : γ) {H : Hp} {d : Addr}, H d = some (.dK (dkv F.R fun y => w (u y))) → DPut H d (.str r) (w v) (upd H d (.dK (dkv (if r ∈ F.R then F.R else F.R ++ [r]) fun y => w (PM.fset u r v y))))   := fun {_} u w v {_} {_} h => by
    by_cases hr0 : r ∈ F.R
    · rw [if_pos hr0]
      exact dput_old h hr0 hr8 fun y _ => fset_comp (w := w)
    · rw [if_neg hr0]
      exact dput_new h hr0 hr8 fun y _ => fset_comp (w := w)
  refine ⟨_, rfl, _, rfl, f, _, a.dx, _, _, rfl, z.ins, t.c_Fair, t.a_Fair_orders, rfl, _, rfl, a.do_, _, rfl, gp a.oa V.ref p z.o, ?_⟩
  have q1 : (upd H a.do_ (.dK (dkv (if r ∈ F.R then F.R else F.R ++ [r]) fun y => .ref (PM.fset a.oa r p y)))) f = _ := (upd_ne f2).trans z.ins
  have q2 : (upd H a.do_ (.dK (dkv (if r ∈ F.R then F.R else F.R ++ [r]) fun y => .ref (PM.fset a.oa r p y)))) a.ds = _ := (upd_ne (Ne.symm n5)).trans z.s
  refine ⟨_, rfl, _, rfl, f, _, a.dx, _, _, rfl, q1, t.c_Fair, t.a_Fair_seats, rfl, _, rfl, a.ds, _, rfl, gp F.q iv c q2, ?_⟩
  have z1 := z.upR (R' := if r ∈ F.R then F.R else F.R ++ [r]) (oa' := PM.fset a.oa r p) (ord' := PM.fset F.ord r l) (q' := PM.fset F.q r c) (fun y hy => by
    by_cases e : y = r
    · subst e; rw [PM.fset_same, PM.fset_same]; exact hp
    · rw [PM.fset_ne e, PM.fset_ne e]
      by_cases hr0 : r ∈ F.R
      · rw [if_pos hr0] at hy; exact z.ot y hy
      · rw [if_neg hr0] at hy
        rcases List.mem_append.mp hy with hy | hy
        · exact z.ot y hy
        · exact absurd (List.mem_singleton.mp hy) e)
  exact hQ _ (((Ch.refl hT).putN z.o nt_dK (.inr (.inl rfl))).putN q2 nt_dK (.inr (.inr rfl))) z1
theorem setF_R {F : FS} {r y : Str} {l : List Str} {c : Nat} : y ∈ (setF F r l c).R ↔ y ∈ F.R ∨ y = r := by
  show y ∈ (if r ∈ F.R then F.R else F.R ++ [r]) ↔ _
  by_cases h : r ∈ F.R
  · rw [if_pos h]
    exact ⟨.inl, fun z => z.elim id fun e => e ▸ h⟩
  · rw [if_neg h]; simp
theorem setF_I {F : FS} (I : FI F) {r : Str} {l : List Str} {c : Nat} (hr : r ∈ nR) (h1 : l.Nodup) (h2 : ∀ x ∈ l, x ∈ nA) : FI (setF F r l c) := by
  refine ⟨I.A, ?_, I.inA, fun y hy => ?_, I.lst, fun y hy => ?_⟩
  · show (if r ∈ F.R then F.R else F.R ++ [r]).Nodup
    by_cases h : r ∈ F.R
    · rw [if_pos h]; exact I.R
    · rw [if_neg h, List.nodup_append]
      exact ⟨I.R, by simp, fun y hy b hb e => h (by rw [List.mem_singleton.mp hb] at e; rw [← e]; exact hy)⟩
  · rcases setF_R.mp hy with h | h
    · exact I.inR y h
    · rw [h]; exact hr
  · show (PM.fset F.ord r l y).Nodup ∧ ∀ x ∈ PM.fset F.ord r l y, x ∈ nA
    by_cases e : y = r
    · subst e; rw [PM.fset_same]; exact ⟨h1, h2⟩
    · rw [PM.fset_ne e]
      rcases setF_R.mp hy with h | h
      · exact I.ord y h
      · exact absurd h e
theorem setF_likes {F : FS} {r y b : Str} {l : List Str} {c : Nat} (h : y ≠ r) : (setF F r l c).M.likes b y ↔ F.M.likes b y := by
  have e1 : (setF F r l c).M.ord y = F.M.ord y := PM.fset_ne h
  unfold PM.Mkt.likes
  rw [e1]
  exact ⟨fun ⟨h1, h2, h3, h4⟩ => ⟨h1, ((setF_R (l := l) (c := c)).mp h2).resolve_right h, h3, h4⟩, fun ⟨h1, h2, h3, h4⟩ => ⟨h1, (setF_R (l := l) (c := c)).mpr (.inl h2), h3, h4⟩⟩
def spOpen (K : PySem.W.Frag) : Sp := fun vs H Q E => ∃ (f : Addr) (a : FA) (F : FS) (r : Str) (p : Addr) (l : List Str) (c : Nat), vs = [.ref f, .str r, .ref p, iv c] ∧ FairAt K H f a F ∧ FI F ∧ PM.DA F.M F.held F.next ∧ r ∈ nR ∧ SqT K H p (l.map V.str) ∧ l.Nodup ∧ (∀ x ∈ l, x ∈ nA) ∧ LamX.Tabs (TL K) H ∧
  (r ∈ F.R → E (.ref (He.ga K "BadDeed")) none H) ∧ (r ∉ F.R → ∀ q H', Did K H f a F (setF F r l c) q H' → Q (.ref q) H')
theorem ok_Fair_open_room (t : TX K mg base) : Does P w K mg base (L2.CX P w) 6 ("Fair", some "open_room") ["self", "room", "askers", "count"] (spOpen K) := by
  obtain ⟨fd_Fair_set_room, G_Fair_set_room, b_Fair_set_room, p_Fair_set_room⟩ := ok_Fair_set_room (P := P) (w := w) t
  obtain ⟨fd_check_words, G_check_words, b_check_words, p_check_words⟩ := ok_check_words (P := P) (w := w) t
  obtain ⟨fd_Fair_ask_anew, G_Fair_ask_anew, b_Fair_ask_anew, p_Fair_ask_anew⟩ := ok_Fair_ask_anew (P := P) (w := w) t
  obtain ⟨fd_Fair_part_of, G_Fair_part_of, b_Fair_part_of, p_Fair_part_of⟩ := ok_Fair_part_of (P := P) (w := w) t
  obtain ⟨fd_Fair_told, G_Fair_told, b_Fair_told, p_Fair_told⟩ := ok_Fair_told (P := P) (w := w) t
  have nd := (sc_Fair_open_room).nd
  refine t.do_Fair_open_room (fun vs H Q E h => by obtain ⟨_, _, _, _, _, _, _, rfl, _⟩ := h; rfl) fun A outer s H vs Q E hr h => ⟨_, (pss_cons (ps_if (pt_cmp (pc_din (hu_of hr) (pv 1) (pe_fldK K rfl (pv 0) rfl))) (pss_one (ps_raise rfl (takes_of rfl rfl rfl rfl) (pmk_own PySem.F.excBase_ValueError t.x_BadDeed.1 t.g_BadDeed t.x_BadDeed.2.1 (raises_own t.x_BadDeed.2.2.1 t.x_BadDeed.2.2.2) rfl))) pss_nil) (PSs.nox (pss_cons (ps_set (i := 4) nd rfl (Or.inl rfl) (pe_callTy call_dictD (by rfl) t.n_dict (by decide +kernel) (pa_cons (pe_fldK K rfl (pv 0) rfl) pa_nil))) (pss_cons (ps_expr (pe_meth (pv 0) t.c_Fair t.m_Fair_set_room G_Fair_set_room (hr.mono (by decide)) b_Fair_set_room .nil pass0 (pa_cons (pv 1) (pa_cons (pe_call G_check_words (hr.mono (by decide)) (by rfl) t.g_check_words p_check_words b_check_words .nil pass0 (pa_cons (pv 2) pa_nil)) (pa_cons (pv 3) pa_nil))))) (pss_cons (ps_expr (pe_meth (pv 0) t.c_Fair t.m_Fair_ask_anew G_Fair_ask_anew (hr.mono (by decide)) b_Fair_ask_anew .nil pass0 (pa_cons (pe_meth (pv 0) t.c_Fair t.m_Fair_part_of G_Fair_part_of (hr.mono (by decide)) b_Fair_part_of .nil pass0 (pa_cons (pe_lst pa_nil) (pa_cons (pe_lst (pa_cons (pv 1) pa_nil)) pa_nil))) pa_nil))) (pss_one (ps_ret (pe_meth (pv 0) t.c_Fair t.m_Fair_told G_Fair_told (hr.mono (by decide)) b_Fair_told .nil pass0 (pa_cons (pv 4) pa_nil))))))))), ?_⟩
  obtain ⟨f, a, F, r, p, l, c, rfl, z, I, D, hrn, hp, hl1, hl2, hT, hE, hQ⟩ := h
  have ok := I.ok
  have l4 := lenA hl1 hl2
  refine ⟨_, rfl, _, rfl, f, _, a.dx, _, _, rfl, z.ins, t.c_Fair, t.a_Fair_orders, rfl, a.do_, _, rfl, dget_r (x := r) (.of z.o), _, rfl, ?_⟩
  by_cases hr0 : r ∈ F.R
  · rw [if_pos hr0]
    exact hE hr0
  rw [if_neg hr0]
  refine ⟨_, rfl, f, _, a.dx, _, _, rfl, z.ins, t.c_Fair, t.a_Fair_held, rfl, a.dh, _, rfl, .of z.h, fun db hdb => ?_⟩
  have e1 : Ex (TL K) H (upd H db (.dK (dkv F.A fun x => os (F.held x)))) := (Ch.refl hT).new hdb
  have hdb1 := upd_same (H := H) (a := db) (o := .dK (dkv F.A fun x => os (F.held x)))
  have z1 := z.ex e1
  refine ⟨_, rfl, f, _, _, rfl, z1.ins, rfl, _, rfl, _, rfl, p, l, rfl, Ex.sqT e1 hp, hl1, by omega, e1.tb, fun H2 e2 => ?_⟩
  have e12 := e1.trans e2
  refine ⟨_, rfl, f, a, F, r, p, l, c, rfl, z.ex e12, ok, Ex.sqT e12 hp, e12.tb, fun H3 c3 z3 => ?_⟩
  have c3' : Ch (TL K) (S6 f a) H2 H3 := Ch.weak c3 fun y h => h.elim (fun h => h ▸ s6_o) fun h => h ▸ s6_s
  have I1 : FI (setF F r l c) := setF_I I hrn hl1 hl2
  refine ⟨_, rfl, f, _, _, rfl, z3.ins, rfl, ?_⟩
  refine ⟨_, rfl, f, _, _, rfl, z3.ins, rfl, by show 0 ≤ sizeLine; exact Nat.zero_le _, fun l1 hl1' => ⟨_, rfl, by show 1 ≤ sizeLine; decide, fun l2 hl2' => ?_⟩⟩
  have e4 := (Ch.refl (S := No) c3.tb).new (o := .lst []) hl1'
  have e5 := (Ch.refl (S := No) e4.tb).new (o := .lst [.str r]) hl2'
  have e45 := e4.trans e5
  refine ⟨f, _, setF F r l c, l1, l2, [], [r], rfl, z3.ex e45, I1.ok, Ex.k e5 upd_same, upd_same, by simp, by simp, e45.tb, fun wp ws O H6 e6 hwp nwpH wnd wA wS wR wC => ?_⟩
  have e46 := e45.trans e6
  have z6 := z3.ex e46
  have rO : r ∈ O := wR r (by simp)
  have nr : ∀ y, y ∈ F.A → y ∉ ws → ∀ r', F.M.likes y r' → r' ≠ r ∧ r' ∉ O := fun y _ hn r' lk => by
    have ne : r' ≠ r := fun e => hr0 (e ▸ lk.2.1)
    exact ⟨ne, fun h => hn ((wC y r' ((setF_likes ne).mpr lk)).mpr h)⟩
  have D6 : PM.DA (setF F r l c).M (rsH F.held ws) (rsN F.next ws) := by
    refine PM.deed_da (M := F.M) (P := fun y => y ∈ ws) (FS.wf ok) (FS.wf I1.ok) ⟨fun y hy _ => ⟨hy, rfl⟩, fun y hy hn r' => ?_, fun y hy hn r' lk => ?_⟩ D (fun _ _ => rfl) fun _ _ => rfl
    · by_cases e : r' = r
      · subst e
        exact ⟨fun lk => absurd ((wC y r' lk).mpr rO) hn, fun lk => absurd lk.2.1 hr0⟩
      · exact setF_likes e
    · obtain ⟨ne, hO⟩ := nr y hy hn r' lk
      exact ⟨PM.fset_ne ne, PM.fset_ne ne, fun b hb => ⟨hb.1, fun h => hO ((wC b r' ((setF_likes ne).mpr hb)).mp h)⟩⟩
  refine ⟨f, _, setF F r l c, wp, ws, rfl, z6, I1.ok, I1.sok, hwp, wA, D6, e46.tb, fun held' next' asks' H7 c7 z7 D7 S7 => ?_⟩
  have c27 : Ch (TL K) (S6 f a) H2 H7 := (c3'.trans (Ex.weak e46)).trans c7
  have hdb7 := c27.k (Ex.k e2 hdb1) (z.notS (New.of hdb))
  refine ⟨_, rfl, f, _, _, rfl, z7.ins, rfl, _, rfl, f, _, _, db, F.A, F.held, rfl, z7, ⟨I1.ok.A, I1.ok.R, I1.ok.lst, I1.ok.ord, I1.ok.a, I1.ok.r⟩, hdb7, by have := ok.a; omega, c7.tb, fun q ys H8 e8 hs hnd hm hq => ?_⟩
  exact hQ hr0 q H8 ⟨{ a with oa := PM.fset a.oa r p }, held', next', asks', _, ((Ex.weak e12).trans c27).trans (Ex.weak e8), rfl, z7.ex e8, I1, D7, S7, told_all hs hnd hm, hq⟩
end
end PMT

set_option Elab.async false
set_option linter.all false
set_option maxRecDepth 100000
set_option maxHeartbeats 2000000
/-! V9: rooms shut and change. -/
namespace PMT
open PySem PySem.Spec PyProof.Rows L2
section
variable {P : Program} {w : World} {K : PySem.W.Frag} {mg : Str → Option Value} {base : Heap}
def shutF (F : FS) (r : Str) : FS := { F with R := F.R.filter fun y => decide (y ≠ r) }
def spShut (K : PySem.W.Frag) : Sp := fun vs H Q E => ∃ (f : Addr) (a : FA) (F : FS) (r : Str), vs = [.ref f, .str r] ∧ FairAt K H f a F ∧ FI F ∧ PM.DA F.M F.held F.next ∧ LamX.Tabs (TL K) H ∧
  (r ∉ F.R → E (.ref (He.ga K "NoSuch")) none H) ∧ (r ∈ F.R → ∀ q H', Did K H f a F (shutF F r) q H' → Q (.ref q) H')
theorem ok_Fair_shut_room (t : TX K mg base) : Does P w K mg base (L2.CX P w) 6 ("Fair", some "shut_room") ["self", "room"] (spShut K) := by
  obtain ⟨fd_Fair_part_of, G_Fair_part_of, b_Fair_part_of, p_Fair_part_of⟩ := ok_Fair_part_of (P := P) (w := w) t
  obtain ⟨fd_Fair_ask_anew, G_Fair_ask_anew, b_Fair_ask_anew, p_Fair_ask_anew⟩ := ok_Fair_ask_anew (P := P) (w := w) t
  obtain ⟨fd_Fair_told, G_Fair_told, b_Fair_told, p_Fair_told⟩ := ok_Fair_told (P := P) (w := w) t
  have nd := (sc_Fair_shut_room).nd
  refine t.do_Fair_shut_room (fun vs H Q E h => by obtain ⟨_, _, _, _, rfl, _⟩ := h; rfl) fun A outer s H vs Q E hr h => ⟨_, (pss_cons (ps_if (pt_cmp (pc_dnotin (hu_of hr) (pv 1) (pe_fldK K rfl (pv 0) rfl))) (pss_one (ps_raise rfl (takes_of rfl rfl rfl rfl) (pmk_own PySem.F.excBase_ValueError t.x_NoSuch.1 t.g_NoSuch t.x_NoSuch.2.1 (raises_own t.x_NoSuch.2.2.1 t.x_NoSuch.2.2.2) rfl))) pss_nil) (PSs.nox (pss_cons (ps_set (i := 2) nd rfl (Or.inl rfl) (pe_callTy call_dictD (by rfl) t.n_dict (by decide +kernel) (pa_cons (pe_fldK K rfl (pv 0) rfl) pa_nil))) (pss_cons (ps_set (i := 3) nd rfl (Or.inl rfl) (pe_meth (pv 0) t.c_Fair t.m_Fair_part_of G_Fair_part_of (hr.mono (by decide)) b_Fair_part_of .nil pass0 (pa_cons (pe_lst pa_nil) (pa_cons (pe_lst (pa_cons (pv 1) pa_nil)) pa_nil)))) (pss_cons (ps_ddel (pe_fldK K rfl (pv 0) rfl) (pv 1)) (pss_cons (ps_ddel (pe_fldK K rfl (pv 0) rfl) (pv 1)) (pss_cons (ps_expr (pe_meth (pv 0) t.c_Fair t.m_Fair_ask_anew G_Fair_ask_anew (hr.mono (by decide)) b_Fair_ask_anew .nil pass0 (pa_cons (pv 3) pa_nil))) (pss_one (ps_ret (pe_meth (pv 0) t.c_Fair t.m_Fair_told G_Fair_told (hr.mono (by decide)) b_Fair_told .nil pass0 (pa_cons (pv 2) pa_nil))))))))))), ?_⟩
  obtain ⟨f, a, F, r, rfl, z, I, D, hT, hE, hQ⟩ := h
  have ok := I.ok
  refine ⟨_, rfl, _, rfl, f, _, a.dx, _, _, rfl, z.ins, t.c_Fair, t.a_Fair_orders, rfl, a.do_, _, rfl, dget_r (x := r) (.of z.o), _, rfl, ?_⟩
  by_cases hr0 : r ∈ F.R
  rotate_left
  · rw [if_neg hr0]
    exact hE hr0
  rw [if_pos hr0]
  refine ⟨_, rfl, f, _, a.dx, _, _, rfl, z.ins, t.c_Fair, t.a_Fair_held, rfl, a.dh, _, rfl, .of z.h, fun db hdb => ?_⟩
  have e1 : Ex (TL K) H (upd H db (.dK (dkv F.A fun x => os (F.held x)))) := (Ch.refl hT).new hdb
  have hdb1 := upd_same (H := H) (a := db) (o := .dK (dkv F.A fun x => os (F.held x)))
  have z1 := z.ex e1
  refine ⟨_, rfl, f, _, _, rfl, z1.ins, rfl, by show 0 ≤ sizeLine; exact Nat.zero_le _, fun l1 hl1 => ⟨_, rfl, by show 1 ≤ sizeLine; decide, fun l2 hl2 => ?_⟩⟩
  have e2 := (Ch.refl (S := No) e1.tb).new (o := .lst []) hl1
  have e3 := (Ch.refl (S := No) e2.tb).new (o := .lst [.str r]) hl2
  have e13 := e1.trans (e2.trans e3)
  refine ⟨f, a, F, l1, l2, [], [r], rfl, z.ex e13, ok, Ex.k e3 upd_same, upd_same, by simp, by simp, e13.tb, fun wp ws O H5 e4 hwp nwpH wnd wA wS wR wC => ?_⟩
  have e15 := e13.trans e4
  have rO : r ∈ O := wR r (by simp)
  have z5 := z.ex e15
  obtain ⟨n1, n2, n3, n4, n5, n6, n7, n8, n9, n10⟩ := z.ne5
  obtain ⟨f1, f2, f3, f4, f5⟩ := z.nf
  have vs : ∀ {g : Str → V}, (valV (dkv F.R g) (Sum.inr r)).isSome = true := by intro g; rw [valV_dkv, if_pos hr0]; rfl
  refine ⟨_, rfl, f, _, a.dx, _, _, rfl, z5.ins, t.c_Fair, t.a_Fair_orders, rfl, _, rfl, a.do_, _, Sum.inr r, rfl, z5.o, rfl, vs, ?_⟩
  rw [dropK_dkv]
  have q1 : (upd H5 a.do_ (.dK (dkv (F.R.filter fun y => decide (y ≠ r)) fun y => .ref (a.oa y)))) f = _ := (upd_ne f2).trans z5.ins
  have q2 : (upd H5 a.do_ (.dK (dkv (F.R.filter fun y => decide (y ≠ r)) fun y => .ref (a.oa y)))) a.ds = _ := (upd_ne (Ne.symm n5)).trans z5.s
  refine ⟨_, rfl, f, _, a.dx, _, _, rfl, q1, t.c_Fair, t.a_Fair_seats, rfl, _, rfl, a.ds, _, Sum.inr r, rfl, q2, rfl, vs, ?_⟩
  rw [dropK_dkv]
  have z6 := z5.upR (R' := F.R.filter fun y => decide (y ≠ r)) (oa' := a.oa) (ord' := F.ord) (q' := F.q) (fun y hy => z5.ot y (List.mem_filter.mp hy).1)
  have c56 : Ch (TL K) (S6 f a) H5 _ := ((Ch.refl e15.tb).putN (o := .dK (dkv (F.R.filter fun y => decide (y ≠ r)) fun y => .ref (a.oa y))) z5.o nt_dK (.inr s6_o)).putN (o := .dK (dkv (F.R.filter fun y => decide (y ≠ r)) fun y => iv (F.q y))) q2 nt_dK (.inr s6_s)
  have nwp : wp ≠ a.do_ := ne_of hwp z5.o (by intro z; cases z)
  have nwp2 : wp ≠ a.ds := ne_of hwp z5.s (by intro z; cases z)
  have I1 : FI (shutF F r) := ⟨I.A, I.R.sublist List.filter_sublist, I.inA, fun y hy => I.inR y (List.mem_filter.mp hy).1, I.lst, fun y hy => I.ord y (List.mem_filter.mp hy).1⟩
  have rm : ∀ y, y ∈ (shutF F r).M.R ↔ y ∈ F.R ∧ y ≠ r := fun y => by
    show y ∈ F.R.filter _ ↔ _
    rw [List.mem_filter, decide_eq_true_eq]
  have D6 : PM.DA (shutF F r).M (rsH F.held ws) (rsN F.next ws) := by
    refine PM.deed_da (M := F.M) (P := fun y => y ∈ ws) (FS.wf ok) (FS.wf I1.ok) ⟨fun y hy _ => ⟨hy, rfl⟩, fun y hy hn r' => ?_, fun y hy hn r' lk => ⟨rfl, rfl, fun b hb => ⟨hb.1, fun h => hn ((wC y r' lk).mpr ((wC b r' hb).mp h))⟩⟩⟩ D (fun _ _ => rfl) fun _ _ => rfl
    exact ⟨fun ⟨h1, h2, h3, h4⟩ => ⟨h1, ((rm r').mp h2).1, h3, h4⟩, fun lk => ⟨lk.1, (rm r').mpr ⟨lk.2.1, fun e => hn ((wC y r' lk).mpr (e ▸ rO))⟩, lk.2.2.1, lk.2.2.2⟩⟩
  refine ⟨_, rfl, f, _, _, rfl, z6.ins, rfl, _, rfl, f, _, shutF F r, wp, ws, rfl, z6, I1.ok, I1.sok, by rw [upd_ne nwp2, upd_ne nwp]; exact hwp, wA, D6, c56.tb, fun held' next' asks' H7 c7 z7 D7 S7 => ?_⟩
  have c57 := c56.trans c7
  have hdb7 := c57.k (Ex.k ((e2.trans e3).trans e4) hdb1) (z.notS (New.of hdb))
  refine ⟨_, rfl, f, _, _, rfl, z7.ins, rfl, _, rfl, f, _, _, db, F.A, F.held, rfl, z7, ⟨I1.ok.A, I1.ok.R, I1.ok.lst, I1.ok.ord, I1.ok.a, I1.ok.r⟩, hdb7, by have := ok.a; omega, c7.tb, fun q ys H8 e8 hs hnd hm hq => ?_⟩
  exact hQ hr0 q H8 ⟨a, held', next', asks', _, ((Ex.weak e15).trans c57).trans (Ex.weak e8), rfl, z7.ex e8, I1, D7, S7, told_all hs hnd hm, hq⟩
def spChange (K : PySem.W.Frag) : Sp := fun vs H Q E => ∃ (f : Addr) (a : FA) (F : FS) (r : Str) (p : Addr) (l : List Str) (c : Nat), vs = [.ref f, .str r, .ref p, iv c] ∧ FairAt K H f a F ∧ FI F ∧ PM.DA F.M F.held F.next ∧ r ∈ nR ∧ SqT K H p (l.map V.str) ∧ l.Nodup ∧ (∀ x ∈ l, x ∈ nA) ∧ LamX.Tabs (TL K) H ∧
  (r ∉ F.R → E (.ref (He.ga K "NoSuch")) none H) ∧ (r ∈ F.R → ∀ q H', Did K H f a F (setF F r l c) q H' → Q (.ref q) H')
theorem ok_Fair_change_room (t : TX K mg base) : Does P w K mg base (L2.CX P w) 6 ("Fair", some "change_room") ["self", "room", "askers", "count"] (spChange K) := by
  obtain ⟨fd_check_words, G_check_words, b_check_words, p_check_words⟩ := ok_check_words (P := P) (w := w) t
  obtain ⟨fd_Fair_part_of, G_Fair_part_of, b_Fair_part_of, p_Fair_part_of⟩ := ok_Fair_part_of (P := P) (w := w) t
  obtain ⟨fd_Fair_set_room, G_Fair_set_room, b_Fair_set_room, p_Fair_set_room⟩ := ok_Fair_set_room (P := P) (w := w) t
  obtain ⟨fd_Fair_ask_anew, G_Fair_ask_anew, b_Fair_ask_anew, p_Fair_ask_anew⟩ := ok_Fair_ask_anew (P := P) (w := w) t
  obtain ⟨fd_Fair_told, G_Fair_told, b_Fair_told, p_Fair_told⟩ := ok_Fair_told (P := P) (w := w) t
  have nd := (sc_Fair_change_room).nd
  refine t.do_Fair_change_room (fun vs H Q E h => by obtain ⟨_, _, _, _, _, _, _, rfl, _⟩ := h; rfl) fun A outer s H vs Q E hr h => ⟨_, (pss_cons (ps_if (pt_cmp (pc_dnotin (hu_of hr) (pv 1) (pe_fldK K rfl (pv 0) rfl))) (pss_one (ps_raise rfl (takes_of rfl rfl rfl rfl) (pmk_own PySem.F.excBase_ValueError t.x_NoSuch.1 t.g_NoSuch t.x_NoSuch.2.1 (raises_own t.x_NoSuch.2.2.1 t.x_NoSuch.2.2.2) rfl))) pss_nil) (PSs.nox (pss_cons (ps_par (by rfl) nd (i := 5) (j := 6) rfl rfl (by decide) rfl rfl (pa_cons (pe_call G_check_words (hr.mono (by decide)) (by rfl) t.g_check_words p_check_words b_check_words .nil pass0 (pa_cons (pv 2) pa_nil)) (pa_cons (pe_callTy call_dictD (by rfl) t.n_dict (by decide +kernel) (pa_cons (pe_fldK K rfl (pv 0) rfl) pa_nil)) pa_nil)) (by rfl)) (pss_cons (ps_if (pt_cmpR op_lt (pv 3) pe_int (nomark _)) (pss_one ps_never) pss_nil) (pss_cons (ps_set (i := 4) nd rfl (Or.inr rfl) (pe_meth (pv 0) t.c_Fair t.m_Fair_part_of G_Fair_part_of (hr.mono (by decide)) b_Fair_part_of .nil pass0 (pa_cons (pe_lst pa_nil) (pa_cons (pe_lst (pa_cons (pv 1) pa_nil)) pa_nil)))) (pss_cons (ps_expr (pe_meth (pv 0) t.c_Fair t.m_Fair_set_room G_Fair_set_room (hr.mono (by decide)) b_Fair_set_room .nil pass0 (pa_cons (pv 1) (pa_cons (pv 5) (pa_cons (pv 3) pa_nil))))) (pss_cons (ps_aug (i := 4) nd rfl (Or.inr rfl) (pe_lc (X := ((X_Fair_change_room (L2.CX P w) P w K mg base A outer s H E).nox)) (own := [("one", 7)]) (g := (gName 7)) rfl nd (pi_listK K rfl (pe_meth (pv 0) t.c_Fair t.m_Fair_part_of G_Fair_part_of (hr.mono (by decide)) b_Fair_part_of .nil pass0 (pa_cons (pe_lst pa_nil) (pa_cons (pe_lst (pa_cons (pv 1) pa_nil)) pa_nil)))) (blkOk_by (own := [("one", 7)]) (N := ["self", "room", "askers", "count", "part", "fresh", "before", "one"]) (sc := defScope PMH.s_Fair_change_room) (by decide +kernel)) (fun s1 H1 C1 l1 p1 => (pg_name (i := 7) nd rfl (Or.inl rfl))) (fun s1 H1 C1 l1 p1 => (pts_one (pt_cmpR (op_notInK K rfl) (pv 7) (pv 4) (by rfl)))) (fun s1 H1 C1 l1 p1 => (pv 7))) ip_cat) (pss_cons (ps_expr (pe_meth (pv 0) t.c_Fair t.m_Fair_ask_anew G_Fair_ask_anew (hr.mono (by decide)) b_Fair_ask_anew .nil pass0 (pa_cons (pe_callB (cr_sortedSK K rfl) (by rfl) t.n_sorted (by decide +kernel) (pa_cons (pv 4) pa_nil)) pa_nil))) (pss_one (ps_ret (pe_meth (pv 0) t.c_Fair t.m_Fair_told G_Fair_told (hr.mono (by decide)) b_Fair_told .nil pass0 (pa_cons (pv 6) pa_nil)))))))))))), ?_⟩
  obtain ⟨f, a, F, r, p, l, c, rfl, z, I, D, hrn, hp, hl1, hl2, hT, hE, hQ⟩ := h
  have ok := I.ok
  have l4 := lenA hl1 hl2
  refine ⟨_, rfl, _, rfl, f, _, a.dx, _, _, rfl, z.ins, t.c_Fair, t.a_Fair_orders, rfl, a.do_, _, rfl, dget_r (x := r) (.of z.o), _, rfl, ?_⟩
  by_cases hr0 : r ∈ F.R
  rotate_left
  · rw [if_neg hr0]
    exact hE hr0
  rw [if_pos hr0]
  -- fresh, before
  refine ⟨_, rfl, p, l, rfl, hp, hl1, by omega, hT, fun H0 e0 => ?_⟩
  have z0 := z.ex e0
  refine ⟨_, rfl, f, _, a.dx, _, _, rfl, z0.ins, t.c_Fair, t.a_Fair_held, rfl, a.dh, _, rfl, .of z0.h, fun db hdb => ⟨_, _, rfl, ?_⟩⟩
  have e01 : Ex (TL K) H0 (upd H0 db (.dK (dkv F.A fun x => os (F.held x)))) := (Ch.refl e0.tb).new hdb
  have e1 := e0.trans e01
  have hdb1 := upd_same (H := H0) (a := db) (o := .dK (dkv F.A fun x => os (F.held x)))
  have ndb : New H db := Ex.backN e0 (New.of hdb)
  have z1 := z.ex e1
  have ec : decide ((c : Int) < 0) = false := decide_eq_false (by omega)
  refine ⟨_, rfl, _, _, rfl, rfl, _, rfl, ?_⟩
  rw [ec]
  -- the part before
  refine ⟨_, rfl, f, _, _, rfl, z1.ins, rfl, by show 0 ≤ sizeLine; exact Nat.zero_le _, fun l1 hl1' => ⟨_, rfl, by show 1 ≤ sizeLine; decide, fun l2 hl2' => ?_⟩⟩
  have e2 := (Ch.refl (S := No) e1.tb).new (o := .lst []) hl1'
  have e3 := (Ch.refl (S := No) e2.tb).new (o := .lst [.str r]) hl2'
  have e13 := e1.trans (e2.trans e3)
  refine ⟨f, a, F, l1, l2, [], [r], rfl, z.ex e13, ok, Ex.k e3 upd_same, upd_same, by simp, by simp, e13.tb, fun wp ws O H5 e4 hwp nwpH wnd wA wS wR wC => ?_⟩
  have e15 := e13.trans e4
  have rO : r ∈ O := wR r (by simp)
  have wl : ws.length ≤ 4 := lenA wnd fun y hy => I.inA y (wA y hy)
  have nwp : New H wp := Ex.backN e13 nwpH
  have hdb5 := Ex.k ((e2.trans e3).trans e4) hdb1
  have ndw : db ≠ wp := ne_of hdb5 hwp (by intro z; cases z)
  have z5 := z.ex e15
  -- set
  refine ⟨_, rfl, f, _, _, rfl, z5.ins, rfl, _, rfl, _, rfl, _, rfl, f, a, F, r, p, l, c, rfl, z5, ok, Ex.sqT e15 hp, e15.tb, fun H6 c6 z6 => ?_⟩
  have c6' : Ch (TL K) (S6 f a) H5 H6 := Ch.weak c6 fun y h => h.elim (fun h => h ▸ s6_o) fun h => h ▸ s6_s
  have hwp6 := c6'.k hwp (z.notS nwp)
  have hdb6 := c6'.k hdb5 (z.notS ndb)
  have I1 : FI (setF F r l c) := setF_I I hrn hl1 hl2
  -- the part behind
  refine ⟨_, rfl, ?_⟩
  refine ⟨_, rfl, f, _, _, rfl, z6.ins, rfl, by show 0 ≤ sizeLine; exact Nat.zero_le _, fun l3 hl3' => ⟨_, rfl, by show 1 ≤ sizeLine; decide, fun l5 hl5' => ?_⟩⟩
  have g2 := (Ch.refl (S := No) c6.tb).new (o := .lst []) hl3'
  have g3 := (Ch.refl (S := No) g2.tb).new (o := .lst [.str r]) hl5'
  have g23 := g2.trans g3
  refine ⟨f, _, setF F r l c, l3, l5, [], [r], rfl, z6.ex g23, I1.ok, Ex.k g3 upd_same, upd_same, by simp, by simp, g23.tb, fun wp2 ws2 O2 H7 g4 hwp2 nwp2H wnd2 wA2 wS2 wR2 wC2 => ?_⟩
  have g24 := g23.trans g4
  have rO2 : r ∈ O2 := wR2 r (by simp)
  have wl2 : ws2.length ≤ 4 := lenA wnd2 fun y hy => I1.inA y (wA2 y hy)
  have hwp7 := Ex.k g24 hwp6
  have hdb7 := Ex.k g24 hdb6
  refine ⟨wp2, rfl, ⟨_, SqL.of hwp2⟩, fun D2 hD2 => ?_⟩
  refine lcf walk_list (ls := ws2) (by simp) (fun y => !decide (y ∈ ws)) V.str g24.tb hD2 (fun H e => Ex.sqL e (SqL.of hwp2)) (by have := line_big; omega) ?_ ?_
  · intro i y v H8 H9 N M hi e hY hN hM
    obtain ⟨rfl, rfl⟩ := yat hi hY
    refine ⟨rfl, _, rfl, _, rfl, wp, _, rfl, .inl (SqL.of (Ex.k e hwp7)), rfl, flat_str, _, rfl, ?_⟩
    simp only [if_true, inV_str]
    by_cases hy : y ∈ ws
    · rw [decide_eq_true hy]
      exact hN (by simp [hy]) _ (Ch.refl e.tb)
    · rw [decide_eq_false hy]
      exact ⟨_, rfl, hM (by simp [hy]) _ (Ch.refl e.tb)⟩
  intro H8 g5 hD8
  have g25 := g24.trans g5
  have hwp8 := Ex.k g5 hwp7
  have fl := List.length_filter_le (fun y => !decide (y ∈ ws)) ws2
  refine ⟨wp, D2, _, _, rfl, rfl, hwp8, hD8, by rw [List.length_map, List.length_map]; have := line_big; omega, ?_⟩
  rw [← List.map_append]
  have c8 : Ch (TL K) (S6 f a) H H8 := ((Ex.weak e15).trans c6').trans (Ex.weak g25)
  have c9 : Ch (TL K) (S6 f a) H (upd H8 wp (.lst ((ws ++ ws2.filter fun y => !decide (y ∈ ws)).map V.str))) := c8.putN hwp8 nt_lst (.inl nwp)
  have u9 : Ch (TL K) (fun y => y = wp) H8 (upd H8 wp (.lst ((ws ++ ws2.filter fun y => !decide (y ∈ ws)).map V.str))) := Ch.put (Ch.refl g25.tb) hwp8 nt_lst (.inr rfl)
  have hdb9 := u9.k (Ex.k g5 hdb7) ndw
  have z9 : FairAt K (upd H8 wp (.lst ((ws ++ ws2.filter fun y => !decide (y ∈ ws)).map V.str))) f { a with oa := PM.fset a.oa r p } (setF F r l c) := by
    have z8 := z6.ex g25
    have nk : ∀ {y o}, H8 y = some o → (∀ xs, o ≠ .lst xs) → ¬ y = wp := fun h k e => by subst e; rw [hwp8] at h; exact k _ (Option.some.inj h).symm
    exact ⟨u9.k z8.ins (nk z8.ins (by intro _ z; cases z)), u9.k z8.l (nk z8.l (by intro _ z; cases z)), u9.k z8.o (nk z8.o (by intro _ z; cases z)), u9.k z8.s (nk z8.s (by intro _ z; cases z)), u9.k z8.h (nk z8.h (by intro _ z; cases z)), u9.k z8.n (nk z8.n (by intro _ z; cases z)), fun y hy => u9.sqT1 hwp8 (z8.lt y hy), fun y hy => u9.sqT1 hwp8 (z8.ot y hy), z8.ap⟩
  -- sorted
  refine ⟨_, rfl, f, _, _, rfl, z9.ins, rfl, _, rfl, wp, _, rfl, SqL.of upd_same, by rw [List.length_append]; omega, fun zs sp hperm hsort hsp => ?_⟩
  have e10 : Ex (TL K) _ (upd (upd H8 wp (.lst ((ws ++ ws2.filter fun y => !decide (y ∈ ws)).map V.str))) sp (.lst (zs.map V.str))) := (Ch.refl c9.tb).new hsp
  have mem : ∀ y, y ∈ zs ↔ y ∈ ws ∨ y ∈ ws2 := fun y => by
    rw [hperm.mem_iff, List.mem_append, List.mem_filter]
    constructor
    · rintro (h | ⟨h, _⟩)
      · exact .inl h
      · exact .inr h
    · rintro (h | h)
      · exact .inl h
      · by_cases h2 : y ∈ ws
        · exact .inl h2
        · exact .inr ⟨h, by simp [h2]⟩
  have ne1 : ∀ y, y ∉ zs → ∀ r', F.M.likes y r' → r' ≠ r ∧ r' ∉ O ∧ r' ∉ O2 := fun y hn r' lk => by
    have h1 : y ∉ ws := fun h => hn ((mem y).mpr (.inl h))
    have h2 : y ∉ ws2 := fun h => hn ((mem y).mpr (.inr h))
    have h3 : r' ∉ O := fun h => h1 ((wC y r' lk).mpr h)
    have ne : r' ≠ r := fun e => h3 (e ▸ rO)
    exact ⟨ne, h3, fun h => h2 ((wC2 y r' ((setF_likes ne).mpr lk)).mpr h)⟩
  have D6 : PM.DA (setF F r l c).M (rsH F.held zs) (rsN F.next zs) := by
    refine PM.deed_da (M := F.M) (P := fun y => y ∈ zs) (FS.wf ok) (FS.wf I1.ok) ⟨fun y hy _ => ⟨hy, rfl⟩, fun y hy hn r' => ?_, fun y hy hn r' lk => ?_⟩ D (fun _ _ => rfl) fun _ _ => rfl
    · by_cases e : r' = r
      · subst e
        have h1 : y ∉ ws := fun h => hn ((mem y).mpr (.inl h))
        have h2 : y ∉ ws2 := fun h => hn ((mem y).mpr (.inr h))
        exact ⟨fun lk => absurd ((wC2 y r' lk).mpr rO2) h2, fun lk => absurd ((wC y r' lk).mpr rO) h1⟩
      · exact setF_likes e
    · obtain ⟨ne, hO, hO2⟩ := ne1 y hn r' lk
      refine ⟨PM.fset_ne ne, PM.fset_ne ne, fun b hb => ⟨hb.1, fun h => ?_⟩⟩
      rcases (mem b).mp h with h | h
      · exact hO ((wC b r' hb).mp h)
      · exact hO2 ((wC2 b r' ((setF_likes ne).mpr hb)).mp h)
  refine ⟨f, _, setF F r l c, sp, zs, rfl, z9.ex e10, I1.ok, I1.sok, upd_same, fun y hy => ((mem y).mp hy).elim (wA y) (wA2 y), D6, e10.tb, fun held' next' asks' H11 c11 z11 D11 S11 => ?_⟩
  have c911 : Ch (TL K) (S6 f a) _ H11 := (Ex.weak e10).trans c11
  have hdb11 := c911.k hdb9 (z.notS ndb)
  refine ⟨_, rfl, f, _, _, rfl, z11.ins, rfl, _, rfl, f, _, _, db, F.A, F.held, rfl, z11, ⟨I1.ok.A, I1.ok.R, I1.ok.lst, I1.ok.ord, I1.ok.a, I1.ok.r⟩, hdb11, by have := ok.a; omega, c11.tb, fun q ys H12 e12 hs hnd hm hq => ?_⟩
  exact hQ hr0 q H12 ⟨{ a with oa := PM.fset a.oa r p }, held', next', asks', _, (c9.trans c911).trans (Ex.weak e12), rfl, z11.ex e12, I1, D11, S11, told_all hs hnd hm, hq⟩
end
end PMT

set_option Elab.async false
set_option linter.all false
set_option maxRecDepth 100000
set_option maxHeartbeats 2000000
/-! VW: a wish anew; a new fair. -/
namespace PMT
open PySem PySem.Spec PyProof.Rows L2
theorem slA_to {K : PySem.W.Frag} {T : List (Addr × Str)} {H : Hp} {a : Addr} {xs : List V} {n : Nat} {Q : VK} (hT : LamX.Tabs T H) (h : SqT K H a xs) (hQ : ∀ c H', Ex T H H' → SqT K H' c (xs.take n) → Q (.ref c) H') : rSlA K (.ref a) none (some (n : Int)) H Q := by
  refine ⟨a, xs, rfl, h, fun hw => ?_, fun _ p hp => hQ p _ ((Ch.refl hT).new hp) (SqT.of ?_)⟩
  · refine hQ a H (Ch.refl hT) ?_
    rw [HT.sIx_nat] at hw
    have : xs.length ≤ n := by omega
    rw [List.take_of_length_le this]; exact h
  · rw [upd_same]
    unfold cutV
    rw [HT.sIx_none, HT.sIx_nat, List.drop_zero, Nat.sub_zero]
    congr 2
    rcases Nat.le_total n xs.length with z | z
    · rw [Nat.min_eq_left z]
    · rw [Nat.min_eq_right z, List.take_length, List.take_of_length_le z]
section
variable {P : Program} {w : World} {K : PySem.W.Frag} {mg : Str → Option Value} {base : Heap}
def wishF (F : FS) (x : Str) (l : List Str) : FS := { F with lst := PM.fset F.lst x l }
theorem wishF_likes {F : FS} {x y r : Str} {l : List Str} (h : y ≠ x) : (wishF F x l).M.likes y r ↔ F.M.likes y r := by
  have e1 : (wishF F x l).M.lst y = F.M.lst y := PM.fset_ne h
  unfold PM.Mkt.likes
  rw [e1]
  exact Iff.rfl
theorem wishF_I {F : FS} (I : FI F) {x : Str} {l : List Str} (h1 : l.Nodup) (h2 : ∀ r ∈ l, r ∈ nR) : FI (wishF F x l) := by
  refine ⟨I.A, I.R, I.inA, I.inR, fun y hy => ?_, I.ord⟩
  show (PM.fset F.lst x l y).Nodup ∧ ∀ r ∈ PM.fset F.lst x l y, r ∈ nR
  by_cases e : y = x
  · subst e; rw [PM.fset_same]; exact ⟨h1, h2⟩
  · rw [PM.fset_ne e]; exact I.lst y hy
def tWishTail (K : PySem.W.Frag) : TS :=
  tSeq (tAsg (tMeth (He.ga K "Fair") "part_of" (spPart K) [] E0 (tVar 0) (tCons (tLst (tCons (tVar 1) tNil)) (tCons (tLst tNil) tNil))) (gName 4))
    (tSeq (sDPut (tFld K (tVar 0) "lists") (tVar 1) (tVar 5))
      (tSeq (tAug 4 (tLc (iList K (tMeth (He.ga K "Fair") "part_of" (spPart K) [] E0 (tVar 0) (tCons (tLst (tCons (tVar 1) tNil)) (tCons (tLst tNil) tNil)))) (gName 8) (tTest (tOp (rIn K true) (tVar 8) (tVar 4))) (tVar 8) [8]) rExt2)
        (tSeq (tDrop (tMeth (He.ga K "Fair") "ask_anew" (spFanew K) [] E0 (tVar 0) (tCons (tCB (rSortedS K) (tCons (tVar 4) tNil)) tNil)))
          (tRet (tMeth (He.ga K "Fair") "told" (spTold K) [] E0 (tVar 0) (tCons (tVar 6) tNil))))))
theorem wish_late (t : TX K mg base) {f : Addr} {a : FA} {F : FS} {x : Str} {p db : Addr} {l : List Str} {H Hx : Hp} {Q : VK} {u3 u7 : Option V} (z : FairAt K H f a F) (I : FI F) (D : PM.DA F.M F.held F.next) (hx : x ∈ F.A) (hp : SqT K H p (l.map V.str)) (hl1 : l.Nodup) (hl2 : ∀ r ∈ l, r ∈ nR)
    (ex : Ex (TL K) H Hx) (hdbx : Hx db = some (.dK (dkv F.A fun x => os (F.held x)))) (ndb : New H db) (hQ : ∀ q H', Did K H f a F (wishF F x l) q H' → Q (.ref q) H') :
    tWishTail K { nx := fun _ H' => Q .non H', rt := Q } [some (.ref f), some (.str x), some (.ref p), u3, none, some (.ref p), some (.ref db), u7, none] Hx := by
  have ok := I.ok
  have I1 : FI (wishF F x l) := wishF_I I hl1 hl2
  have zx := z.ex ex
  refine ⟨_, rfl, f, _, _, rfl, zx.ins, rfl, _, rfl, by show 1 ≤ sizeLine; decide, fun l1 hl1' => ⟨by show 0 ≤ sizeLine; exact Nat.zero_le _, fun l2 hl2' => ?_⟩⟩
  have e2 := (Ch.refl (S := No) ex.tb).new (o := .lst [.str x]) hl1'
  have e3 := (Ch.refl (S := No) e2.tb).new (o := .lst []) hl2'
  have e13 := ex.trans (e2.trans e3)
  refine ⟨f, a, F, l1, l2, [x], [], rfl, z.ex e13, ok, Ex.k e3 upd_same, upd_same, by simp, by simp, e13.tb, fun wp ws O H5 e4 hwp nwpH wnd wA wS wR wC => ?_⟩
  have e15 := e13.trans e4
  have xw : x ∈ ws := wS x (by simp) hx
  have wl : ws.length ≤ 4 := lenA wnd fun y hy => I.inA y (wA y hy)
  have nwp : New H wp := Ex.backN e13 nwpH
  have hdb5 := Ex.k ((e2.trans e3).trans e4) hdbx
  have ndw : db ≠ wp := ne_of hdb5 hwp (by intro z; cases z)
  have z5 := z.ex e15
  -- lists
  refine ⟨_, rfl, _, rfl, f, _, a.dx, _, _, rfl, z5.ins, t.c_Fair, t.a_Fair_lists, rfl, _, rfl, a.dl, _, rfl, dput_old (g' := fun y => .ref (PM.fset a.la x p y)) z5.l hx ok.a (fun y _ => fset_comp (w := V.ref)), ?_⟩
  have z6 := z5.upL (la' := PM.fset a.la x p) (lst' := PM.fset F.lst x l) (fun y hy => by
    by_cases e : y = x
    · subst e; rw [PM.fset_same, PM.fset_same]; exact Ex.sqT e15 hp
    · rw [PM.fset_ne e, PM.fset_ne e]; exact z5.lt y hy)
  have c6' : Ch (TL K) (S6 f a) H5 (upd H5 a.dl (.dK (dkv F.A fun y => .ref (PM.fset a.la x p y)))) := Ch.putN (Ch.refl e15.tb) z5.l nt_dK (.inr s6_l)
  have hwp6 := c6'.k hwp (z.notS nwp)
  have hdb6 := c6'.k hdb5 (z.notS ndb)
  -- the part behind
  refine ⟨_, rfl, ?_⟩
  refine ⟨_, rfl, f, _, _, rfl, z6.ins, rfl, _, rfl, by show 1 ≤ sizeLine; decide, fun l3 hl3' => ⟨by show 0 ≤ sizeLine; exact Nat.zero_le _, fun l5 hl5' => ?_⟩⟩
  have g2 := (Ch.refl (S := No) c6'.tb).new (o := .lst [.str x]) hl3'
  have g3 := (Ch.refl (S := No) g2.tb).new (o := .lst []) hl5'
  have g23 := g2.trans g3
  refine ⟨f, _, wishF F x l, l3, l5, [x], [], rfl, z6.ex g23, I1.ok, Ex.k g3 upd_same, upd_same, by simp, by simp, g23.tb, fun wp2 ws2 O2 H7 g4 hwp2 nwp2H wnd2 wA2 wS2 wR2 wC2 => ?_⟩
  have g24 := g23.trans g4
  have wl2 : ws2.length ≤ 4 := lenA wnd2 fun y hy => I1.inA y (wA2 y hy)
  have hwp7 := Ex.k g24 hwp6
  have hdb7 := Ex.k g24 hdb6
  refine ⟨wp2, rfl, ⟨_, SqL.of hwp2⟩, fun D2 hD2 => ?_⟩
  refine lcf walk_list (ls := ws2) (by simp) (fun y => !decide (y ∈ ws)) V.str g24.tb hD2 (fun H e => Ex.sqL e (SqL.of hwp2)) (by have := line_big; omega) ?_ ?_
  · intro i y v H8 H9 N M hi e hY hN hM
    obtain ⟨rfl, rfl⟩ := yat hi hY
    refine ⟨rfl, _, rfl, _, rfl, wp, _, rfl, .inl (SqL.of (Ex.k e hwp7)), rfl, flat_str, _, rfl, ?_⟩
    simp only [if_true, inV_str]
    by_cases hy : y ∈ ws
    · rw [decide_eq_true hy]
      exact hN (by simp [hy]) _ (Ch.refl e.tb)
    · rw [decide_eq_false hy]
      exact ⟨_, rfl, hM (by simp [hy]) _ (Ch.refl e.tb)⟩
  intro H8 g5 hD8
  have g25 := g24.trans g5
  have hwp8 := Ex.k g5 hwp7
  have fl := List.length_filter_le (fun y => !decide (y ∈ ws)) ws2
  refine ⟨wp, D2, _, _, rfl, rfl, hwp8, hD8, by rw [List.length_map, List.length_map]; have := line_big; omega, ?_⟩
  rw [← List.map_append]
  have c8 : Ch (TL K) (S6 f a) H H8 := ((Ex.weak e15).trans c6').trans (Ex.weak g25)
  have c9 : Ch (TL K) (S6 f a) H (upd H8 wp (.lst ((ws ++ ws2.filter fun y => !decide (y ∈ ws)).map V.str))) := c8.putN hwp8 nt_lst (.inl nwp)
  have u9 : Ch (TL K) (fun y => y = wp) H8 (upd H8 wp (.lst ((ws ++ ws2.filter fun y => !decide (y ∈ ws)).map V.str))) := Ch.put (Ch.refl g25.tb) hwp8 nt_lst (.inr rfl)
  have hdb9 := u9.k (Ex.k g5 hdb7) ndw
  have z9 : FairAt K (upd H8 wp (.lst ((ws ++ ws2.filter fun y => !decide (y ∈ ws)).map V.str))) f { a with la := PM.fset a.la x p } (wishF F x l) := by
    have z8 := z6.ex g25
    have nk : ∀ {y o}, H8 y = some o → (∀ xs, o ≠ .lst xs) → ¬ y = wp := fun h k e => by subst e; rw [hwp8] at h; exact k _ (Option.some.inj h).symm
    exact ⟨u9.k z8.ins (nk z8.ins (by intro _ z; cases z)), u9.k z8.l (nk z8.l (by intro _ z; cases z)), u9.k z8.o (nk z8.o (by intro _ z; cases z)), u9.k z8.s (nk z8.s (by intro _ z; cases z)), u9.k z8.h (nk z8.h (by intro _ z; cases z)), u9.k z8.n (nk z8.n (by intro _ z; cases z)), fun y hy => u9.sqT1 hwp8 (z8.lt y hy), fun y hy => u9.sqT1 hwp8 (z8.ot y hy), z8.ap⟩
  refine ⟨_, rfl, f, _, _, rfl, z9.ins, rfl, _, rfl, wp, _, rfl, SqL.of upd_same, by rw [List.length_append]; omega, fun zs sp hperm hsort hsp => ?_⟩
  have e10 : Ex (TL K) _ (upd (upd H8 wp (.lst ((ws ++ ws2.filter fun y => !decide (y ∈ ws)).map V.str))) sp (.lst (zs.map V.str))) := (Ch.refl c9.tb).new hsp
  have mem : ∀ y, y ∈ zs ↔ y ∈ ws ∨ y ∈ ws2 := fun y => by
    rw [hperm.mem_iff, List.mem_append, List.mem_filter]
    constructor
    · rintro (h | ⟨h, _⟩)
      · exact .inl h
      · exact .inr h
    · rintro (h | h)
      · exact .inl h
      · by_cases h2 : y ∈ ws
        · exact .inl h2
        · exact .inr ⟨h, by simp [h2]⟩
  have out : ∀ y, y ∉ zs → y ∉ ws ∧ y ∉ ws2 ∧ y ≠ x := fun y hn =>
    ⟨fun h => hn ((mem y).mpr (.inl h)), fun h => hn ((mem y).mpr (.inr h)), fun e => hn ((mem y).mpr (.inl (e ▸ xw)))⟩
  have D6 : PM.DA (wishF F x l).M (rsH F.held zs) (rsN F.next zs) := by
    refine PM.deed_da (M := F.M) (P := fun y => y ∈ zs) (FS.wf ok) (FS.wf I1.ok) ⟨fun y hy hn => ⟨hy, PM.fset_ne (out y hn).2.2⟩, fun y hy hn r' => wishF_likes (out y hn).2.2, fun y hy hn r' lk => ⟨rfl, rfl, fun b hb => ⟨hb.1, fun h => ?_⟩⟩⟩ D (fun _ _ => rfl) fun _ _ => rfl
    obtain ⟨h1, h2, h3⟩ := out y hn
    have hO : r' ∉ O := fun h => h1 ((wC y r' lk).mpr h)
    have hb1 : b ∉ ws := fun h => hO ((wC b r' hb).mp h)
    have hbx : b ≠ x := fun e => hb1 (e ▸ xw)
    have hO2 : r' ∉ O2 := fun h => h2 ((wC2 y r' ((wishF_likes h3).mpr lk)).mpr h)
    rcases (mem b).mp h with h | h
    · exact hb1 h
    · exact hO2 ((wC2 b r' ((wishF_likes hbx).mpr hb)).mp h)
  refine ⟨f, _, wishF F x l, sp, zs, rfl, z9.ex e10, I1.ok, I1.sok, upd_same, fun y hy => ((mem y).mp hy).elim (wA y) (wA2 y), D6, e10.tb, fun held' next' asks' H11 c11 z11 D11 S11 => ?_⟩
  have c911 : Ch (TL K) (S6 f a) _ H11 := (Ex.weak e10).trans c11
  have hdb11 := c911.k hdb9 (z.notS ndb)
  refine ⟨_, rfl, f, _, _, rfl, z11.ins, rfl, _, rfl, f, _, _, db, F.A, F.held, rfl, z11, ⟨I1.ok.A, I1.ok.R, I1.ok.lst, I1.ok.ord, I1.ok.a, I1.ok.r⟩, hdb11, by have := ok.a; omega, c11.tb, fun q ys H12 e12 hs hnd hm hq => ?_⟩
  exact hQ q H12 ⟨{ a with la := PM.fset a.la x p }, held', next', asks', _, (c9.trans c911).trans (Ex.weak e12), rfl, z11.ex e12, I1, D11, S11, told_all hs hnd hm, hq⟩
def spWishD (K : PySem.W.Frag) : Sp := fun vs H Q E => ∃ (f : Addr) (a : FA) (F : FS) (x : Str) (p : Addr) (l : List Str), vs = [.ref f, .str x, .ref p] ∧ FairAt K H f a F ∧ FI F ∧ PM.DA F.M F.held F.next ∧ PM.Settled F.M F.held F.next ∧ SqT K H p (l.map V.str) ∧ l.Nodup ∧ (∀ r ∈ l, r ∈ nR) ∧ LamX.Tabs (TL K) H ∧
  (x ∉ F.A → E (.ref (He.ga K "NoSuch")) none H) ∧ (x ∈ F.A → ∀ q H', Did K H f a F (wishF F x l) q H' → Q (.ref q) H')
theorem ok_Fair_wish (t : TX K mg base) : Does P w K mg base (L2.CX P w) 6 ("Fair", some "wish") ["self", "asker", "rooms"] (spWishD K) := by
  obtain ⟨fd_check_words, G_check_words, b_check_words, p_check_words⟩ := ok_check_words (P := P) (w := w) t
  obtain ⟨fd_Fair_part_of, G_Fair_part_of, b_Fair_part_of, p_Fair_part_of⟩ := ok_Fair_part_of (P := P) (w := w) t
  obtain ⟨fd_Fair_ask_anew, G_Fair_ask_anew, b_Fair_ask_anew, p_Fair_ask_anew⟩ := ok_Fair_ask_anew (P := P) (w := w) t
  obtain ⟨fd_Fair_told, G_Fair_told, b_Fair_told, p_Fair_told⟩ := ok_Fair_told (P := P) (w := w) t
  have nd := (sc_Fair_wish).nd
  refine t.do_Fair_wish (fun vs H Q E h => by obtain ⟨_, _, _, _, _, _, rfl, _⟩ := h; rfl) fun A outer s H vs Q E hr h => ⟨_, (pss_cons (ps_if (pt_cmp (pc_dnotin (hu_of hr) (pv 1) (pe_fldK K rfl (pv 0) rfl))) (pss_one (ps_raise rfl (takes_of rfl rfl rfl rfl) (pmk_own PySem.F.excBase_ValueError t.x_NoSuch.1 t.g_NoSuch t.x_NoSuch.2.1 (raises_own t.x_NoSuch.2.2.1 t.x_NoSuch.2.2.2) rfl))) pss_nil) (PSs.nox (pss_cons (ps_par3 (by rfl) nd (i := 5) (j := 6) (l := 7) rfl rfl rfl (by decide) (by decide) (by decide) rfl rfl rfl (pa_cons (pe_call G_check_words (hr.mono (by decide)) (by rfl) t.g_check_words p_check_words b_check_words .nil pass0 (pa_cons (pv 2) pa_nil)) (pa_cons (pe_callTy call_dictD (by rfl) t.n_dict (by decide +kernel) (pa_cons (pe_fldK K rfl (pv 0) rfl) pa_nil)) (pa_cons (pe_dget (hu_of hr) (pe_fldK K rfl (pv 0) rfl) (pv 1) (fun _ _ => rfl)) pa_nil))) (by rfl)) (pss_cons (ps_set (i := 3) nd rfl (Or.inl rfl) (pe_dget (hu_of hr) (pe_fldK K rfl (pv 0) rfl) (pv 1) (fun _ _ => rfl))) (pss_cons (ps_if (PW.pt (pw_and (pt_cmpR op_notN (pe_dget (hu_of hr) (pe_fldK K rfl (pv 0) rfl) (pv 1) (fun _ _ => rfl)) pe_non (nomark _)) (pw_and1 (pt_cmpR (op_eqDK K rfl hr.units) (pe_slice (sl_tupK K rfl) (pv 5) po_none (po_some (pv 3))) (pe_slice (sl_tupK K rfl) (pv 7) po_none (po_some (pv 3))) (nomark _))))) (pss_cons (ps_dput (hu_of hr) (pe_fldK K rfl (pv 0) rfl) (pv 1) (pv 5) rfl) (pss_one (ps_ret (pe_tup pa_nil)))) pss_nil) (pss_cons (ps_set (i := 4) nd rfl (Or.inr rfl) (pe_meth (pv 0) t.c_Fair t.m_Fair_part_of G_Fair_part_of (hr.mono (by decide)) b_Fair_part_of .nil pass0 (pa_cons (pe_lst (pa_cons (pv 1) pa_nil)) (pa_cons (pe_lst pa_nil) pa_nil)))) (pss_cons (ps_dput (hu_of hr) (pe_fldK K rfl (pv 0) rfl) (pv 1) (pv 5) rfl) (pss_cons (ps_aug (i := 4) nd rfl (Or.inr rfl) (pe_lc (X := ((X_Fair_wish (L2.CX P w) P w K mg base A outer s H E).nox)) (own := [("one", 8)]) (g := (gName 8)) rfl nd (pi_listK K rfl (pe_meth (pv 0) t.c_Fair t.m_Fair_part_of G_Fair_part_of (hr.mono (by decide)) b_Fair_part_of .nil pass0 (pa_cons (pe_lst (pa_cons (pv 1) pa_nil)) (pa_cons (pe_lst pa_nil) pa_nil)))) (blkOk_by (own := [("one", 8)]) (N := ["self", "asker", "rooms", "count", "part", "fresh", "before", "old", "one"]) (sc := defScope PMH.s_Fair_wish) (by decide +kernel)) (fun s1 H1 C1 l1 p1 => (pg_name (i := 8) nd rfl (Or.inl rfl))) (fun s1 H1 C1 l1 p1 => (pts_one (pt_cmpR (op_notInK K rfl) (pv 8) (pv 4) (by rfl)))) (fun s1 H1 C1 l1 p1 => (pv 8))) ip_cat) (pss_cons (ps_expr (pe_meth (pv 0) t.c_Fair t.m_Fair_ask_anew G_Fair_ask_anew (hr.mono (by decide)) b_Fair_ask_anew .nil pass0 (pa_cons (pe_callB (cr_sortedSK K rfl) (by rfl) t.n_sorted (by decide +kernel) (pa_cons (pv 4) pa_nil)) pa_nil))) (pss_one (ps_ret (pe_meth (pv 0) t.c_Fair t.m_Fair_told G_Fair_told (hr.mono (by decide)) b_Fair_told .nil pass0 (pa_cons (pv 6) pa_nil))))))))))))), ?_⟩
  obtain ⟨f, a, F, x, p, l, rfl, z, I, D, S, hp, hl1, hl2, hT, hE, hQ⟩ := h
  have ok := I.ok
  have l3 := lenR hl1 hl2
  refine ⟨_, rfl, _, rfl, f, _, a.dx, _, _, rfl, z.ins, t.c_Fair, t.a_Fair_lists, rfl, a.dl, _, rfl, dget_r (x := x) (.of z.l), _, rfl, ?_⟩
  by_cases hx : x ∈ F.A
  rotate_left
  · rw [if_neg hx]
    exact hE hx
  rw [if_pos hx]
  -- fresh, before, old
  refine ⟨_, rfl, p, l, rfl, hp, hl1, by omega, hT, fun H0 e0 => ?_⟩
  have z0 := z.ex e0
  refine ⟨_, rfl, f, _, a.dx, _, _, rfl, z0.ins, t.c_Fair, t.a_Fair_held, rfl, a.dh, _, rfl, .of z0.h, fun db hdb => ?_⟩
  have e01 : Ex (TL K) H0 (upd H0 db (.dK (dkv F.A fun x => os (F.held x)))) := (Ch.refl e0.tb).new hdb
  have e1 := e0.trans e01
  have hdb1 := upd_same (H := H0) (a := db) (o := .dK (dkv F.A fun x => os (F.held x)))
  have ndb : New H db := Ex.backN e0 (New.of hdb)
  have z1 := z.ex e1
  refine ⟨_, rfl, f, _, a.dx, _, _, rfl, z1.ins, t.c_Fair, t.a_Fair_lists, rfl, _, rfl, a.dl, _, rfl, dget_in (.of z1.l) hx, _, _, _, rfl, ?_⟩
  -- count
  refine ⟨_, rfl, f, _, a.dx, _, _, rfl, z1.ins, t.c_Fair, t.a_Fair_next, rfl, _, rfl, a.dn, _, rfl, dget_in (.of z1.n) hx, ?_⟩
  have I1 : FI (wishF F x l) := wishF_I I hl1 hl2
  have pL : ∀ {Hx : Hp}, FairAt K Hx f a F → DPut Hx a.dl (.str x) (.ref p) (upd Hx a.dl (.dK (dkv F.A fun y => .ref (PM.fset a.la x p y)))) := fun zx => dput_old zx.l hx ok.a fun y _ => fset_comp (w := V.ref)
  have upl : ∀ {Hx : Hp}, Ex (TL K) H Hx → FairAt K Hx f a F → FairAt K (upd Hx a.dl (.dK (dkv F.A fun y => .ref (PM.fset a.la x p y)))) f { a with la := PM.fset a.la x p } (wishF F x l) := fun ex zx => zx.upL (la' := PM.fset a.la x p) (lst' := PM.fset F.lst x l) (fun y hy => by
    by_cases e : y = x
    · subst e; rw [PM.fset_same, PM.fset_same]; exact Ex.sqT ex hp
    · rw [PM.fset_ne e, PM.fset_ne e]; exact zx.lt y hy)
  refine ⟨_, rfl, f, _, a.dx, _, _, rfl, z1.ins, t.c_Fair, t.a_Fair_held, rfl, _, rfl, a.dh, _, rfl, dget_in (.of z1.h) hx, rfl, _, rfl, ?_⟩
  have eh : (!decide (os (F.held x) = V.non)) = !decide (F.held x = none) := by cases F.held x <;> simp [os]
  rw [eh]
  have hp1 := Ex.sqT e1 hp
  cases hh : F.held x with
  | none =>
    exact wish_late t z I D hx hp hl1 hl2 e1 hdb1 ndb (hQ hx)
  | some r0 =>
    have hol := z1.lt x hx
    refine ⟨_, rfl, _, rfl, _, rfl, slA_to e1.tb hp1 fun c1' H2 e2 hc1 => ?_⟩
    have hol2 := Ex.sqT e2 hol
    refine ⟨_, rfl, _, rfl, _, rfl, slA_to e2.tb hol2 fun c2' H3 e3 hc2 => ?_⟩
    have e13 := e1.trans (e2.trans e3)
    rw [← List.map_take] at hc1 hc2
    refine rd_eq (d := deTup deStr) (by decide) (dp_tupF (Ex.sqT e3 hc1) dp_strs) (dp_tupF hc2 dp_strs) (fun y hy => nR_ok y (hl2 y (List.mem_of_mem_take hy))) (fun y hy => nR_ok y ((I.lst x hx).2 y (List.mem_of_mem_take hy))) ⟨_, rfl, ?_⟩
    have hdb3 := Ex.k (e2.trans e3) hdb1
    by_cases heq : l.take (F.next x) = (F.lst x).take (F.next x)
    · rw [decide_eq_true heq]
      have z3 := z.ex e13
      refine ⟨_, rfl, _, rfl, f, _, a.dx, _, _, rfl, z3.ins, t.c_Fair, t.a_Fair_lists, rfl, _, rfl, a.dl, _, rfl, pL z3, ?_⟩
      have z4 := upl e13 z3
      have c4 : Ch (TL K) (S6 f a) H (upd H3 a.dl (.dK (dkv F.A fun y => .ref (PM.fset a.la x p y)))) := Ch.putN (Ex.weak e13) z3.l nt_dK (.inr s6_l)
      refine ⟨by show 0 ≤ sizeLine; exact Nat.zero_le _, fun q hq => ?_⟩
      have e5 := (Ch.refl (S := No) c4.tb).new (o := .tup []) hq
      obtain ⟨D5, S5⟩ := PM.wish_da (M := F.M) (M' := (wishF F x l).M) (FS.wf ok) (FS.wf I1.ok) D S hx hh rfl rfl rfl rfl (fun y _ hy => PM.fset_ne hy) (by
        show (PM.fset F.lst x l x).take (F.next x) = (F.lst x).take (F.next x)
        rw [PM.fset_same]; exact heq)
      refine hQ hx q _ ⟨{ a with la := PM.fset a.la x p }, F.held, F.next, F.asks, [], c4.trans (Ex.weak e5), rfl, z4.ex e5, I1, D5, S5, fun ys _ _ _ => ?_, [], SqT.of upd_same, .nil⟩
      unfold movedOf
      have : (ys.filter fun y => decide (look F.A F.held y ≠ look (wishF F x l).A F.held y)) = [] := List.filter_eq_nil_iff.mpr fun y _ h => (of_decide_eq_true h) rfl
      rw [this]; rfl
    · rw [decide_eq_false heq]
      exact wish_late t z I D hx hp hl1 hl2 e13 hdb3 ndb (hQ hx)
end
end PMT

set_option Elab.async false
set_option linter.all false
set_option maxRecDepth 100000
set_option maxHeartbeats 2000000
/-! VI: a fair is made. -/
namespace PMT
open PySem PySem.Spec PyProof.Rows L2
section
variable {P : Program} {w : World} {K : PySem.W.Frag} {mg : Str → Option Value} {base : Heap}
def F0 : FS := ⟨[], [], fun _ => [], fun _ => [], fun _ => 0, fun _ => none, fun _ => 0, 0⟩
def spFair_init (K : PySem.W.Frag) : Sp := fun vs H Q _ => ∃ (x dx : Addr), vs = [.ref x] ∧ H x = some (.ins (He.ga K "Fair") dx []) ∧ LamX.Tabs (TL K) H ∧ ∀ H' (a : FA), Ch (TL K) (fun b => b = x) H H' → FairAt K H' x a F0 → (∀ b ∈ a.ds5, New H b) → Q .non H'
theorem f_step {H Hk : Hp} {x a C dx : Addr} {fs fs' : List (Str × V)} (c : Ch (TL K) (fun b => b = x) H Hk) (hx : Hk x = some (.ins C dx fs)) (h : Hk a = none) (hn : ∀ b, Hk b = none → b ≠ x → New H b) :
    let H' := upd (upd Hk a (.dK [])) x (.ins C dx fs')
    Ch (TL K) (fun b => b = x) H H' ∧ H' x = some (.ins C dx fs') ∧ H' a = some (.dK []) ∧ New H a ∧ (∀ b, Hk b = some (.dK []) → H' b = some (.dK []) ∧ a ≠ b) ∧ ∀ b, H' b = none → b ≠ x → New H b := by
  have e1 := (Ch.refl (S := No) c.tb).new (o := .dK []) h
  have x1 := Ex.k e1 hx
  have nax : a ≠ x := fun e => by rw [e] at h; rw [hx] at h; cases h
  have u := Ch.put (S := fun b => b = x) (o := .ins C dx fs') (Ch.refl e1.tb) x1 nt_ins (.inr rfl)
  refine ⟨(c.trans (Ex.weak e1)).trans u, upd_same, u.k upd_same (ne_of upd_same x1 nofun), hn a h nax, fun b hb => ⟨u.k (Ex.k e1 hb) (ne_of (Ex.k e1 hb) x1 nofun), fun e => by rw [e] at h; rw [hb] at h; cases h⟩, fun b hb nb => ?_⟩
  rw [upd_ne nb] at hb
  have nba : b ≠ a := fun e => by rw [e, upd_same] at hb; cases hb
  rw [upd_ne nba] at hb
  exact hn b hb nb
theorem ok_Fair_init (t : TX K mg base) : Does P w K mg base CX0 2 ("Fair", some "__init__") ["self"] (spFair_init K) := by
  have nd := (sc_Fair_init).nd
  refine t.do_Fair_init (fun vs H Q E h => by obtain ⟨_, _, rfl, _⟩ := h; rfl) fun A outer s H vs Q E hr h => ⟨_, PSs.nox ((pss_cons (ps_fld (pv 0) pe_dnewK rfl) (pss_cons (ps_fld (pv 0) pe_dnewK rfl) (pss_cons (ps_fld (pv 0) pe_dnewK rfl) (pss_cons (ps_fld (pv 0) pe_dnewK rfl) (pss_cons (ps_fld (pv 0) pe_dnewK rfl) (pss_one (ps_fld (pv 0) pe_int rfl)))))))), ?_⟩
  obtain ⟨x, dx, rfl, hx, hT, hQ⟩ := h
  intro a1 h1
  have x1 := Ex.k ((Ch.refl (S := No) hT).new (o := .dK []) h1) hx
  obtain ⟨c1, k1, d1, n1, _, f1⟩ := f_step (fs' := [("lists", .ref a1)]) (Ch.refl hT) hx h1 (fun b hb _ => New.of hb)
  refine ⟨_, rfl, x, _, dx, _, rfl, x1, t.c_Fair, t.a_Fair_lists, by show 0 < 1000; decide, ?_⟩
  intro a2 h2
  have x2 := Ex.k ((Ch.refl (S := No) c1.tb).new (o := .dK []) h2) k1
  obtain ⟨c2, k2, d2, n2, g2, f2⟩ := f_step (fs' := [("lists", .ref a1), ("orders", .ref a2)]) c1 k1 h2 f1
  refine ⟨_, rfl, x, _, dx, _, rfl, x2, t.c_Fair, t.a_Fair_orders, by show 1 < 1000; decide, ?_⟩
  intro a3 h3
  have x3 := Ex.k ((Ch.refl (S := No) c2.tb).new (o := .dK []) h3) k2
  obtain ⟨c3, k3, d3, n3, g3, f3⟩ := f_step (fs' := [("lists", .ref a1), ("orders", .ref a2), ("seats", .ref a3)]) c2 k2 h3 f2
  refine ⟨_, rfl, x, _, dx, _, rfl, x3, t.c_Fair, t.a_Fair_seats, by show 2 < 1000; decide, ?_⟩
  intro a4 h4
  have x4 := Ex.k ((Ch.refl (S := No) c3.tb).new (o := .dK []) h4) k3
  obtain ⟨c4, k4, d4, n4, g4, f4⟩ := f_step (fs' := [("lists", .ref a1), ("orders", .ref a2), ("seats", .ref a3), ("held", .ref a4)]) c3 k3 h4 f3
  refine ⟨_, rfl, x, _, dx, _, rfl, x4, t.c_Fair, t.a_Fair_held, by show 3 < 1000; decide, ?_⟩
  intro a5 h5
  have x5 := Ex.k ((Ch.refl (S := No) c4.tb).new (o := .dK []) h5) k4
  obtain ⟨c5, k5, d5, n5, g5, f5⟩ := f_step (fs' := [("lists", .ref a1), ("orders", .ref a2), ("seats", .ref a3), ("held", .ref a4), ("next", .ref a5)]) c4 k4 h5 f4
  refine ⟨_, rfl, x, _, dx, _, rfl, x5, t.c_Fair, t.a_Fair_next, by show 4 < 1000; decide, ?_⟩
  refine ⟨_, rfl, x, _, dx, _, rfl, k5, t.c_Fair, t.a_Fair_asks, by show 5 < 1000; decide, ?_⟩
  have u := Ch.put (S := fun b => b = x) (o := .ins (He.ga K "Fair") dx [("lists", .ref a1), ("orders", .ref a2), ("seats", .ref a3), ("held", .ref a4), ("next", .ref a5), ("asks", .int 0)]) (Ch.refl c5.tb) k5 nt_ins (.inr rfl)
  have s1 := fun b (h : _ = some (.dK [])) => (u.k (a := b) h (ne_of h k5 nofun))
  obtain ⟨d12, m12⟩ := g2 _ d1
  obtain ⟨d13, m13⟩ := g3 _ d12
  obtain ⟨d14, m14⟩ := g4 _ d13
  obtain ⟨d15, m15⟩ := g5 _ d14
  obtain ⟨d23, m23⟩ := g3 _ d2
  obtain ⟨d24, m24⟩ := g4 _ d23
  obtain ⟨d25, m25⟩ := g5 _ d24
  obtain ⟨d34, m34⟩ := g4 _ d3
  obtain ⟨d35, m35⟩ := g5 _ d34
  obtain ⟨d45, m45⟩ := g5 _ d4
  refine hQ _ ⟨dx, a1, a2, a3, a4, a5, fun _ => 0, fun _ => 0⟩ (c5.trans u) ⟨upd_same, s1 _ d15, s1 _ d25, s1 _ d35, s1 _ d45, s1 _ d5, fun _ h => (nomatch h), fun _ h => (nomatch h), ?_⟩ ?_
  · show [a1, a2, a3, a4, a5].Nodup
    simp [m12.symm, m13.symm, m14.symm, m15.symm, m23.symm, m24.symm, m25.symm, m34.symm, m35.symm, m45.symm]
  · intro b hb
    have : b = a1 ∨ b = a2 ∨ b = a3 ∨ b = a4 ∨ b = a5 := by simpa [FA.ds5] using hb
    rcases this with e | e | e | e | e <;> subst e <;> assumption
end
end PMT

set_option Elab.async false
set_option linter.all false
set_option maxRecDepth 100000
set_option maxHeartbeats 2000000
/-! U1: the law's dice. -/
namespace PMT
open PySem PySem.Spec PyProof.Rows L2
section
variable {P : Program} {w : World} {K : PySem.W.Frag} {mg : Str → Option Value} {base : Heap}
/-- the dice: three numbers, whichever -/
def DiceAt (H : Hp) (p : Addr) : Prop := ∃ a b c : Int, H p = some (.lst [.int a, .int b, .int c])
def spDice (K : PySem.W.Frag) : Sp := fun vs H Q _ => ∃ n : Int, vs = [.int n] ∧ ∀ p, H p = none → ∀ a b c : Int, Q (.ref p) (upd H p (.lst [.int a, .int b, .int c]))
theorem ok_law_dice (t : TX K mg base) : Does P w K mg base CX0 2 ("_law_dice", none) ["_law_cell"] (spDice K) := by
  have nd := (sc_law_dice).nd
  refine t.do_law_dice (fun vs H Q E h => by obtain ⟨_, rfl, _⟩ := h; rfl) fun A outer s H vs Q E hr h => ⟨_, PSs.nox ((pss_cons (ps_if (pt_chain op_lt op_lt (pe_op op_sub pe_int pe_int) (pv 0) pe_int) (pss_one (ps_ret (pe_lst (pa_cons (pe_callB call_abs (by rfl) t.n_abs (by decide +kernel) (pa_cons (pv 0) pa_nil)) (pa_cons pe_int (pa_cons pe_int pa_nil)))))) pss_nil) (pss_one (ps_ret (pe_lst (pa_cons (pv 0) (pa_cons (pe_op op_add pe_int (pe_op op_modN (pe_callTy call_int1 (by rfl) t.n_int (by decide +kernel) (pa_cons (pv 0) pa_nil)) pe_int)) (pa_cons (pe_callTy call_int1 (by rfl) t.n_int (by decide +kernel) (pa_cons (pe_cmpR op_ge (pv 0) (pe_op op_pow pe_int pe_int) (nomark _)) pa_nil)) pa_nil)))))))), ?_⟩
  obtain ⟨n, rfl, hQ⟩ := h
  have l3 : 3 ≤ sizeLine := by decide
  refine ⟨_, _, rfl, rfl, _, rfl, _, _, rfl, rfl, _, rfl, ?_⟩
  by_cases h1 : decide (0 - 10 < n) = true
  · rw [if_pos h1]
    refine ⟨_, _, rfl, rfl, _, rfl, ?_⟩
    by_cases h2 : decide (n < 10) = true
    · show (if decide (n < 10) = true then _ else _)
      rw [if_pos h2]
      exact ⟨_, rfl, _, rfl, l3, fun p hp => hQ p hp _ _ _⟩
    · show (if decide (n < 10) = true then _ else _)
      rw [if_neg h2]
      exact ⟨_, rfl, _, rfl, .inl ⟨_, rfl, _, _, rfl, rfl, (by decide : (1009 : Int) ≠ 0), _, _, rfl, rfl, _, rfl, _, _, rfl, rfl, ⟨by decide, by decide, by decide⟩, _, _, rfl, rfl, .inr ⟨_, rfl, l3, fun p hp => hQ p hp _ _ _⟩⟩⟩
  · rw [if_neg h1]
    refine ⟨_, rfl, ?_⟩
    exact ⟨_, rfl, _, rfl, .inl ⟨_, rfl, _, _, rfl, rfl, (by decide : (1009 : Int) ≠ 0), _, _, rfl, rfl, _, rfl, _, _, rfl, rfl, ⟨by decide, by decide, by decide⟩, _, _, rfl, rfl, .inr ⟨_, rfl, l3, fun p hp => hQ p hp _ _ _⟩⟩⟩
theorem iteB {b : Bool} {X Y : Prop} (h : b = true → X) (k : b = false → Y) : if b = true then X else Y := by
  cases b
  · exact k rfl
  · exact h rfl
def spRoll (K : PySem.W.Frag) : Sp := fun vs H Q _ => ∃ (p : Addr) (m : Nat), vs = [.ref p, iv m] ∧ DiceAt H p ∧ 0 < m ∧ m ≤ 16 ∧ LamX.Tabs (TL K) H ∧ ∀ r H', r < m → Ch (TL K) (fun b => b = p) H H' → DiceAt H' p → Q (iv r) H'
theorem ok_law_roll (t : TX K mg base) : Does P w K mg base CX0 2 ("_law_roll", none) ["_law_dice_here", "_law_many"] (spRoll K) := by
  have nd := (sc_law_roll).nd
  refine t.do_law_roll (fun vs H Q E h => by obtain ⟨_, _, rfl, _⟩ := h; rfl) fun A outer s H vs Q E hr h => ⟨_, PSs.nox ((pss_cons (ps_if (PW.pt (pw_or (pt_cmpR op_eq (pe_ix (ix_listK K rfl) (pv 0) pe_int (fun _ _ => rfl)) pe_int (nomark _)) (pw_or1 (PW.pt (pw_and (pt_cmpR op_eq (pe_ix (ix_listK K rfl) (pv 0) pe_int (fun _ _ => rfl)) pe_int (nomark _)) (pw_and1 (pt_cmpR op_gt (pe_ix (ix_listK K rfl) (pv 0) pe_int (fun _ _ => rfl)) pe_int (nomark _)))))))) (pss_cons (ps_set (i := 2) nd rfl (Or.inl rfl) (pe_op op_modN (pe_callTy call_int1 (by rfl) t.n_int (by decide +kernel) (pa_cons (pe_ix (ix_listK K rfl) (pv 0) pe_int (fun _ _ => rfl)) pa_nil)) (pv 1))) (pss_cons (ps_asg (pe_op op_fdivW (pe_ix (ix_listK K rfl) (pv 0) pe_int (fun _ _ => rfl)) (pv 1)) (pg_sub (pv 0) pe_int set_list)) (pss_one (ps_ret (pv 2))))) pss_nil) (pss_cons (ps_asg pe_int (pg_sub (pv 0) pe_int set_list)) (pss_cons (ps_asg (pe_op op_modN (pe_callTy call_int1 (by rfl) t.n_int (by decide +kernel) (pa_cons (pe_op op_add (pe_op op_add (pe_op op_mul (pe_ix (ix_listK K rfl) (pv 0) pe_int (fun _ _ => rfl)) pe_int) (pe_op op_mul (pe_ix (ix_listK K rfl) (pv 0) pe_int (fun _ _ => rfl)) pe_int)) pe_int) pa_nil)) pe_int) (pg_sub (pv 0) pe_int set_list)) (pss_cons (ps_asg (pe_op op_add (pe_ix (ix_listK K rfl) (pv 0) pe_int (fun _ _ => rfl)) pe_int) (pg_sub (pv 0) pe_int set_list)) (pss_one (ps_ret (pe_op op_modN (pe_callTy call_int1 (by rfl) t.n_int (by decide +kernel) (pa_cons (pe_op op_add (pe_op op_fdivW (pe_ix (ix_listK K rfl) (pv 0) pe_int (fun _ _ => rfl)) pe_int) (pe_ix (ix_listK K rfl) (pv 0) pe_int (fun _ _ => rfl))) pa_nil)) (pv 1))))))))), ?_⟩
  obtain ⟨p, m, rfl, ⟨a, b, c, hp⟩, h0, h16, hT, hQ⟩ := h
  have hm : (m : Int) ≠ 0 := by omega
  have h10 : (2 : Nat) ^ 10 = 1024 := by decide
  have hd : ∀ i : Int, CDivW i m := fun i => wide_div (b := 10) (by omega) (by omega) (by decide) (by decide)
  have hr0 : ∀ i : Int, ∃ r, i.fmod m = ((r : Nat) : Int) ∧ r < m := fun i => by
    rw [Int.fmod_eq_emod_of_nonneg i (by omega)]
    have h1 := Int.emod_nonneg i hm
    have h2 := Int.emod_lt_of_pos i (show (0 : Int) < m by omega)
    exact ⟨(i % m).toNat, by omega, by omega⟩
  obtain ⟨r1, er1, hr1⟩ := hr0 a
  have first : Q (.int (a.fmod m)) (upd H p (.lst [.int (a / m), .int b, .int c])) := by
    rw [er1]; exact hQ _ _ hr1 (Ch.put (S := fun b => b = p) (Ch.refl hT) hp nt_lst (.inr rfl)) ⟨_, _, _, upd_same⟩
  have q2 := fun x : Int => upd_same (H := upd H p (.lst [V.int a, V.int b, V.int 0])) (a := p) (o := .lst [V.int x, V.int b, V.int 0])
  have q3 := fun x : Int => upd_same (H := upd (upd H p (.lst [V.int a, V.int b, V.int 0])) p (.lst [V.int x, V.int b, V.int 0])) (a := p) (o := .lst [V.int x, V.int (b + 1), V.int 0])
  have last : ∀ x d : Int, Q (.int (d.fmod m)) (upd (upd (upd H p (.lst [V.int a, V.int b, V.int 0])) p (.lst [V.int x, V.int b, V.int 0])) p (.lst [V.int x, V.int (b + 1), V.int 0])) := fun x d => by
    obtain ⟨r2, er2, hr2⟩ := hr0 d
    rw [er2]
    have c1 := Ch.put (S := fun b => b = p) (o := .lst [V.int a, V.int b, V.int 0]) (Ch.refl hT) hp nt_lst (.inr rfl)
    have c2 := c1.put (o := .lst [V.int x, V.int b, V.int 0]) upd_same nt_lst (.inr rfl)
    exact hQ _ _ hr2 (c2.put (o := .lst [V.int x, V.int (b + 1), V.int 0]) upd_same nt_lst (.inr rfl)) ⟨_, _, _, upd_same⟩
  have q1 := upd_same (H := H) (a := p) (o := .lst [V.int a, V.int b, V.int 0])
  refine ⟨_, rfl, p, _, _, _, rfl, rfl, SqL.of hp, rfl, rfl, _, rfl, ?_⟩
  refine iteB (fun h1 => ?_) fun h1 => ?_
  · refine ⟨_, rfl, p, _, _, _, rfl, rfl, SqL.of hp, rfl, .inl ⟨_, rfl, _, rfl, _, _, rfl, rfl, hm, ?_⟩⟩
    exact ⟨_, rfl, p, _, _, _, rfl, rfl, SqL.of hp, rfl, _, rfl, _, _, rfl, rfl, hd _, _, rfl, p, _, _, _, rfl, rfl, hp, rfl, _, rfl, first⟩
  refine ⟨_, rfl, p, _, _, _, rfl, rfl, SqL.of hp, rfl, rfl, _, rfl, ?_⟩
  refine iteB (fun h2 => ?_) fun h2 => ?_
  · refine ⟨_, rfl, p, _, _, _, rfl, rfl, SqL.of hp, rfl, _, _, rfl, rfl, _, rfl, ?_⟩
    refine iteB (fun h3 => ?_) fun h3 => ?_
    · refine ⟨_, rfl, p, _, _, _, rfl, rfl, SqL.of hp, rfl, .inl ⟨_, rfl, _, rfl, _, _, rfl, rfl, hm, ?_⟩⟩
      exact ⟨_, rfl, p, _, _, _, rfl, rfl, SqL.of hp, rfl, _, rfl, _, _, rfl, rfl, hd _, _, rfl, p, _, _, _, rfl, rfl, hp, rfl, _, rfl, first⟩
    · refine ⟨_, rfl, p, _, _, _, rfl, rfl, hp, rfl, _, rfl, p, _, _, _, rfl, rfl, SqL.of q1, rfl, _, _, rfl, rfl, .inr (by decide), _, rfl, p, _, _, _, rfl, rfl, SqL.of q1, rfl, _, _, rfl, rfl, .inr (by decide), _, _, rfl, rfl, _, _, rfl, rfl, .inl ⟨_, rfl, _, _, rfl, rfl, (by decide : (2147483647 : Int) ≠ 0), _, rfl, p, _, _, _, rfl, rfl, q1, rfl, ?_⟩⟩
      exact ⟨_, rfl, p, _, _, _, rfl, rfl, SqL.of (q2 _), rfl, _, _, rfl, rfl, _, rfl, p, _, _, _, rfl, rfl, q2 _, rfl, _, rfl, p, _, _, _, rfl, rfl, SqL.of (q3 _), rfl, _, _, rfl, rfl, ⟨by decide, by decide⟩, _, rfl, p, _, _, _, rfl, rfl, SqL.of (q3 _), rfl, _, _, rfl, rfl, .inl ⟨_, rfl, _, rfl, _, _, rfl, rfl, hm, last _ _⟩⟩
  · refine ⟨_, rfl, p, _, _, _, rfl, rfl, hp, rfl, _, rfl, p, _, _, _, rfl, rfl, SqL.of q1, rfl, _, _, rfl, rfl, .inr (by decide), _, rfl, p, _, _, _, rfl, rfl, SqL.of q1, rfl, _, _, rfl, rfl, .inr (by decide), _, _, rfl, rfl, _, _, rfl, rfl, .inl ⟨_, rfl, _, _, rfl, rfl, (by decide : (2147483647 : Int) ≠ 0), _, rfl, p, _, _, _, rfl, rfl, q1, rfl, ?_⟩⟩
    exact ⟨_, rfl, p, _, _, _, rfl, rfl, SqL.of (q2 _), rfl, _, _, rfl, rfl, _, rfl, p, _, _, _, rfl, rfl, q2 _, rfl, _, rfl, p, _, _, _, rfl, rfl, SqL.of (q3 _), rfl, _, _, rfl, rfl, ⟨by decide, by decide⟩, _, rfl, p, _, _, _, rfl, rfl, SqL.of (q3 _), rfl, _, _, rfl, rfl, .inl ⟨_, rfl, _, rfl, _, _, rfl, rfl, hm, last _ _⟩⟩
end
end PMT

set_option Elab.async false
set_option linter.all false
set_option maxRecDepth 100000
set_option maxHeartbeats 2000000
/-! U2: the law's rounds and words. -/
namespace PMT
open PySem PySem.Spec PyProof.Rows L2
section
variable {P : Program} {w : World} {K : PySem.W.Frag} {mg : Str → Option Value} {base : Heap}
theorem paired_one {α β : Type} {F : α → β → Prop} {n : α} {ys : List β} (h : Paired F [n] ys) : ∃ y, ys = [y] ∧ F n y := by
  cases h with
  | cons h t => cases t; exact ⟨_, rfl, h⟩
def spRounds (K : PySem.W.Frag) : Sp := fun vs H Q _ => ∃ (a : Addr) (ns : List Int), vs = [.ref a, .int 1] ∧ SqL K H a (ns.map V.int) ∧ LamX.Tabs (TL K) H ∧ ∀ p q H', Ex (TL K) H H' → H' p = some (.lst [.ref q]) → DiceAt H' q → Q (.ref p) H'
theorem ok_law_rounds (t : TX K mg base) : Does P w K mg base CX0 3 ("_law_rounds", none) ["_law_script", "_law_most_now"] (spRounds K) := by
  obtain ⟨fd_law_dice, G_law_dice, b_law_dice, p_law_dice⟩ := ok_law_dice (P := P) (w := w) t
  have nd := (sc_law_rounds).nd
  refine t.do_law_rounds (fun vs H Q E h => by obtain ⟨_, _, rfl, _⟩ := h; rfl) fun A outer s H vs Q E hr h => ⟨_, PSs.nox ((pss_cons (ps_set (i := 2) nd rfl (Or.inl rfl) (pe_slice (sl_listK K rfl) (pv 0) po_none (po_some (pv 1)))) (pss_cons (ps_if (pt_cmpR (op_eqDK K rfl hr.units) (pv 2) (pe_lst pa_nil) (nomark _)) (pss_one (ps_set (i := 2) nd rfl (Or.inl rfl) (pe_lst (pa_cons pe_int pa_nil)))) pss_nil) (pss_one (ps_ret (pe_lc (X := ((X_law_rounds CX0 P w K mg base A outer s H E).nox)) (own := [("_law_cell", 3)]) (g := (gName 3)) rfl nd (pi_listK K rfl (pv 2)) (blkOk_by (own := [("_law_cell", 3)]) (N := ["_law_script", "_law_most_now", "_law_cells", "_law_cell"]) (sc := defScope PMH.s_law_rounds) (by decide +kernel)) (fun s1 H1 C1 l1 p1 => (pg_name (i := 3) nd rfl (Or.inl rfl))) (fun s1 H1 C1 l1 p1 => pts_nil) (fun s1 H1 C1 l1 p1 => (pe_call G_law_dice (hr.mono (by decide)) (by rfl) t.g_law_dice p_law_dice b_law_dice .nil pass0 (pa_cons (pv 3) pa_nil))))))))), ?_⟩
  obtain ⟨a, ns, rfl, ha, hT, hQ⟩ := h
  have tail : ∀ (v : Addr) (n : Int) (H1 : Hp), Ex (TL K) H H1 → H1 v = some (.lst [.int n]) → (tLc (iList K (tVar 2)) (gName 3) tYes (tCall (spDice K) [] E0 (tCons (tVar 3) tNil)) [3]) [some (.ref a), some (.int 1), some (.ref v), none] H1 Q := by
    intro v n H1 e1 hv
    refine ⟨_, rfl, v, rfl, ⟨_, SqL.of hv⟩, fun D hD => ?_⟩
    refine lcx walk_list (ls := [n]) rfl (fun _ => true) (fun _ y H => ∃ q, y = .ref q ∧ DiceAt H q ∧ q ≠ D) e1.tb hD (fun H e => Ex.sqL e (SqL.of hv)) (by show 1 < sizeLine; decide) ?_ ?_ ?_
    · intro n y H H' c _ ⟨q, e, ⟨a, b, c', hq⟩, hne⟩
      exact ⟨q, e, ⟨a, b, c', c.k hq hne⟩, hne⟩
    · intro i n' x H3 H4 N M hi e hY ⟨zs, hz⟩ _ hM
      obtain ⟨rfl, rfl⟩ := yat (f := V.int) hi hY
      refine ⟨rfl, _, rfl, n', rfl, fun q hq a b c => ?_⟩
      exact hM rfl _ _ ((Ch.refl e.tb).new hq) ⟨q, rfl, ⟨_, _, _, upd_same⟩, fun e2 => by rw [e2, hz] at hq; cases hq⟩
    · intro H3 ys e3 hD3 hp
      obtain ⟨y, rfl, q, rfl, hq, hne⟩ := paired_one hp
      exact hQ _ q _ (e1.trans e3) hD3 hq
  refine ⟨_, rfl, _, rfl, _, rfl, a, _, rfl, ha, fun p hp => ?_⟩
  have e0 : cutV (ns.map V.int) none (some 1) = (ns.take 1).map V.int := by
    have := HT.sIx_nat (ns.map V.int).length (ns.map V.int).length 1
    unfold cutV
    rw [HT.sIx_none, show ((1 : Int)) = ((1 : Nat) : Int) from rfl, this, List.drop_zero, Nat.sub_zero]
    cases ns with
    | nil => rfl
    | cons n r => simp
  rw [e0]
  have e1 := (Ch.refl (S := No) hT).new (o := .lst ((ns.take 1).map V.int)) hp
  refine ⟨_, rfl, Nat.zero_le _, fun p2 hp2 => ?_⟩
  have e2 := e1.new (o := .lst []) hp2
  have hp1 := Ex.k ((Ch.refl (S := No) e1.tb).new (o := .lst []) hp2) (upd_same (H := H) (a := p) (o := .lst ((ns.take 1).map V.int)))
  refine rd_eq (d := deList deInt) (a := ns.take 1) (b := []) (by decide) (dp_listF (SqL.of hp1) fun a => .int _) (dp_listF (f := V.int) (SqL.of upd_same) fun a => .int _) (fun _ _ => trivial) (fun _ _ => trivial) ⟨_, rfl, ?_⟩
  refine iteB (fun h1 => ?_) fun h1 => ?_
  · refine ⟨by decide, fun p3 hp3 => ?_⟩
    have e3 := e2.new (o := .lst [V.int 0]) hp3
    exact tail p3 0 _ e3 upd_same
  · have h1 := of_decide_eq_false h1
    cases ns with
    | nil => exact absurd rfl h1
    | cons n r => exact tail p n _ e2 hp1
end
end PMT

set_option Elab.async false
set_option linter.all false
set_option maxRecDepth 100000
set_option maxHeartbeats 2000000
/-! U3: the law's words. -/
namespace PMT
open PySem PySem.Spec PyProof.Rows L2
section
variable {P : Program} {w : World} {K : PySem.W.Frag} {mg : Str → Option Value} {base : Heap}
/-- a text of letters -/
def Letters (z : Str) (L : List Str) : Prop := z.cps.toList.map (fun c => (⟨#[c]⟩ : Str)) = L
def spWords (K : PySem.W.Frag) : Sp := fun vs H Q _ => ∃ (d : Addr) (z : Str) (L : List Str), vs = [.ref d, .str z] ∧ DiceAt H d ∧ Letters z L ∧ L.Nodup ∧ 0 < L.length ∧ L.length ≤ 8 ∧ LamX.Tabs (TL K) H ∧ ∀ (l : List Str) p H', l.Nodup → (∀ x ∈ l, x ∈ L) → Ch (TL K) (fun b => b = d) H H' → DiceAt H' d → SqT K H' p (l.map V.str) → Q (.ref p) H'
theorem ok_law_words (t : TX K mg base) : Does P w K mg base CX0 3 ("_law_words", none) ["_law_dice_here", "_law_words_here"] (spWords K) := by
  obtain ⟨fd_law_roll, G_law_roll, b_law_roll, p_law_roll⟩ := ok_law_roll (P := P) (w := w) t
  have nd := (sc_law_words).nd
  refine t.do_law_words (fun vs H Q E h => by obtain ⟨_, _, _, rfl, _⟩ := h; rfl) fun A outer s H vs Q E hr h => ⟨_, PSs.nox ((pss_cons (ps_par (by rfl) nd (i := 3) (j := 4) rfl rfl (by decide) rfl rfl (pa_cons (pe_callTy (RX.call_list_text rfl) (by rfl) t.n_list (by decide +kernel) (pa_cons (pv 1) pa_nil)) (pa_cons (pe_lst pa_nil) pa_nil)) (by rfl)) (pss_cons (ps_for PassesOwn.never rfl (pi_range1 (by rfl) t.n_range (pa_cons (pe_call G_law_roll (hr.mono (by decide)) (by rfl) t.g_law_roll p_law_roll b_law_roll .nil pass0 (pa_cons (pv 0) (pa_cons (pe_op op_add (pe_callB call_len_str (by rfl) t.n_len PySem.boot_len (pa_cons (pv 1) pa_nil)) pe_int) pa_nil))) pa_nil)) (pg_name (i := 2) nd rfl (Or.inl rfl)) (pss_cons (ps_set (i := 5) nd rfl (Or.inl rfl) (pe_ix (ix_listK K rfl) (pv 3) (pe_call G_law_roll (hr.mono (by decide)) (by rfl) t.g_law_roll p_law_roll b_law_roll .nil pass0 (pa_cons (pv 0) (pa_cons (pe_callB (call_lenK K rfl) (by rfl) t.n_len PySem.boot_len (pa_cons (pv 3) pa_nil)) pa_nil))) (fun _ _ => rfl))) (pss_cons (ps_expr (pe_bmK K rfl PySem.F.plainAttrs_list PySem.F.slot_list_append PySem.F.type_list_append mt_append (pv 4) (pa_cons (pv 5) pa_nil))) (pss_one (ps_expr (pe_bmK K rfl PySem.F.plainAttrs_list PySem.F.slot_list_remove PySem.F.type_list_remove RX.mt_removeS (pv 3) (pa_cons (pv 5) pa_nil))))))) (pss_one (ps_ret (pe_callTy (call_tupleK K rfl) (by rfl) t.n_tuple (by decide +kernel) (pa_cons (pv 4) pa_nil))))))), ?_⟩
  obtain ⟨d, z, L, rfl, ⟨a0, b0, c0, hd⟩, hz, hnd, h0, h8, hT, hQ⟩ := h
  have hlen : z.cps.toList.length = L.length := by
    rw [← hz, List.length_map]
  have hsz : z.cps.size = L.length := by rw [← hlen]; simp
  have hzl : z.length = L.length := hsz
  have big : 8 ≤ sizeLine := by decide
  have eL : (z.cps.toList.map fun c => V.str ⟨#[c]⟩) = L.map V.str := by rw [← hz, List.map_map]; rfl
  refine ⟨_, rfl, _, rfl, by rw [hsz]; omega, ?_⟩
  rw [eL]
  refine fun p hp => ⟨Nat.zero_le _, fun q hq => ?_⟩
  have e1 := (Ch.refl (S := No) hT).new (o := .lst (L.map V.str)) hp
  have e2 := e1.new (o := .lst []) hq
  have hp2 := Ex.k ((Ch.refl (S := No) e1.tb).new (o := .lst []) hq) (upd_same (H := H) (a := p) (o := .lst (L.map V.str)))
  have hd2 := Ex.k e2 hd
  have npd : p ≠ d := fun e => by rw [e] at hp; rw [hp] at hd; cases hd
  have nqd : q ≠ d := fun e => by rw [e] at hq; rw [Ex.k e1 hd] at hq; cases hq
  have nqp : q ≠ p := fun e => by rw [e, upd_same] at hq; cases hq
  refine ⟨_, _, rfl, _, rfl, _, rfl, _, rfl, by omega, _, _, rfl, rfl, d, z.length + 1, rfl, ⟨_, _, _, hd2⟩, by omega, by omega, e2.tb, fun r H3 hr c3 hd3 => ?_⟩
  have p62 : (2 : Nat) ^ 62 = 4611686018427387904 := by decide
  refine ⟨_, rfl, by omega, by omega, ?_⟩
  refine for_it walk_range (fun i σ H' => (∃ u v, σ = [some (.ref d), some (.str z), u, some (.ref p), some (.ref q), v]) ∧ Ch (TL K) (fun b => b = d) H H' ∧ DiceAt H' d ∧ ∃ l1 l2 : List Str, H' p = some (.lst (l1.map V.str)) ∧ H' q = some (.lst (l2.map V.str)) ∧ (l1 ++ l2).Nodup ∧ (∀ x ∈ l1 ++ l2, x ∈ L) ∧ l2.length = i ∧ (l1 ++ l2).length = L.length) ?_ ?_ ?_ ?_
  · refine ⟨⟨_, _, rfl⟩, Ch.trans (Ex.weak e2) c3, hd3, L, [], c3.k hp2 npd, c3.k upd_same nqd, by simpa using hnd, by simp, rfl, by simp⟩
  · intro i σ H' _ _; trivial
  · rintro i x σ H4 H5 hi ⟨⟨u, v, rfl⟩, c4, ⟨a4, b4, c4', hd4⟩, l1, l2, hp4, hq4, hnd4, hsub, hl2, hlen4⟩ hY
    obtain ⟨rfl, rfl⟩ := hY
    rw [List.length_append] at hlen4
    refine ⟨_, rfl, ?_⟩
    have hl1 : 0 < l1.length := by omega
    refine ⟨_, rfl, _, rfl, p, _, rfl, .inl (SqL.of hp4), d, l1.length, ?_, ⟨_, _, _, hd4⟩, hl1, by omega, c4.tb, fun k H6 hk c6 hd6 => ?_⟩
    · rw [List.length_map]; rfl
    have hp6 := c6.k hp4 npd
    have hq6 := c6.k hq4 nqd
    have hx : l1[k]? = some l1[k] := List.getElem?_eq_getElem hk
    refine ⟨p, _, _, _, rfl, rfl, SqL.of hp6, atI_nat (by rw [List.getElem?_map, hx]; rfl), ?_⟩
    have hxn : l1[k] ∉ l2 := fun z => by
      have := (List.nodup_append.mp hnd4).2.2 _ (List.getElem_mem hk) _ z
      exact this rfl
    refine ⟨_, rfl, .inl ⟨rfl, _, SqL.of hq6⟩, _, rfl, q, _, _, rfl, rfl, hq6, by rw [List.length_map]; omega, ?_⟩
    have c7 := (c4.trans c6)
    have nd1 : l1.Nodup := (List.nodup_append.mp hnd4).1
    refine ⟨_, rfl, .inl ⟨rfl, _, SqL.of ((upd_ne nqp.symm).trans hp6)⟩, _, rfl, p, l1, l1[k], k, rfl, rfl, (upd_ne nqp.symm).trans hp6, hx, fun m hm e => ?_, ?_⟩
    · have h1 := (PM.idx_of_get? nd1 hx).1
      have h2 := (PM.idx_of_get? nd1 e).1
      omega
    have c8 : Ch (TL K) (fun b => b = d) H (upd (upd H6 q (.lst (l2.map V.str ++ [.str l1[k]]))) p (.lst ((l1.eraseIdx k).map V.str))) := by
      have hqn : New H q := New.of (by
        cases e : H q with
        | none => rfl
        | some o => rw [upd_ne nqp, e] at hq; exact hq)
      exact (c7.putN hq6 nt_lst (.inl hqn)).putN ((upd_ne nqp.symm).trans hp6) nt_lst (.inl (New.of hp))
    obtain ⟨a6, b6, c6', hd6⟩ := hd6
    refine ⟨⟨_, _, rfl⟩, c8, ⟨a6, b6, c6', by rw [upd_ne npd.symm, upd_ne nqd.symm]; exact hd6⟩, l1.eraseIdx k, l2 ++ [l1[k]], upd_same, by rw [upd_ne nqp, upd_same, List.map_append]; rfl, ?_, ?_, by rw [List.length_append, hl2]; rfl, ?_⟩
    · have e : (l1.eraseIdx k ++ [l1[k]]).Perm l1 := by
        refine (List.perm_append_singleton _ _).trans ?_
        rw [List.eraseIdx_eq_take_drop_succ]
        have h2 : l1.take k ++ l1[k] :: l1.drop (k + 1) = l1 := by
          rw [← List.drop_eq_getElem_cons hk, List.take_append_drop]
        have h3 : (l1[k] :: (l1.take k ++ l1.drop (k + 1))).Perm (l1.take k ++ l1[k] :: l1.drop (k + 1)) := List.perm_middle.symm
        exact h3.trans (List.Perm.of_eq h2)
      have e2 : (l1.eraseIdx k ++ (l2 ++ [l1[k]])).Perm (l1 ++ l2) := by
        refine List.Perm.trans ?_ (List.Perm.append_right l2 e)
        rw [List.append_assoc]
        exact List.Perm.append_left _ (List.perm_append_comm)
      exact e2.nodup_iff.mpr hnd4
    · intro x hx
      rcases List.mem_append.mp hx with hx | hx
      · exact hsub x (List.mem_append_left _ (List.mem_of_mem_eraseIdx hx))
      · rcases List.mem_append.mp hx with hx | hx
        · exact hsub x (List.mem_append_right _ hx)
        · rw [List.mem_singleton] at hx; subst hx
          exact hsub _ (List.mem_append_left _ (List.getElem_mem hk))
    · rw [List.length_append, List.length_append, List.length_eraseIdx_of_lt hk]
      simp only [List.length_singleton]; omega
  · rintro σ H4 ⟨⟨u, v, rfl⟩, c4, hd4, l1, l2, hp4, hq4, hnd4, hsub, hl2, hlen4⟩
    refine ⟨_, rfl, q, _, rfl, .inl ⟨SqL.of hq4, fun f hf => ?_⟩⟩
    exact hQ l2 f _ (List.nodup_append.mp hnd4).2.1 (fun x hx => hsub x (List.mem_append_right _ hx)) (c4.new hf) (by obtain ⟨a, b, c, h⟩ := hd4; exact ⟨a, b, c, Ex.k ((Ch.refl (S := No) c4.tb).new hf) h⟩) (SqT.of upd_same)
end
end PMT

set_option Elab.async false
set_option linter.all false
set_option maxRecDepth 100000
set_option maxHeartbeats 2000000
/-! U4: what a deed told. -/
namespace PMT
open PySem PySem.Spec PyProof.Rows L2 LamX PMH
/-- what may be told of a lambda's reading -/
def TTold (K : PySem.W.Frag) : (XK → Hp → VK → Prop) → Hp → VK → Prop := fun tl H Q =>
  tl (fun cls _ H' => (cls = .ref (He.ga K "NoSuch") ∧ Q (.str "no such") H') ∨ (cls = .ref (He.ga K "BadDeed") ∧ Q (.str "deed") H')) H Q
section
variable {K : PySem.W.Frag} {mg : Str → Option Value} {base : Heap}
theorem told_gives (t : TX K mg base) {X : Cx} (hK : X.K = K) (hmg : X.mg = mg) {g : Addr} {cdg : Value} {q : Str} : GivesTo X ["_law_what"] "_law_told" (defScope s_law_told) g cdg (defBody s_law_told) "_law_what" q (TTold K) := by
  subst hK hmg
  intro f c' s H Q tl act hc h
  let X0 : Cx := (cxOf C8.CX0 X.prog X.w X.K X.mg X.base ["_law_what"] "_law_told" (defScope s_law_told) g cdg X.A X.stack s H C8.E0).nox
  have nm : ∀ {e : Str} {CS : Addr}, (defScope s_law_told).names.lookup e = some .globalImplicit → (e == ("__debug__" : Str)) = false → X.mg e = some (.ref CS) → Names X0 e (.ref CS) := fun h1 h2 h3 => ⟨h1, h2, .inl h3⟩
  refine ⟨_, pss_one (ps_try_many (X := X0) (tb := fun W D σ H => ∃ Ech : XK, (∀ cls d σ' H', Ech cls d H' → W cls d σ' H') ∧ σ[0]? = some (some (.ref f)) ∧ H c' = some (CodeO c' q) ∧ tl Ech H D.rt) rfl rfl takes0 (fun W pn xe tk _ => ?_)
    (.cons (nm (by rfl) (by rfl) t.g_BadWish) (fun _ _ _ _ _ _ _ => pss_one (ps_ret pe_str)) (.cons (nm (by rfl) (by rfl) t.g_BadRoom) (fun _ _ _ _ _ _ _ => pss_one (ps_ret pe_str)) (.cons (nm (by rfl) (by rfl) t.g_BadMatch) (fun _ _ _ _ _ _ _ => pss_one (ps_ret pe_str))
    (.cons (nm (by rfl) (by rfl) t.g_BadPaper) (fun _ _ _ _ _ _ _ => pss_one (ps_ret pe_str)) (.cons (nm (by rfl) (by rfl) t.g_BadSize) (fun _ _ _ _ _ _ _ => pss_one (ps_ret pe_str)) (.cons (nm (by rfl) (by rfl) t.g_BadText) (fun _ _ _ _ _ _ _ => pss_one (ps_ret pe_str))
    (.cons (nm (by rfl) (by rfl) t.g_BadStore) (fun _ _ _ _ _ _ _ => pss_one (ps_ret pe_str)) (.cons (nm (by rfl) (by rfl) t.g_NoSuch) (fun _ _ _ _ _ _ _ => pss_one (ps_ret pe_str)) (.cons (nm (by rfl) (by rfl) t.g_BadDeed) (fun _ _ _ _ _ _ _ => pss_one (ps_ret pe_str)) .nil)))))))))), ?_⟩
  · refine ⟨fun pins s' σ H' D I h' => ?_⟩
    obtain ⟨Ech, hW, h1, h2, h3⟩ := h'
    exact (pss_one (ps_ret (act W pn xe Ech _ _ tk hW))).run pins s' σ H' D I ⟨h1, h2, h3⟩
  · refine ⟨_, fun cls d σ' H' hz => ?_, rfl, hc, h⟩
    rcases hz with ⟨rfl, hq⟩ | ⟨rfl, hq⟩
    · exact ⟨_, t.e_NoSuch_BadWish, nofun, fun _ => ⟨_, t.e_NoSuch_BadRoom, nofun, fun _ => ⟨_, t.e_NoSuch_BadMatch, nofun, fun _ => ⟨_, t.e_NoSuch_BadPaper, nofun, fun _ => ⟨_, t.e_NoSuch_BadSize, nofun, fun _ => ⟨_, t.e_NoSuch_BadText, nofun, fun _ => ⟨_, t.e_NoSuch_BadStore, nofun, fun _ => ⟨_, t.e_NoSuch_NoSuch, fun _ _ _ => hq, nofun⟩⟩⟩⟩⟩⟩⟩⟩
    · exact ⟨_, t.e_BadDeed_BadWish, nofun, fun _ => ⟨_, t.e_BadDeed_BadRoom, nofun, fun _ => ⟨_, t.e_BadDeed_BadMatch, nofun, fun _ => ⟨_, t.e_BadDeed_BadPaper, nofun, fun _ => ⟨_, t.e_BadDeed_BadSize, nofun, fun _ => ⟨_, t.e_BadDeed_BadText, nofun, fun _ => ⟨_, t.e_BadDeed_BadStore, nofun, fun _ => ⟨_, t.e_BadDeed_NoSuch, nofun, fun _ => ⟨_, t.e_BadDeed_BadDeed, fun _ _ _ => hq, nofun⟩⟩⟩⟩⟩⟩⟩⟩⟩
/-- _law_told(lambda: body) -/
theorem pe_told (t : TX K mg base) {X : Cx} (hK : X.K = K) (hmg : X.mg = mg) (hb : X.base = base) {P c : Addr} {k : Nat} {params : Arguments} {body : Expr} {scope : Scope} {tb : XK → TE} {p lpos pos : Pos} (hg : Gl X "_law_told")
    (TB : TabB base mg c P) (hcode : X.env.code = .ref c) (hmT : (P, X.env.qual ++ "<lambda>") ∈ TL K) (hr : Room (k + 2) X.A) (L : LamS X.env.scope scope) (hdef : defaultsOf params X.env = ([], []))
    (hbind : ∀ (q : Str) (cl : List (Str × Addr)) (pm cv ctv : Value), bindArgs (PySem.W.kla_fn "<lambda>" q params body scope cl pm cv ctv) ⟨[], []⟩ = pure [])
    (hbody : ∀ (A : Around) (outer : List Env) (s : Shared) (H : Hp) (E : XK) (f c' : Addr), Room k (A.deeper (lamEnv X scope s.heap.objs.size f c')) → PE (lamCx X A outer s H E scope f c') body (tb E)) :
    PE X (.Call (.Name "_law_told" p) [.Lambda params body scope lpos] [] pos) (tLam (TL K) (TTold K) tb) := by
  obtain ⟨fd, F⟩ := t.f_law_told
  have hkp := F.kp
  have bnd := F.bindsN (fun _ _ _ _ _ _ us hl => match us, hl with | [_], _ => rfl) (ps := ["_law_what"])
  obtain ⟨oc, od, dV, kV, doc, pm, an, cdv, ct, osl, rfl, lk, hcd, _, _⟩ := F.ex
  subst hK hmg hb
  exact pe_lamcall (a := "_law_what") (Ng := ["_law_what"]) hg t.g_law_told hkp lk hcd bnd sc_law_told rfl (.inl (by rfl)) (told_gives t rfl rfl) TB hcode hmT (t.tu hmT) hr L hdef hbind hbody
end
end PMT

set_option Elab.async false
set_option linter.all false
set_option maxRecDepth 100000
set_option maxHeartbeats 2000000
/-! U5: the law's own place in a list; every matching. -/
namespace PMT
open PySem PySem.Spec PyProof.Rows L2
section
variable {P : Program} {w : World} {K : PySem.W.Frag} {mg : Str → Option Value} {base : Heap}
theorem flat_iv (l : List Nat) : (l.map iv).all flatV = true := List.all_eq_true.mpr fun x hx => by
  obtain ⟨n, _, rfl⟩ := List.mem_map.mp hx
  rfl
theorem flat_ov (l : List (Option Nat)) : (l.map ov).all flatV = true := List.all_eq_true.mpr fun x hx => by
  obtain ⟨n, _, rfl⟩ := List.mem_map.mp hx
  cases n <;> rfl
theorem eqV_iv {a b : Nat} : eqV (iv a) (iv b) = decide (a = b) := by
  by_cases h : a = b
  · subst h; simp [eqV, iv]
  · rw [decide_eq_false h]
    simp [eqV, iv]; omega
theorem inV_iv {l : List Nat} {r : Nat} : inV (iv r) (l.map iv) = decide (r ∈ l) := by
  unfold inV
  rw [List.any_map]
  by_cases h : r ∈ l
  · rw [decide_eq_true h, List.any_eq_true]
    exact ⟨r, h, by show eqV (iv r) (iv r) = true; rw [eqV_iv]; exact decide_eq_true rfl⟩
  · rw [decide_eq_false h, List.any_eq_false]
    intro y hy z
    have : eqV (iv y) (iv r) = true := z
    rw [eqV_iv, decide_eq_true_eq] at this
    exact h (this ▸ hy)
theorem inV_non {l : List Nat} : inV .non (l.map iv) = false := by
  unfold inV
  rw [List.any_map, List.any_eq_false]
  intro y hy z
  have : eqV (iv y) .non = true := z
  cases this
def spPlace (K : PySem.W.Frag) : Sp := fun vs H Q _ => ∃ (p : Addr) (l : List Nat) (x : Option Nat), vs = [.ref p, ov x] ∧ SqL K H p (l.map iv) ∧ Q (iv (PM.pl l x)) H
theorem ok_law_place (t : TX K mg base) : Does P w K mg base CX0 2 ("_law_place", none) ["_law_order", "_law_one"] (spPlace K) := by
  have nd := (sc_law_place).nd
  refine t.do_law_place (fun vs H Q E h => by obtain ⟨_, _, _, rfl, _⟩ := h; rfl) fun A outer s H vs Q E hr h => ⟨_, PSs.nox ((pss_one (ps_ret (pe_ifExp (pt_cmpR (op_inK K rfl) (pv 1) (pv 0) (by rfl)) (pe_bmK K rfl PySem.F.plainAttrs_list PySem.F.slot_list_index PySem.F.type_list_index (mt_indexK K rfl) (pv 0) (pa_cons (pv 1) pa_nil)) (pe_callB (call_lenK K rfl) (by rfl) t.n_len PySem.boot_len (pa_cons (pv 0) pa_nil)))))), ?_⟩
  obtain ⟨p, l, x, rfl, hp, hQ⟩ := h
  cases x with
  | none =>
    refine ⟨_, rfl, _, rfl, p, _, rfl, .inl hp, rfl, flat_iv l, _, rfl, ?_⟩
    rw [inV_non]
    exact iteF ⟨_, rfl, p, _, rfl, .inl hp, by rw [List.length_map]; exact hQ⟩
  | some r =>
    refine ⟨_, rfl, _, rfl, p, _, rfl, .inl hp, rfl, flat_iv l, _, rfl, ?_⟩
    rw [inV_iv]
    by_cases h : r ∈ l
    · rw [decide_eq_true h]
      refine iteT ⟨_, rfl, .inl ⟨rfl, _, hp⟩, _, rfl, p, _, _, l.idxOf r, iv r, rfl, rfl, hp, rfl, flat_iv l, ?_, ?_, fun m z hm hz => ?_, hQ⟩
      · rw [List.getElem?_map, PM.get?_idx h]; rfl
      · rw [eqV_iv]; exact decide_eq_true rfl
      · rw [List.getElem?_map] at hz
        cases e : l[m]? with
        | none => rw [e] at hz; cases hz
        | some y =>
          rw [e] at hz
          cases hz
          rw [eqV_iv]
          refine decide_eq_false fun e2 => ?_
          subst e2
          obtain ⟨hm2, e3⟩ := List.getElem?_eq_some_iff.mp e
          have := List.not_of_lt_findIdx (p := fun b => b == y) (xs := l) (i := m) hm
          rw [e3] at this
          simp at this
    · rw [decide_eq_false h]
      refine iteF ⟨_, rfl, p, _, rfl, .inl hp, ?_⟩
      rw [List.length_map]
      have : PM.pl l (some r) = l.length := List.idxOf_eq_length h
      rw [this] at hQ
      exact hQ
theorem count_ov {row : List (Option Nat)} {r : Nat} : ((row.map ov).countP fun z => eqV z (iv r)) = row.count (some r) := by
  rw [List.countP_map, List.count]
  refine List.countP_congr fun x _ => ?_
  cases x with
  | none => simp [eqV]
  | some n =>
    show eqV (iv n) (iv r) = true ↔ _
    rw [eqV_iv, decide_eq_true_eq]
    simp
/-- the law's own market: lists of lists of numbers -/
structure LawMk (K : PySem.W.Frag) (H : Hp) (a b c : Addr) (m : NM) : Prop where
  l : ∃ as : List Addr, SqL K H a (as.map V.ref) ∧ Paired (fun p l => SqL K H p (l.map iv)) as m.ls
  o : ∃ as : List Addr, SqL K H b (as.map V.ref) ∧ Paired (fun p l => SqL K H p (l.map iv)) as m.os
  q : SqL K H c (m.qs.map iv)
theorem LawMk.ex {T : List (Addr × Str)} {H H' : Hp} {a b c : Addr} {m : NM} (h : LawMk K H a b c m) (e : Ex T H H') : LawMk K H' a b c m := by
  obtain ⟨⟨as, h1, h2⟩, ⟨bs, h3, h4⟩, h5⟩ := h
  exact ⟨⟨as, Ex.sqL e h1, Paired.mapP h2 fun _ _ z => Ex.sqL e z⟩, ⟨bs, Ex.sqL e h3, Paired.mapP h4 fun _ _ z => Ex.sqL e z⟩, Ex.sqL e h5⟩
/-- rows, each a tuple whose object is known -/
def RowsF (K : PySem.W.Frag) (H : Hp) (p : Addr) (rows : List (List (Option Nat))) : Prop := ∃ as : List Addr, SqL K H p (as.map V.ref) ∧ Paired (fun q row => TupF H q (row.map ov)) as rows
theorem RowsF.ex {T : List (Addr × Str)} {H H' : Hp} {p : Addr} {rows : List (List (Option Nat))} (h : RowsF K H p rows) (e : Ex T H H') : RowsF K H' p rows := by
  obtain ⟨as, h1, h2⟩ := h
  exact ⟨as, Ex.sqL e h1, Paired.mapP h2 fun _ _ z => z.ex e⟩
/-- small enough to be walked -/
structure NM.Small (m : NM) : Prop where
  a : m.ls.length ≤ 4
  r : m.os.length ≤ 3
theorem rooms_le {m : NM} (ok : m.Ok) (sm : m.Small) {k : Nat} (hk : k < m.ls.length) : (roomsN m k).length ≤ 4 := by
  unfold roomsN
  rw [List.length_cons, List.length_map]
  have h1 := List.length_filter_le (fun r => decide (k ∈ m.o r)) (m.l k)
  have h2 : (m.l k).length ≤ (List.range m.os.length).length := PM.nodup_sub_len (NM.l_nd ok hk) fun r hr => List.mem_range.mpr ((ok.lnd _ (List.mem_of_getElem? (m.at_l hk))).2.2 r hr)
  rw [List.length_range] at h2
  have := sm.r
  omega
theorem fresh_le {m : NM} (ok : m.Ok) (sm : m.Small) {k : Nat} (hk : k < m.ls.length) {row : List (Option Nat)} : (freshN m k row).length ≤ 4 := by
  unfold freshN
  rw [List.length_map]
  exact Nat.le_trans (List.length_filter_le _ _) (rooms_le ok sm hk)
theorem flat_le {α β : Type} {f : α → List β} {c : Nat} : ∀ {l : List α}, (∀ a ∈ l, (f a).length ≤ c) → (l.flatMap f).length ≤ c * l.length
  | [], _ => by simp
  | a :: r, h => by
    rw [List.flatMap_cons, List.length_append, List.length_cons, Nat.mul_succ]
    have h1 := h a List.mem_cons_self
    have h2 := flat_le (f := f) (c := c) (l := r) fun x hx => h x (List.mem_cons_of_mem _ hx)
    omega
theorem matches_le {m : NM} (ok : m.Ok) (sm : m.Small) : ∀ {n : Nat}, n ≤ m.ls.length → (matchesN m n).length ≤ 4 ^ n
  | 0, _ => by simp [matchesN]
  | n + 1, h => by
    rw [matchesN_succ, Nat.pow_succ]
    have h1 := flat_le (f := freshN m n) (c := 4) (l := matchesN m n) fun a _ => fresh_le ok sm (by omega)
    have h2 := matches_le ok sm (n := n) (by omega)
    omega
def spMatches (K : PySem.W.Frag) : Sp := fun vs H Q _ => ∃ (a b c : Addr) (m : NM), vs = [.ref a, .ref b, .ref c] ∧ LawMk K H a b c m ∧ m.Ok ∧ m.Small ∧ LamX.Tabs (TL K) H ∧ ∀ p H', Ex (TL K) H H' → RowsF K H' p (matchesN m m.ls.length) → Q (.ref p) H'
theorem ok_law_matches (t : TX K mg base) : Does P w K mg base CX0 2 ("_law_matches", none) ["_law_lists", "_law_orders", "_law_seats"] (spMatches K) := by
  have nd := (sc_law_matches).nd
  refine t.do_law_matches (fun vs H Q E h => by obtain ⟨_, _, _, _, rfl, _⟩ := h; rfl) fun A outer s H vs Q E hr h => ⟨_, PSs.nox ((pss_cons (ps_set (i := 3) nd rfl (Or.inl rfl) (pe_lst (pa_cons (pe_tupF pa_nil) pa_nil))) (pss_cons (ps_for PassesOwn.never rfl (pi_range1 (by rfl) t.n_range (pa_cons (pe_callB (call_lenK K rfl) (by rfl) t.n_len PySem.boot_len (pa_cons (pv 0) pa_nil)) pa_nil)) (pg_name (i := 4) nd rfl (Or.inr rfl)) (pss_cons (ps_set (i := 5) nd rfl (Or.inl rfl) (pe_op op_cat (pe_lst (pa_cons pe_non pa_nil)) (pe_lc (X := ((X_law_matches CX0 P w K mg base A outer s H E).nox)) (own := [("_law_room", 8)]) (g := (gName 8)) rfl nd (pi_listK K rfl (pe_ix (ix_listK K rfl) (pv 0) (pv 4) (fun _ _ => rfl))) (blkOk_by (own := [("_law_room", 8)]) (N := ["_law_lists", "_law_orders", "_law_seats", "_law_found", "_law_k", "_law_rooms", "_law_fresh", "_law_row", "_law_room"]) (sc := defScope PMH.s_law_matches) (by decide +kernel)) (fun s1 H1 C1 l1 p1 => (pg_name (i := 8) nd rfl (Or.inl rfl))) (fun s1 H1 C1 l1 p1 => (pts_one (pt_cmpR (op_inK K rfl) (pv 4) (pe_ix (ix_listK K rfl) (pv 1) (pv 8) (fun _ _ => rfl)) (by rfl)))) (fun s1 H1 C1 l1 p1 => (pv 8))))) (pss_cons (ps_set (i := 6) nd rfl (Or.inl rfl) (pe_lst pa_nil)) (pss_cons (ps_for PassesOwn.never rfl (pi_listK K rfl (pv 3)) (pg_name (i := 7) nd rfl (Or.inr rfl)) (pss_one (ps_set (i := 6) nd rfl (Or.inl rfl) (pe_op op_cat (pv 6) (pe_lc (X := ((X_law_matches CX0 P w K mg base A outer s H E).nox)) (own := [("_law_room", 8)]) (g := (gName 8)) rfl nd (pi_listK K rfl (pv 5)) (blkOk_by (own := [("_law_room", 8)]) (N := ["_law_lists", "_law_orders", "_law_seats", "_law_found", "_law_k", "_law_rooms", "_law_fresh", "_law_row", "_law_room"]) (sc := defScope PMH.s_law_matches) (by decide +kernel)) (fun s1 H1 C1 l1 p1 => (pg_name (i := 8) nd rfl (Or.inl rfl))) (fun s1 H1 C1 l1 p1 => (pts_one (PW.pt (pw_or (pt_cmpR op_isN (pv 8) pe_non (nomark _)) (pw_or1 (pt_cmpR op_lt (pe_bmT PySem.F.plainAttrs_tuple PySem.F.slot_tuple_count PySem.F.type_tuple_count (mt_tcountK K rfl) (pv 7) (pa_cons (pv 8) pa_nil)) (pe_ix (ix_listK K rfl) (pv 2) (pv 8) (fun _ _ => rfl)) (nomark _))))))) (fun s1 H1 C1 l1 p1 => (pe_op (op_catF K rfl) (pv 7) (pe_tupF (pa_cons (pv 8) pa_nil))))))))) (pss_one (ps_set (i := 3) nd rfl (Or.inl rfl) (pv 6))))))) (pss_one (ps_ret (pv 3)))))), ?_⟩
  obtain ⟨a, b, c, m, rfl, hm, ok, sm, hT, hQ⟩ := h
  have hs4 : 1024 ≤ sizeLine := by decide
  refine ⟨Nat.zero_le _, fun r0 o0 ho0 hr0 => ⟨by show 1 ≤ sizeLine; omega, fun p0 hp0 => ?_⟩⟩
  have e1 : Ex (TL K) H (upd H r0 (.frz o0 (.tup []))) := (Ch.refl hT).new hr0
  have e2 := e1.new (o := .lst [.ref r0]) hp0
  have rows0 : RowsF K (upd (upd H r0 (.frz o0 (.tup []))) p0 (.lst [.ref r0])) p0 (matchesN m 0) := ⟨[r0], SqL.of upd_same, .cons ⟨o0, ho0, Ex.k ((Ch.refl (S := No) e1.tb).new hp0) upd_same⟩ .nil⟩
  obtain ⟨as, ha1, ha2⟩ := (hm.ex e2).l
  have las := ha2.length
  have sma := sm.a
  have smr := sm.r
  have hlen : (as.map V.ref).length = m.ls.length := by rw [List.length_map]; exact las
  have p62 : (2 : Nat) ^ 62 = 4611686018427387904 := by decide
  refine ⟨_, rfl, a, _, rfl, .inl ha1, _, rfl, by omega, by omega, ?_⟩
  refine for_it walk_range (fun i σ H' => (∃ pf u4 u5 u6 u7 u8, σ = [some (.ref a), some (.ref b), some (.ref c), some (.ref pf), u4, u5, u6, u7, u8] ∧ RowsF K H' pf (matchesN m i)) ∧ Ex (TL K) H H') ?_ ?_ ?_ ?_
  · exact ⟨⟨p0, _, _, _, _, _, rfl, rows0⟩, e2⟩
  · intro _ _ _ _ _; trivial
  · rintro i x σ H4 H5 hi ⟨⟨pf, u4, u5, u6, u7, u8, rfl, hpf⟩, e4⟩ ⟨rfl, hx⟩
    have hx : x = iv i := by rw [hx]; show V.int (0 + (i : Int)) = _; rw [Int.zero_add]
    subst hx
    have hik : i < m.ls.length := by omega
    have hm4 := hm.ex e4
    obtain ⟨bs, hb1, hb2⟩ := hm4.o
    obtain ⟨as4, ha1, ha2⟩ := hm4.l
    obtain ⟨la, hla1, hla2⟩ := Paired.get ha2 (m.at_l hik)
    refine ⟨by show 1 ≤ sizeLine; omega, fun p1 hp1 => ?_⟩
    have e5 := e4.new (o := .lst [V.non]) hp1
    have x5 : Ex (TL K) H5 (upd H5 p1 (.lst [V.non])) := (Ch.refl e4.tb).new hp1
    refine ⟨_, rfl, _, rfl, a, _, _, _, rfl, rfl, Ex.sqL x5 ha1, atI_nat (by rw [List.getElem?_map, hla1]; rfl), ?_⟩
    refine ⟨la, rfl, ⟨_, Ex.sqL x5 hla2⟩, fun D hD => ?_⟩
    have lnd := NM.l_nd ok hik
    have llt := (ok.lnd _ (List.mem_of_getElem? (m.at_l hik))).2
    refine lcf walk_list (ls := m.l i) (by simp) (fun r => decide (i ∈ m.o r)) iv e5.tb hD (fun H e => Ex.sqL e (Ex.sqL x5 hla2)) (small llt.1) ?_ ?_
    · intro j r v H6 H7 N M hj e hY hN hM
      obtain ⟨rfl, rfl⟩ := yat hj hY
      have hrl := llt.2 r (List.mem_of_getElem? hj)
      obtain ⟨ob, hob1, hob2⟩ := Paired.get hb2 (m.at_o hrl)
      have x7 := x5.trans (Ch.trans ((Ch.refl (S := No) e5.tb)) e)
      refine ⟨rfl, _, rfl, _, rfl, _, rfl, b, _, _, _, rfl, rfl, Ex.sqL x7 hb1, atI_nat (by rw [List.getElem?_map, hob1]; rfl), ?_⟩
      refine ⟨ob, _, rfl, .inl (Ex.sqL x7 hob2), rfl, flat_iv _, _, rfl, ?_⟩
      show if (inV (iv i) ((m.o r).map iv)) = true then _ else _
      rw [inV_iv]
      by_cases hi2 : i ∈ m.o r
      · rw [decide_eq_true hi2]
        exact ⟨_, rfl, hM (decide_eq_true hi2) _ (Ch.refl e.tb)⟩
      · rw [decide_eq_false hi2]
        exact hN (decide_eq_false hi2) _ (Ch.refl e.tb)
    · intro H6 e6 hD6
      have x6 := x5.trans e6
      have hp16 := Ex.k e6 (upd_same (H := H5) (a := p1) (o := .lst [V.non]))
      refine ⟨p1, D, _, _, rfl, rfl, hp16, hD6, ?_, fun pr hpr => ?_⟩
      · rw [List.length_map]
        have := List.length_filter_le (fun r => decide (i ∈ m.o r)) (m.l i)
        have := llt.1
        simp only [List.length_singleton]
        omega
      have e8 : Ex (TL K) H6 (upd H6 pr (.lst ([V.non] ++ (((m.l i).filter fun r => decide (i ∈ m.o r)).map iv)))) := (Ch.refl e6.tb).new hpr
      have hrm : ([V.non] ++ (((m.l i).filter fun r => decide (i ∈ m.o r)).map iv)) = (roomsN m i).map ov := by
        unfold roomsN
        rw [List.map_cons, List.map_map]; rfl
      rw [hrm] at e8 ⊢
      refine ⟨Nat.zero_le _, fun pz hpz => ?_⟩
      have x9 := (x6.trans e8).new (o := .lst []) hpz
      have e9 := (e5.trans (e6.trans e8)).new (o := .lst []) hpz
      have hpr9 := Ex.k ((Ch.refl (S := No) e8.tb).new (o := .lst []) hpz) (upd_same (H := H6) (a := pr) (o := .lst ((roomsN m i).map ov)))
      obtain ⟨rs, hr1, hr2⟩ := hpf.ex x9
      have e9' := e4.trans x9
      refine ⟨_, rfl, pf, rfl, ⟨_, hr1⟩, ?_⟩
      have ml := matches_le ok sm (n := i) (by omega)
      have ml4 : 4 ^ i ≤ 4 ^ 4 := Nat.pow_le_pow_right (by omega) (by omega)
      have ml256 : (4 : Nat) ^ 4 = 256 := by decide
      have rm4 := rooms_le ok sm hik
      refine for_it (walk_list (xs := rs.map V.ref)) (fun j σ H' => (∃ pf2 u7 u8, σ = [some (.ref a), some (.ref b), some (.ref c), some (.ref pf), some (iv i), some (.ref pr), some (.ref pf2), u7, u8] ∧ ∃ as2 : List Addr, H' pf2 = some (.lst (as2.map V.ref)) ∧ Paired (fun q row => TupF H' q (row.map ov)) as2 (((matchesN m i).take j).flatMap (freshN m i))) ∧ Ex (TL K) (upd (upd H6 pr (.lst ((roomsN m i).map ov))) pz (.lst [])) H') ?_ ?_ ?_ ?_
      · exact ⟨⟨pz, _, _, rfl, [], upd_same, .nil⟩, Ch.refl e9.tb⟩
      · rintro j σ Hj _ ⟨_, ej⟩
        exact Ex.sqL ej hr1
      · rintro j x σ Hj Hk hj ⟨⟨pf2, u7, u8, rfl, as2, has2, pas2⟩, ej⟩ ⟨rfl, hx⟩
        rw [List.length_map] at hj
        have hj2 : j < (matchesN m i).length := by rw [← hr2.length]; exact hj
        have hrow : (matchesN m i)[j]? = some (matchesN m i)[j] := List.getElem?_eq_getElem hj2
        generalize (matchesN m i)[j] = row at hrow
        obtain ⟨q, hq1, hq2⟩ := Paired.get hr2 hrow
        have hx : x = .ref q := by
          rw [List.getElem?_map, hq1] at hx
          exact (Option.some.inj hx).symm
        subst hx
        have hq := TupF.ex hq2 ej
        have hprj := Ex.k ej hpr9
        have rowl : row.length = i := (mem_matchesN.mp (List.mem_of_getElem? hrow)).1
        refine ⟨_, rfl, _, rfl, pr, rfl, ⟨_, SqL.of hprj⟩, fun D2 hD2 => ?_⟩
        refine lcx walk_list (ls := roomsN m i) (by simp) (fitsN m row) (fun x y H => ∃ q, y = .ref q ∧ TupF H q ((row ++ [x]).map ov)) ej.tb hD2 (fun H e => Ex.sqL e (SqL.of hprj)) (by omega) ?_ ?_ ?_
        · rintro x y H8 H9 c8 ⟨zs, hz⟩ ⟨q2, rfl, o2, ho2, hq2⟩
          exact ⟨q2, rfl, o2, ho2, c8.k hq2 (ne_of hq2 hz nofun)⟩
        · intro j2 x v H8 H9 N M hj2 e hY hzs hN hM
          obtain ⟨rfl, rfl⟩ := yat hj2 hY
          have hq8 := TupF.ex hq e
          have fin : ∀ (σ2 : L2.St), σ2[7]? = some (some (.ref q)) → σ2[8]? = some (some (ov x)) → fitsN m row x = true → (tOp (rCatF K) (tVar 7) (tTupF (tCons (tVar 8) tNil))) σ2 H9 M := by
            intro σ2 h7 h8 hf
            refine ⟨_, h7, _, h8, by show 1 ≤ sizeLine; omega, fun p3 o3 ho3 hp3 => ?_⟩
            have x3 : Ex (TL K) H9 (upd H9 p3 (.frz o3 (.tup [ov x]))) := (Ch.refl e.tb).new hp3
            refine ⟨q, p3, _, _, rfl, rfl, (TupF.ex hq8 x3).t, ⟨o3, ho3, upd_same⟩, by simp, by rw [List.length_map]; show row.length + 1 ≤ sizeLine; omega, fun p4 H4 hk hor ht => ?_⟩
            refine hM hf _ H4 ?_ ⟨p4, rfl, by rw [List.map_append]; exact ht⟩
            rcases hor with rfl | ⟨o, rfl, h0⟩
            · exact x3
            · exact x3.new h0
          cases x with
          | none => exact ⟨rfl, _, rfl, rfl, _, rfl, iteT (fin _ rfl rfl rfl)⟩
          | some r =>
            have hrm := mem_rooms.mp (List.mem_of_getElem? hj2) r rfl
            have hrl : r < m.os.length := llt.2 r hrm.1
            have hmq := (hm4.ex (x9.trans ej)).q
            have hq0 : m.qs[r]? = some (m.q r) := m.at_q (by rw [ok.len]; exact hrl)
            refine ⟨rfl, _, rfl, rfl, _, rfl, iteF ⟨_, rfl, ⟨q, _, rfl, hq8⟩, _, rfl, q, _, iv r, rfl, rfl, hq8.t, rfl, flat_ov row, ?_⟩⟩
            rw [count_ov]
            refine ⟨_, rfl, _, rfl, c, _, _, _, rfl, rfl, Ex.sqL e hmq, atI_nat (by rw [List.getElem?_map, hq0]; rfl), _, _, rfl, rfl, _, rfl, ?_⟩
            have hdc : decide (((row.count (some r) : Nat) : Int) < ((m.q r : Nat) : Int)) = fitsN m row (some r) := by
              show _ = decide (row.count (some r) < m.q r)
              by_cases h : row.count (some r) < m.q r
              · rw [decide_eq_true h, decide_eq_true (by omega)]
              · rw [decide_eq_false h, decide_eq_false (by omega)]
            rw [hdc]
            exact iteB (fun hf => fin _ rfl rfl hf) fun hf => hN hf _ (Ch.refl e.tb)
        · intro H8 ys e8 hD8 hys
          obtain ⟨as3, rfl, hp3⟩ := refs_of hys
          have hb8 := Ex.k e8 has2
          have k3 := hp3.length
          have k2 := pas2.length
          have kf := flat_le (f := freshN m i) (c := 4) (l := (matchesN m i).take j) fun a _ => fresh_le ok sm hik
          have kt := List.length_take_le j (matchesN m i)
          have kr := List.length_filter_le (fitsN m row) (roomsN m i)
          refine ⟨pf2, D2, _, _, rfl, rfl, hb8, hD8, by rw [List.length_map, List.length_map]; omega, fun p5 hp5 => ?_⟩
          have e10 : Ex (TL K) H8 (upd H8 p5 (.lst (as2.map V.ref ++ as3.map V.ref))) := (Ch.refl e8.tb).new hp5
          refine ⟨⟨p5, _, _, rfl, as2 ++ as3, by rw [upd_same, List.map_append], ?_⟩, (ej.trans e8).trans e10⟩
          rw [take_snoc hrow, List.flatMap_append]
          refine Paired.app (Paired.mapP pas2 fun _ _ z => z.ex (e8.trans e10)) ?_
          simp only [List.flatMap_cons, List.flatMap_nil, List.append_nil]
          unfold freshN
          exact Paired.mapR (Paired.mapP (Paired.flip hp3) fun _ _ z => TupF.ex z e10)
      · rintro σ Hj ⟨⟨pf2, u7, u8, rfl, as2, has2, pas2⟩, ej⟩
        rw [List.length_map, hr2.length, List.take_length, ← matchesN_succ] at pas2
        exact ⟨_, rfl, ⟨pf2, _, _, _, _, _, rfl, as2, SqL.of has2, pas2⟩, e9'.trans ej⟩
  · rintro σ H4 ⟨⟨pf, u4, u5, u6, u7, u8, rfl, hpf⟩, e4⟩
    rw [hlen] at hpf
    exact ⟨_, rfl, hQ pf _ e4 hpf⟩
end
end PMT

set_option Elab.async false
set_option linter.all false
set_option maxRecDepth 100000
set_option maxHeartbeats 2000000
/-! U6: who blocks a matching. -/
namespace PMT
open PySem PySem.Spec PyProof.Rows L2
section
variable {P : Program} {w : World} {K : PySem.W.Frag} {mg : Str → Option Value} {base : Heap}
theorem insideN_le {m : NM} {μ : List (Option Nat)} {r : Nat} : (insideN m μ r).length ≤ m.ls.length := by
  have := List.length_filter_le (fun j => decide (hf μ j = some r)) (List.range m.ls.length)
  rw [List.length_range] at this
  exact this
theorem LawMk.oat {H : Hp} {a b c : Addr} {m : NM} (h : LawMk K H a b c m) {r : Nat} (hr : r < m.os.length) : ∃ as p, SqL K H b (List.map V.ref as) ∧ atI (List.map V.ref as) (r : Int) = some (.ref p) ∧ SqL K H p ((m.o r).map iv) := by
  obtain ⟨as, h1, h2⟩ := h.o
  obtain ⟨p, h3, h4⟩ := Paired.get h2 (m.at_o hr)
  exact ⟨as, p, h1, atI_nat (by rw [List.getElem?_map, h3]; rfl), h4⟩
theorem LawMk.lat {H : Hp} {a b c : Addr} {m : NM} (h : LawMk K H a b c m) {r : Nat} (hr : r < m.ls.length) : ∃ as p, SqL K H a (List.map V.ref as) ∧ atI (List.map V.ref as) (r : Int) = some (.ref p) ∧ SqL K H p ((m.l r).map iv) := by
  obtain ⟨as, h1, h2⟩ := h.l
  obtain ⟨p, h3, h4⟩ := Paired.get h2 (m.at_l hr)
  exact ⟨as, p, h1, atI_nat (by rw [List.getElem?_map, h3]; rfl), h4⟩
theorem LawMk.qat {H : Hp} {a b c : Addr} {m : NM} (h : LawMk K H a b c m) (ok : m.Ok) {r : Nat} (hr : r < m.os.length) : atI (m.qs.map iv) (r : Int) = some (iv (m.q r)) :=
  atI_nat (by rw [List.getElem?_map, m.at_q (by rw [ok.len]; exact hr)]; rfl)
theorem LawMk.alen {H : Hp} {a b c : Addr} {m : NM} (h : LawMk K H a b c m) : ∃ as : List Addr, SqL K H a (as.map V.ref) ∧ (as.map V.ref).length = m.ls.length := by
  obtain ⟨as, h1, h2⟩ := h.l
  exact ⟨as, h1, by rw [List.length_map]; exact h2.length⟩
theorem ltc (a b : Nat) : decide (((a : Nat) : Int) < ((b : Nat) : Int)) = decide (a < b) := by
  by_cases h : a < b
  · rw [decide_eq_true h, decide_eq_true (by omega)]
  · rw [decide_eq_false h, decide_eq_false (by omega)]
def spBlocks (K : PySem.W.Frag) : Sp := fun vs H Q _ => ∃ (a b c p : Addr) (m : NM) (μ : List (Option Nat)), vs = [.ref a, .ref b, .ref c, .ref p] ∧ LawMk K H a b c m ∧ m.Ok ∧ m.Small ∧ SqT K H p (μ.map ov) ∧ μ.length = m.ls.length ∧ LamX.Tabs (TL K) H ∧
  ∀ q H' (as : List Addr) (es : List (Nat × Nat)), Ex (TL K) H H' → H' q = some (.lst (as.map V.ref)) → Paired (fun r pr => H' r = some (.tup [iv pr.1, iv pr.2])) as es → es.length = (blocksN m μ).length → Q (.ref q) H'
theorem ok_law_blocks (t : TX K mg base) : Does P w K mg base CX0 3 ("_law_blocks", none) ["_law_lists", "_law_orders", "_law_seats", "_law_match"] (spBlocks K) := by
  obtain ⟨fd_law_place, G_law_place, b_law_place, p_law_place⟩ := ok_law_place (P := P) (w := w) t
  have nd := (sc_law_blocks).nd
  refine t.do_law_blocks (fun vs H Q E h => by obtain ⟨_, _, _, _, _, _, rfl, _⟩ := h; rfl) fun A outer s H vs Q E hr h => ⟨_, PSs.nox ((pss_cons (ps_set (i := 4) nd rfl (Or.inl rfl) (pe_lst pa_nil)) (pss_cons (ps_for PassesOwn.never rfl (pi_range1 (by rfl) t.n_range (pa_cons (pe_callB (call_lenK K rfl) (by rfl) t.n_len PySem.boot_len (pa_cons (pv 0) pa_nil)) pa_nil)) (pg_name (i := 5) nd rfl (Or.inr rfl)) (pss_one (ps_for PassesOwn.never rfl (pi_listK K rfl (pe_slice (sl_listK K rfl) (pe_ix (ix_listK K rfl) (pv 0) (pv 5) (fun _ _ => rfl)) po_none (po_some (pe_call G_law_place (hr.mono (by decide)) (by rfl) t.g_law_place p_law_place b_law_place .nil pass0 (pa_cons (pe_ix (ix_listK K rfl) (pv 0) (pv 5) (fun _ _ => rfl)) (pa_cons (pe_ix (ix_tupK K rfl) (pv 3) (pv 5) (fun _ _ => rfl)) pa_nil)))))) (pg_name (i := 6) nd rfl (Or.inr rfl)) (pss_cons (ps_setLc (X := ((X_law_blocks CX0 P w K mg base A outer s H E).nox)) (i := 7) (own := [("_law_j", 9)]) (g := (gName 9)) rfl nd rfl rfl (sw_true rfl rfl rfl (by decide +kernel)) (pi_range1 (by rfl) t.n_range (pa_cons (pe_callB (call_lenK K rfl) (by rfl) t.n_len PySem.boot_len (pa_cons (pv 0) pa_nil)) pa_nil)) (blkOk_by (own := [("_law_j", 9)]) (N := ["_law_lists", "_law_orders", "_law_seats", "_law_match", "_law_found", "_law_k", "_law_room", "_law_inside", "_law_worse", "_law_j"]) (sc := defScope PMH.s_law_blocks) (by decide +kernel)) (fun s1 H1 C1 l1 p1 => (pg_name (i := 9) nd rfl (Or.inl rfl))) (fun s1 H1 C1 l1 p1 => (pts_one (pt_cmpR op_eq (pe_ix (ix_tupK K rfl) (pv 3) (pv 9) (fun _ _ => rfl)) (pv 6) (nomark _)))) (fun s1 H1 C1 l1 p1 => (pv 9))) (pss_cons (ps_setLc (X := ((X_law_blocks CX0 P w K mg base A outer s H E).nox)) (i := 8) (own := [("_law_j", 9)]) (g := (gName 9)) rfl nd rfl rfl (sw_true rfl rfl rfl (by decide +kernel)) (pi_listK K rfl (pv 7)) (blkOk_by (own := [("_law_j", 9)]) (N := ["_law_lists", "_law_orders", "_law_seats", "_law_match", "_law_found", "_law_k", "_law_room", "_law_inside", "_law_worse", "_law_j"]) (sc := defScope PMH.s_law_blocks) (by decide +kernel)) (fun s1 H1 C1 l1 p1 => (pg_name (i := 9) nd rfl (Or.inl rfl))) (fun s1 H1 C1 l1 p1 => (pts_one (pt_cmpR op_gt (pe_call G_law_place (hr.mono (by decide)) (by rfl) t.g_law_place p_law_place b_law_place .nil pass0 (pa_cons (pe_ix (ix_listK K rfl) (pv 1) (pv 6) (fun _ _ => rfl)) (pa_cons (pv 9) pa_nil))) (pe_call G_law_place (hr.mono (by decide)) (by rfl) t.g_law_place p_law_place b_law_place .nil pass0 (pa_cons (pe_ix (ix_listK K rfl) (pv 1) (pv 6) (fun _ _ => rfl)) (pa_cons (pv 5) pa_nil))) (nomark _)))) (fun s1 H1 C1 l1 p1 => (pv 9))) (pss_one (ps_if (PW.pt (pw_and (pt_cmpR (op_inK K rfl) (pv 5) (pe_ix (ix_listK K rfl) (pv 1) (pv 6) (fun _ _ => rfl)) (by rfl)) (pw_and1 (PW.pt (pw_or (pt_cmpR op_lt (pe_callB (call_lenK K rfl) (by rfl) t.n_len PySem.boot_len (pa_cons (pv 7) pa_nil)) (pe_ix (ix_listK K rfl) (pv 2) (pv 6) (fun _ _ => rfl)) (nomark _)) (pw_or1 (pt_cmpR (op_neDK K rfl hr.units) (pv 8) (pe_lst pa_nil) (nomark _)))))))) (pss_one (ps_expr (pe_bmK K rfl PySem.F.plainAttrs_list PySem.F.slot_list_append PySem.F.type_list_append mt_append (pv 4) (pa_cons (pe_tup (pa_cons (pv 5) (pa_cons (pv 6) pa_nil))) pa_nil)))) pss_nil))))))) (pss_one (ps_ret (pv 4)))))), ?_⟩
  obtain ⟨a, b, c, p, m, μ, rfl, hm, ok, sm, hp, hμ, hT, hQ⟩ := h
  have hs4 : 1024 ≤ sizeLine := by decide
  have sma := sm.a
  have smr := sm.r
  have p62 : (2 : Nat) ^ 62 = 4611686018427387904 := by decide
  refine ⟨Nat.zero_le _, fun F hF => ?_⟩
  have e1 : Ex (TL K) H (upd H F (.lst [])) := (Ch.refl hT).new hF
  have nF : New H F := New.of hF
  obtain ⟨as0, ha0, hlen0⟩ := (hm.ex e1).alen
  refine ⟨_, rfl, a, _, rfl, .inl ha0, _, rfl, by omega, by omega, ?_⟩
  refine for_it walk_range (fun i σ H' => (∃ u5 u6 u7 u8 u9, σ = [some (.ref a), some (.ref b), some (.ref c), some (.ref p), some (.ref F), u5, u6, u7, u8, u9]) ∧ Ex (TL K) H H' ∧ ∃ (as : List Addr) (es : List (Nat × Nat)), H' F = some (.lst (as.map V.ref)) ∧ Paired (fun r pr => H' r = some (.tup [iv pr.1, iv pr.2])) as es ∧ es.length = ((List.range i).flatMap (blocksK m μ)).length) ?_ ?_ ?_ ?_
  · exact ⟨⟨_, _, _, _, _, rfl⟩, e1, [], [], upd_same, .nil, rfl⟩
  · intro _ _ _ _ _; trivial
  · rintro i x σ H4 H5 hi ⟨⟨u5, u6, u7, u8, u9, rfl⟩, e4, as, es, has, pas, les⟩ ⟨rfl, hx⟩
    have hx : x = iv i := by rw [hx]; show V.int (0 + (i : Int)) = _; rw [Int.zero_add]
    subst hx
    have hik : i < m.ls.length := by omega
    have hm4 := hm.ex e4
    obtain ⟨as1, la, hb1, hb2, hb3⟩ := hm4.lat hik
    have hp4 := Ex.sqT e4 hp
    have llt := (ok.lnd _ (List.mem_of_getElem? (m.at_l hik))).2
    refine ⟨_, rfl, _, rfl, a, _, _, _, rfl, rfl, hb1, hb2, _, rfl, _, rfl, a, _, _, _, rfl, rfl, hb1, hb2, _, rfl, _, rfl, p, _, _, _, rfl, rfl, hp4, atI_ov (by rw [hμ]; exact hik), la, m.l i, hf μ i, rfl, hb3, _, rfl, ?_⟩
    refine ⟨la, _, rfl, hb3, fun pc hpc => ?_⟩
    have hle : PM.pl (m.l i) (hf μ i) ≤ (m.l i).length := by
      cases hf μ i with
      | none => exact Nat.le_refl _
      | some r => exact List.idxOf_le_length
    rw [cutV_to (by rw [List.length_map]; exact hle), ← List.map_take]
    generalize hcut : (m.l i).take (PM.pl (m.l i) (hf μ i)) = cut
    have cutl : cut.length ≤ 64 := by
      have := List.length_take_le' (PM.pl (m.l i) (hf μ i)) (m.l i)
      rw [hcut] at this
      omega
    have cutm : ∀ r ∈ cut, r < m.os.length := fun r hr => llt.2 r (List.mem_of_mem_take (hcut ▸ hr))
    have bk : blocksK m μ i = cut.filter (blkN m μ i) := by unfold blocksK; rw [hcut]
    have x5 : Ex (TL K) H5 (upd H5 pc (.lst (cut.map iv))) := (Ch.refl e4.tb).new hpc
    have e5 := e4.trans x5
    have npc : pc ≠ F := fun z => by rw [z, has] at hpc; cases hpc
    refine ⟨pc, rfl, ⟨_, SqL.of upd_same⟩, ?_⟩
    refine for_it (walk_list (xs := cut.map iv)) (fun j σ H' => (∃ u6 u7 u8 u9, σ = [some (.ref a), some (.ref b), some (.ref c), some (.ref p), some (.ref F), some (iv i), u6, u7, u8, u9]) ∧ Ex (TL K) H H' ∧ H' pc = some (.lst (cut.map iv)) ∧ ∃ (as : List Addr) (es : List (Nat × Nat)), H' F = some (.lst (as.map V.ref)) ∧ Paired (fun r pr => H' r = some (.tup [iv pr.1, iv pr.2])) as es ∧ es.length = ((List.range i).flatMap (blocksK m μ)).length + ((cut.take j).filter (blkN m μ i)).length) ?_ ?_ ?_ ?_
    · exact ⟨⟨_, _, _, _, rfl⟩, e5, upd_same, as, es, Ex.k x5 has, Paired.mapP pas fun _ _ z => Ex.k x5 z, by rw [les]; rfl⟩
    · rintro j σ Hj _ ⟨_, _, h, _⟩
      exact SqL.of h
    · rintro j x σ H6 H7 hj ⟨⟨u6, u7, u8, u9, rfl⟩, e6, hpc6, as, es, has, pas, les⟩ ⟨rfl, hx⟩
      rw [List.length_map] at hj
      have hcj : cut[j]? = some cut[j] := List.getElem?_eq_getElem hj
      generalize cut[j] = r at hcj
      have hx : x = iv r := by
        rw [List.getElem?_map, hcj] at hx
        exact (Option.some.inj hx).symm
      subst hx
      have hrl := cutm r (List.mem_of_getElem? hcj)
      obtain ⟨as6, ha6, hlen6⟩ := (hm.ex e6).alen
      refine ⟨_, rfl, a, _, rfl, .inl ha6, _, rfl, by omega, by omega, fun D hD => ?_⟩
      rw [hlen6]
      refine lcf (walk_range (lo := 0)) (ls := List.range m.ls.length) (by simp) (fun j => decide (hf μ j = some r)) iv e6.tb hD (fun _ _ => trivial) (by rw [List.length_range]; exact small ok.l64) ?_ ?_
      · intro j2 k v H2 H3 N M hj2 e hY hN hM
        obtain ⟨rfl, rfl, hk⟩ := yrange hj2 hY
        refine ⟨rfl, _, rfl, _, rfl, p, _, _, _, rfl, rfl, Ex.sqT (e6.trans e) hp, atI_ov (by rw [hμ]; exact hk), _, rfl, ?_⟩
        have hsc : scal (ov (hf μ k)) (iv r) = true := by cases hf μ k <;> rfl
        refine ⟨hsc, _, rfl, ?_⟩
        rw [ov_eq]
        exact iteB (fun h => ⟨_, rfl, hM h _ (Ch.refl e.tb)⟩) fun h => hN h _ (Ch.refl e.tb)
      · intro H8 e8 hD8
        have hD8 : H8 D = some (.lst ((insideN m μ r).map iv)) := hD8
        have hml := insideN_le (m := m) (μ := μ) (r := r)
        refine ⟨_, rfl, D, rfl, ⟨_, SqL.of hD8⟩, fun D2 hD2 => ?_⟩
        refine lcf walk_list (ls := insideN m μ r) (by simp) (fun j => decide ((m.o r).idxOf i < (m.o r).idxOf j)) iv e8.tb hD2 (fun H e => Ex.sqL e (SqL.of hD8)) (by omega) ?_ ?_
        · intro j2 k v H2 H3 N M hj2 e hY hN hM
          obtain ⟨rfl, rfl⟩ := yat hj2 hY
          obtain ⟨as9, o9, h91, h92, h93⟩ := ((hm.ex e6).ex (e8.trans e)).oat hrl
          refine ⟨rfl, _, rfl, _, rfl, b, _, _, _, rfl, rfl, h91, h92, _, rfl, o9, m.o r, some k, rfl, h93, _, rfl, _, rfl, b, _, _, _, rfl, rfl, h91, h92, _, rfl, o9, m.o r, some i, rfl, h93, _, _, rfl, rfl, _, rfl, ?_⟩
          show if decide ((((m.o r).idxOf i : Nat) : Int) < (((m.o r).idxOf k : Nat) : Int)) = true then _ else _
          rw [ltc]
          exact iteB (fun h => ⟨_, rfl, hM h _ (Ch.refl e.tb)⟩) fun h => hN h _ (Ch.refl e.tb)
        · intro H9 e9 hD9
          have hD9 : H9 D2 = some (.lst ((worseN m μ i r).map iv)) := hD9
          have hI9 := Ex.k e9 hD8
          have x9 := e8.trans e9
          have e69 := e6.trans x9
          obtain ⟨as9, o9, h91, h92, h93⟩ := (hm.ex e69).oat hrl
          have has9 := Ex.k x9 has
          have pas9 := Paired.mapP pas fun _ _ z => Ex.k x9 z
          -- what is left to do
          have no : ∀ D0 : Ends, (∀ H', ((∃ v6 v7 v8 v9, ([some (.ref a), some (.ref b), some (.ref c), some (.ref p), some (.ref F), some (iv i), some (iv r), some (.ref D), some (.ref D2), u9] : L2.St) = [some (.ref a), some (.ref b), some (.ref c), some (.ref p), some (.ref F), some (iv i), v6, v7, v8, v9]) ∧ Ex (TL K) H H' ∧ H' pc = some (.lst (cut.map iv)) ∧ ∃ (as : List Addr) (es : List (Nat × Nat)), H' F = some (.lst (as.map V.ref)) ∧ Paired (fun r pr => H' r = some (.tup [iv pr.1, iv pr.2])) as es ∧ es.length = ((List.range i).flatMap (blocksK m μ)).length + ((cut.take (j + 1)).filter (blkN m μ i)).length) → D0.nx [some (.ref a), some (.ref b), some (.ref c), some (.ref p), some (.ref F), some (iv i), some (iv r), some (.ref D), some (.ref D2), u9] H') →
              (blkN m μ i r = false → ∀ H10, Ex (TL K) H9 H10 → D0.nx [some (.ref a), some (.ref b), some (.ref c), some (.ref p), some (.ref F), some (iv i), some (iv r), some (.ref D), some (.ref D2), u9] H10) ∧
              (blkN m μ i r = true → ∀ H10, Ex (TL K) H9 H10 → tDrop (tBM K "list" rAppend (tVar 4) (tCons (tTup (tCons (tVar 5) (tCons (tVar 6) tNil))) tNil)) D0 [some (.ref a), some (.ref b), some (.ref c), some (.ref p), some (.ref F), some (iv i), some (iv r), some (.ref D), some (.ref D2), u9] H10) := by
            intro D0 hD0
            refine ⟨fun hb H10 e10 => hD0 H10 ⟨⟨_, _, _, _, rfl⟩, e69.trans e10, Ex.k (x9.trans e10) hpc6, as, es, Ex.k e10 has9, Paired.mapP pas9 fun _ _ z => Ex.k e10 z, ?_⟩, fun hb H10 e10 => ?_⟩
            · rw [take_snoc hcj, List.filter_append, show List.filter (blkN m μ i) [r] = [] by simp [hb], List.append_nil]
              exact les
            · have has10 := Ex.k e10 has9
              have l1 := pas.length
              have l2 := flat_le (f := blocksK m μ) (c := 64) (l := List.range i) fun k hk => by
                have h1 : (blocksK m μ k).length ≤ ((m.l k).take (PM.pl (m.l k) (hf μ k))).length := List.length_filter_le _ _
                have h2 := List.length_take_le' (PM.pl (m.l k) (hf μ k)) (m.l k)
                have h3 := m.l_len ok k
                omega
              have l3 := List.length_filter_le (blkN m μ i) (cut.take j)
              have l4 := List.length_take_le' j cut
              rw [List.length_range] at l2
              refine ⟨_, rfl, .inl ⟨rfl, _, SqL.of has10⟩, _, rfl, _, rfl, by show 2 ≤ sizeLine; omega, fun q hq => ?_⟩
              have x11 : Ex (TL K) H10 (upd H10 q (.tup [iv i, iv r])) := (Ch.refl e10.tb).new hq
              have has11 := Ex.k x11 has10
              have hq11 := upd_same (H := H10) (a := q) (o := .tup [iv i, iv r])
              have nq : q ≠ F := fun z => by rw [z, has10] at hq; cases hq
              refine ⟨F, _, .ref q, rfl, rfl, has11, by rw [List.length_map]; omega, ?_⟩
              have e11 := (e69.trans e10).trans x11
              have c12 : Ch (TL K) (fun y => y = F) (upd H10 q (.tup [iv i, iv r])) (upd (upd H10 q (.tup [iv i, iv r])) F (.lst (as.map V.ref ++ [.ref q]))) := Ch.put (Ch.refl e11.tb) has11 nt_lst (.inr rfl)
              refine hD0 _ ⟨⟨_, _, _, _, rfl⟩, e11.putN has11 nt_lst (.inl nF), c12.k (Ex.k ((x9.trans e10).trans x11) hpc6) npc, as ++ [q], es ++ [(i, r)], by rw [upd_same, List.map_append]; rfl, ?_, ?_⟩
              · exact Paired.snoc (Paired.mapP pas9 fun _ _ z => c12.k (Ex.k (e10.trans x11) z) (ne_of (Ex.k (e10.trans x11) z) has11 nofun)) (c12.k hq11 nq)
              · rw [take_snoc hcj, List.filter_append, show List.filter (blkN m μ i) [r] = [r] by simp [hb], List.length_append, les, List.length_append]; rfl
          refine ⟨_, rfl, _, rfl, _, rfl, b, _, _, _, rfl, rfl, h91, h92, o9, _, rfl, .inl h93, rfl, flat_iv _, _, rfl, ?_⟩
          show if inV (iv i) ((m.o r).map iv) = true then _ else _
          rw [inV_iv]
          refine iteB (fun h1 => ?_) fun h1 => iteF ((no _ fun _ z => z).1 (by unfold blkN; rw [h1]; rfl) _ (Ch.refl e69.tb))
          refine ⟨_, rfl, D, _, rfl, .inl (SqL.of hI9), _, rfl, _, rfl, c, _, _, _, rfl, rfl, (hm.ex e69).q, (hm.ex e69).qat ok hrl, _, _, rfl, rfl, _, rfl, ?_⟩
          show if decide ((((insideN m μ r).map iv).length : Int) < ((m.q r : Nat) : Int)) = true then _ else _
          rw [List.length_map, ltc]
          refine iteB (fun h2 => iteT ((no _ fun _ z => z).2 (by unfold blkN; rw [h1, h2]; rfl) _ (Ch.refl e69.tb))) fun h2 => ?_
          refine ⟨_, rfl, Nat.zero_le _, fun pz hpz => ?_⟩
          have xz : Ex (TL K) H9 (upd H9 pz (.lst [])) := (Ch.refl e69.tb).new hpz
          refine rd_ne (d := deList deNat) (a := worseN m μ i r) (b := []) (by decide) (dp_listF (SqL.of (Ex.k xz hD9)) dp_nat) (dp_listF (l := []) (f := iv) (SqL.of upd_same) dp_nat) (fun _ _ => trivial) (fun _ _ => trivial) ⟨_, rfl, ?_⟩
          have ew : (!decide (worseN m μ i r = [])) = !decide ((worseN m μ i r).length = 0) := by cases worseN m μ i r <;> rfl
          rw [ew]
          exact iteB (fun h3 => (no _ fun _ z => z).2 (by unfold blkN; rw [h1, h2, h3]; rfl) _ xz) fun h3 => (no _ fun _ z => z).1 (by unfold blkN; rw [h1, h2, h3]; rfl) _ xz
    · rintro σ Hj ⟨⟨u6, u7, u8, u9, rfl⟩, e6, hpc6, as, es, has, pas, les⟩
      rw [List.length_map, List.take_length] at les
      exact ⟨⟨_, _, _, _, _, rfl⟩, e6, as, es, has, pas, by rw [les, List.range_succ, List.flatMap_append, List.length_append]; simp [bk]⟩
  · rintro σ H4 ⟨⟨u5, u6, u7, u8, u9, rfl⟩, e4, as, es, has, pas, les⟩
    rw [hlen0] at les
    exact ⟨_, rfl, hQ F _ as es e4 has pas les⟩
end
end PMT

set_option Elab.async false
set_option linter.all false
set_option maxRecDepth 100000
set_option maxHeartbeats 2000000
/-! U7: every stable matching; the best of them. -/
namespace PMT
open PySem PySem.Spec PyProof.Rows L2
section
variable {P : Program} {w : World} {K : PySem.W.Frag} {mg : Str → Option Value} {base : Heap}
def spStableL (K : PySem.W.Frag) : Sp := fun vs H Q _ => ∃ (a b c : Addr) (m : NM), vs = [.ref a, .ref b, .ref c] ∧ LawMk K H a b c m ∧ m.Ok ∧ m.Small ∧ LamX.Tabs (TL K) H ∧
  ∀ q H', Ex (TL K) H H' → RowsF K H' q (stableN m) → Q (.ref q) H'
theorem ok_law_stable (t : TX K mg base) : Does P w K mg base CX0 4 ("_law_stable", none) ["_law_lists", "_law_orders", "_law_seats"] (spStableL K) := by
  obtain ⟨fd_law_matches, G_law_matches, b_law_matches, p_law_matches⟩ := ok_law_matches (P := P) (w := w) t
  obtain ⟨fd_law_blocks, G_law_blocks, b_law_blocks, p_law_blocks⟩ := ok_law_blocks (P := P) (w := w) t
  have nd := (sc_law_stable).nd
  refine t.do_law_stable (fun vs H Q E h => by obtain ⟨_, _, _, _, rfl, _⟩ := h; rfl) fun A outer s H vs Q E hr h => ⟨_, PSs.nox ((pss_one (ps_ret (pe_lc (X := ((X_law_stable CX0 P w K mg base A outer s H E).nox)) (own := [("_law_match", 3)]) (g := (gName 3)) rfl nd (pi_listK K rfl (pe_call G_law_matches (hr.mono (by decide)) (by rfl) t.g_law_matches p_law_matches b_law_matches .nil pass0 (pa_cons (pv 0) (pa_cons (pv 1) (pa_cons (pv 2) pa_nil))))) (blkOk_by (own := [("_law_match", 3)]) (N := ["_law_lists", "_law_orders", "_law_seats", "_law_match"]) (sc := defScope PMH.s_law_stable) (by decide +kernel)) (fun s1 H1 C1 l1 p1 => (pg_name (i := 3) nd rfl (Or.inl rfl))) (fun s1 H1 C1 l1 p1 => (pts_one (pt_cmpR (op_eqDK K rfl hr.units) (pe_call G_law_blocks (hr.mono (by decide)) (by rfl) t.g_law_blocks p_law_blocks b_law_blocks .nil pass0 (pa_cons (pv 0) (pa_cons (pv 1) (pa_cons (pv 2) (pa_cons (pv 3) pa_nil))))) (pe_lst pa_nil) (nomark _)))) (fun s1 H1 C1 l1 p1 => (pv 3)))))), ?_⟩
  obtain ⟨a, b, c, m, rfl, hm, ok, sm, hT, hQ⟩ := h
  have hs4 : 1024 < sizeLine := by decide
  have sma := sm.a
  refine ⟨_, rfl, _, rfl, _, rfl, a, b, c, m, rfl, hm, ok, sm, hT, fun p H1 e1 hp => ?_⟩
  obtain ⟨rs, hr1, hr2⟩ := id hp
  have ml := matches_le ok sm (Nat.le_refl m.ls.length)
  have ml4 : 4 ^ m.ls.length ≤ 4 ^ 4 := Nat.pow_le_pow_right (by omega) sma
  have ml256 : (4 : Nat) ^ 4 = 256 := by decide
  refine ⟨p, rfl, ⟨_, hr1⟩, fun D hD => ?_⟩
  refine lcx walk_list (ls := matchesN m m.ls.length) (by rw [List.length_map]; exact hr2.length) (fun μ => decide ((blocksN m μ).length = 0)) (fun row y H => ∃ q, y = .ref q ∧ TupF H q (row.map ov)) e1.tb hD (fun H e => Ex.sqL e hr1) (by omega) ?_ ?_ ?_
  · rintro x y H8 H9 c8 ⟨zs, hz⟩ ⟨q2, rfl, o2, ho2, hq2⟩
    exact ⟨q2, rfl, o2, ho2, c8.k hq2 (ne_of hq2 hz nofun)⟩
  · rintro i row v H2 H3 N M hi e ⟨rfl, hx⟩ hzs hN hM
    obtain ⟨q, hq1, hq2⟩ := Paired.get hr2 hi
    have hx : v = .ref q := by
      rw [List.getElem?_map, hq1] at hx
      exact (Option.some.inj hx).symm
    subst hx
    have hq := TupF.ex hq2 e
    refine ⟨rfl, _, rfl, _, rfl, _, rfl, _, rfl, a, b, c, q, m, row, rfl, hm.ex (e1.trans e), ok, sm, hq.t, (mem_matchesN.mp (List.mem_of_getElem? hi)).1, e.tb, fun pb H4 bs es e4 hb pb2 lb => ?_⟩
    refine ⟨Nat.zero_le _, fun pz hpz => ?_⟩
    have xz : Ex (TL K) H4 (upd H4 pz (.lst [])) := (Ch.refl e4.tb).new hpz
    have pb3 : Paired (fun (a : Nat × Nat) (y : V) => Dp K (upd H4 pz (.lst [])) y ((deP2 deNat deNat).e a)) es (bs.map V.ref) := Paired.mapR (g := V.ref) (Paired.mapP (Paired.flip pb2) fun a r z => dp_p2 (SqT.of (Ex.k xz z)) (dp_nat _) (dp_nat _))
    refine rd_eq (d := deList (deP2 deNat deNat)) (a := es) (b := []) (by decide) (dp_list (SqL.of (Ex.k xz hb)) pb3) (dp_list (l := []) (ys := []) (SqL.of upd_same) .nil) (fun _ _ => ⟨trivial, trivial⟩) (fun _ _ => ⟨trivial, trivial⟩) ⟨_, rfl, ?_⟩
    have ek : decide (es = []) = decide ((blocksN m row).length = 0) := by
      rw [← lb]
      cases es <;> rfl
    rw [ek]
    exact iteB (fun h => ⟨_, rfl, hM h _ _ (e4.trans xz) ⟨q, rfl, hq.ex (e4.trans xz)⟩⟩) fun h => hN h _ (e4.trans xz)
  · intro H8 ys e8 hD8 hys
    obtain ⟨as3, rfl, hp3⟩ := refs_of hys
    exact hQ D _ (e1.trans e8) ⟨as3, SqL.of hD8, Paired.flip hp3⟩
def spBestL (K : PySem.W.Frag) : Sp := fun vs H Q _ => ∃ (a p : Addr) (m : NM) (rows : List (List (Option Nat))) (μ : List (Option Nat)), vs = [.ref a, .ref p] ∧ (∃ as : List Addr, SqL K H a (as.map V.ref) ∧ Paired (fun p l => SqL K H p (l.map iv)) as m.ls) ∧ RowsF K H p rows ∧ rows.length ≤ 256 ∧ m.Ok ∧ μ ∈ rows ∧
  (∀ ν ∈ rows, ν.length = m.ls.length ∧ ∀ k, k < m.ls.length → (∀ r, hf ν k = some r → r ∈ m.l k) ∧ PM.pl (m.l k) (hf μ k) ≤ PM.pl (m.l k) (hf ν k)) ∧ LamX.Tabs (TL K) H ∧ ∀ q H', Ex (TL K) H H' → SqT K H' q (μ.map ov) → Q (.ref q) H'
theorem ok_law_best (t : TX K mg base) : Does P w K mg base CX0 3 ("_law_best", none) ["_law_lists", "_law_matches_here"] (spBestL K) := by
  obtain ⟨fd_law_place, G_law_place, b_law_place, p_law_place⟩ := ok_law_place (P := P) (w := w) t
  have nd := (sc_law_best).nd
  refine t.do_law_best (fun vs H Q E h => by obtain ⟨_, _, _, _, _, rfl, _⟩ := h; rfl) fun A outer s H vs Q E hr h => ⟨_, PSs.nox ((pss_one (ps_ret (pe_callTy (call_tupleK K rfl) (by rfl) t.n_tuple (by decide +kernel) (pa_cons (pe_lc (X := ((X_law_best CX0 P w K mg base A outer s H E).nox)) (own := [("_law_k", 2)]) (g := (gName 2)) rfl nd (pi_range1 (by rfl) t.n_range (pa_cons (pe_callB (call_lenK K rfl) (by rfl) t.n_len PySem.boot_len (pa_cons (pv 0) pa_nil)) pa_nil)) (blkOk_by (own := [("_law_k", 2)]) (N := ["_law_lists", "_law_matches_here", "_law_k", "_law_match"]) (sc := defScope PMH.s_law_best) (by decide +kernel)) (fun s1 H1 C1 l1 p1 => (pg_name (i := 2) nd rfl (Or.inr rfl))) (fun s1 H1 C1 l1 p1 => pts_nil) (fun s1 H1 C1 l1 p1 => (pe_ix (ix_tupK K rfl) (pe_callB (cr_minK (k := 1) K rfl rfl (hr.mono (by decide))) (by rfl) t.n_min (by decide +kernel) (pa_cons (pe_lc (X := (Cx.blk ((X_law_best CX0 P w K mg base A outer s H E).nox) s1 H1 _ (compEnvC _ l1 C1 ((X_law_best CX0 P w K mg base A outer s H E).nox).env) p1)) (own := [("_law_match", 3)]) (g := (gName 3)) rfl nd (pi_listK K rfl (pv 1)) (blkOk_by (by rfl)) (fun s2 H2 C2 l2 p2 => (pg_name (i := 3) nd rfl (Or.inl rfl))) (fun s2 H2 C2 l2 p2 => pts_nil) (fun s2 H2 C2 l2 p2 => (pe_tup (pa_cons (pe_call G_law_place (hr.mono (by decide)) (by rfl) t.g_law_place p_law_place b_law_place .nil pass0 (pa_cons (pe_ix (ix_listK K rfl) (pv 0) (pv 2) (fun _ _ => rfl)) (pa_cons (pe_ix (ix_tupK K rfl) (pv 3) (pv 2) (fun _ _ => rfl)) pa_nil))) (pa_cons (pe_callTy RX.call_str_ni (by rfl) t.n_str (by decide +kernel) (pa_cons (pe_ix (ix_tupK K rfl) (pv 3) (pv 2) (fun _ _ => rfl)) pa_nil)) (pa_cons (pe_ix (ix_tupK K rfl) (pv 3) (pv 2) (fun _ _ => rfl)) pa_nil)))))) pa_nil)) pe_int (fun _ _ => rfl)))) pa_nil))))), ?_⟩
  obtain ⟨a, p, m, rows, μ, rfl, hm, hp, hlen, ok, hμ, hall, hT, hQ⟩ := h
  have hs4 : 1024 < sizeLine := by decide
  have p62 : (2 : Nat) ^ 62 = 4611686018427387904 := by decide
  obtain ⟨as, ha1, ha2⟩ := hm
  obtain ⟨rs, hr1, hr2⟩ := hp
  have l64 := ok.l64
  have hlena : (as.map V.ref).length = m.ls.length := by rw [List.length_map]; exact ha2.length
  refine ⟨_, rfl, a, _, rfl, .inl ha1, _, rfl, by omega, by omega, fun D hD => ?_⟩
  rw [hlena]
  refine lcf (walk_range (lo := 0)) (ls := List.range m.ls.length) (by simp) (fun _ => true) (fun k => ov (hf μ k)) hT hD (fun _ _ => trivial) (by rw [List.length_range]; exact small ok.l64) ?_ ?_
  · intro j k v H2 H3 N M hj e hY hN hM
    obtain ⟨rfl, rfl, hk⟩ := yrange hj hY
    refine ⟨rfl, _, rfl, p, rfl, ⟨_, Ex.sqL e hr1⟩, fun D2 hD2 => ?_⟩
    obtain ⟨la, hla1, hla2⟩ := Paired.get ha2 (m.at_l hk)
    refine lcx walk_list (ls := rows) (by rw [List.length_map]; exact hr2.length) (fun _ => true) (fun row y H => ∃ q, y = .ref q ∧ H q = some (.tup [iv (PM.pl (m.l k) (hf row k)), .str (RX.vStr (ov (hf row k))), ov (hf row k)])) e.tb hD2 (fun H e' => Ex.sqL (e.trans e') hr1) (by omega) ?_ ?_ ?_
    · rintro x y H8 H9 c8 ⟨zs, hz⟩ ⟨q2, rfl, hq2⟩
      exact ⟨q2, rfl, c8.k hq2 (ne_of hq2 hz nofun)⟩
    · rintro i row v H4 H5 N M hi e4 ⟨rfl, hx⟩ hzs hN hM
      obtain ⟨q, hq1, hq2⟩ := Paired.get hr2 hi
      have hx : v = .ref q := by
        rw [List.getElem?_map, hq1] at hx
        exact (Option.some.inj hx).symm
      subst hx
      obtain ⟨rl, rk⟩ := hall row (List.mem_of_getElem? hi)
      have hq := (TupF.ex hq2 (e.trans e4)).t (K := K)
      have hat := atI_ov (nx := row) (k := k) (by rw [rl]; exact hk)
      refine ⟨rfl, _, rfl, _, rfl, a, _, _, _, rfl, rfl, Ex.sqL (e.trans e4) ha1, atI_nat (by rw [List.getElem?_map, hla1]; rfl), _, rfl, _, rfl, q, _, _, _, rfl, rfl, hq, hat, la, m.l k, hf row k, rfl, Ex.sqL (e.trans e4) hla2, ?_⟩
      refine ⟨_, rfl, _, rfl, q, _, _, _, rfl, rfl, hq, hat, ov (hf row k), rfl, ?_, ?_⟩
      · cases hr : hf row k with
        | none => exact .inl rfl
        | some r =>
          refine .inr ⟨_, rfl, ?_⟩
          have h1 := (ok.lnd _ (List.mem_of_getElem? (m.at_l hk))).2.2 r ((rk k hk).1 r hr)
          have h2 := ok.o64
          have h3 := Nat.log2_le_self ((r : Int)).natAbs
          have h4 : ((r : Int)).natAbs = r := rfl
          omega
      refine ⟨_, rfl, _, rfl, q, _, _, _, rfl, rfl, hq, hat, by show 3 ≤ sizeLine; omega, fun q3 hq3 => ?_⟩
      exact hM rfl _ _ ((Ch.refl e4.tb).new hq3) ⟨q3, rfl, upd_same⟩
    · intro H8 ys e8 hD8 hys
      have hys : Paired (fun row y => ∃ q, y = V.ref q ∧ H8 q = some (.tup [iv (PM.pl (m.l k) (hf row k)), .str (RX.vStr (ov (hf row k))), ov (hf row k)])) rows ys := by
        rw [List.filter_eq_self.mpr fun _ _ => rfl] at hys; exact hys
      have hsk : ∀ y : V, ∃ row, y ∈ ys → row ∈ rows ∧ ∃ q, y = V.ref q ∧ H8 q = some (.tup [iv (PM.pl (m.l k) (hf row k)), .str (RX.vStr (ov (hf row k))), ov (hf row k)]) := fun y => by
        by_cases hy : y ∈ ys
        · obtain ⟨i, hi, ei⟩ := List.getElem_of_mem hy
          obtain ⟨row, h1, h2⟩ := Paired.get hys (List.getElem?_eq_getElem hi)
          exact ⟨row, fun _ => ⟨List.mem_of_getElem? h1, by rw [← ei]; exact h2⟩⟩
        · exact ⟨[], fun z => absurd z hy⟩
      obtain ⟨ρ, hρ⟩ := Classical.axiomOfChoice hsk
      obtain ⟨i0, hi0, e0⟩ := List.getElem_of_mem hμ
      obtain ⟨y0, hy0, q0, hy1, hy2⟩ := Paired.getL hys (by rw [List.getElem?_eq_getElem hi0, e0])
      have hym : y0 ∈ ys := List.mem_of_getElem? hy0
      have k0 : PM.pl (m.l k) (hf (ρ y0) k) = PM.pl (m.l k) (hf μ k) := by
        obtain ⟨_, q, h1, h2⟩ := hρ y0 hym
        rw [hy1] at h1
        cases h1
        rw [hy2] at h2
        have h3 := (List.cons.inj (HO.tup.inj (Option.some.inj h2))).1
        exact (Int.ofNat.inj (V.int.inj h3)).symm
      have pin : ∀ y ∈ ys, ∀ r, hf (ρ y) k = some r → r ∈ m.l k := fun y hy => ((hall _ (hρ y hy).1).2 k hk).1
      refine ⟨D2, ys, fun y => ((PM.pl (m.l k) (hf (ρ y) k) : Nat) : Int), fun y => RX.vStr (ov (hf (ρ y) k)), fun y => ov (hf (ρ y) k), rfl, SqL.of hD8, List.length_pos_of_mem hym, fun y hy => ?_, fun y hy z hz he => ?_, fun y hy hmin => ?_⟩
      · obtain ⟨_, q, h1, h2⟩ := hρ y hy
        refine ⟨q, h1, SqT.of h2, ?_⟩
        show ov (hf (ρ y) k) = .non ∨ ∃ i, ov (hf (ρ y) k) = .int i
        cases hf (ρ y) k with
        | none => exact .inl rfl
        | some r => exact .inr ⟨_, rfl⟩
      · have := pl_inj (pin y hy) (pin z hz) (Int.ofNat.inj he)
        exact ⟨congrArg (fun x => RX.vStr (ov x)) this, congrArg ov this⟩
      · obtain ⟨h0, q, h1, h2⟩ := hρ y hy
        have h3 : ((PM.pl (m.l k) (hf (ρ y) k) : Nat) : Int) ≤ ((PM.pl (m.l k) (hf (ρ y0) k) : Nat) : Int) := hmin y0 hym
        have h4 := ((hall _ h0).2 k hk).2
        have h5 : PM.pl (m.l k) (hf (ρ y) k) = PM.pl (m.l k) (hf μ k) := by omega
        have h6 := pl_inj (pin y hy) ((hall μ hμ).2 k hk).1 h5
        refine ⟨q, _, 2, ov (hf μ k), h1, rfl, SqT.of h2, ?_, hM rfl _ e8⟩
        rw [h6]; rfl
  · intro H8 e8 hD8
    have hl : (List.range m.ls.length).map (fun k => ov (hf μ k)) = μ.map ov := by
      have hμl := (hall μ hμ).1
      refine List.ext_getElem (by simp [hμl]) fun i h1 h2 => ?_
      rw [List.getElem_map, List.getElem_map, List.getElem_range]
      congr 1
      unfold hf
      have : i < μ.length := by simpa using h2
      rw [List.getD_eq_getElem?_getD, List.getElem?_eq_getElem this]; rfl
    rw [List.filter_eq_self.mpr fun _ _ => rfl, hl] at hD8
    exact ⟨D, _, rfl, .inl ⟨SqL.of hD8, fun q hq => hQ q _ (e8.new hq) (SqT.of upd_same)⟩⟩
end
end PMT

set_option Elab.async false
set_option linter.all false
set_option maxRecDepth 100000
set_option maxHeartbeats 2000000
/-! U8: what is due. -/
namespace PMT
open PySem PySem.Spec PyProof.Rows L2
/-- the law's own books -/
structure LawBk (K : PySem.W.Frag) (H : Hp) (pa pr : Addr) (F : FS) : Prop where
  a : ∃ la : Str → Addr, H pa = some (.dK (dkv F.A fun x => .ref (la x))) ∧ ∀ x ∈ F.A, SqT K H (la x) ((F.lst x).map V.str)
  r : ∃ ra : Str → Addr, H pr = some (.dK (dkv F.R fun x => .ref (ra x))) ∧ ∀ x ∈ F.R, ∃ o, SqT K H (ra x) [.ref o, iv (F.q x)] ∧ SqT K H o ((F.ord x).map V.str)
theorem LawBk.ex {K : PySem.W.Frag} {T : List (Addr × Str)} {H H' : Hp} {pa pr : Addr} {F : FS} (h : LawBk K H pa pr F) (e : Ex T H H') : LawBk K H' pa pr F := by
  obtain ⟨⟨la, h1, h2⟩, ⟨ra, h3, h4⟩⟩ := h
  exact ⟨⟨la, Ex.k e h1, fun x hx => Ex.sqT e (h2 x hx)⟩, ⟨ra, Ex.k e h3, fun x hx => by obtain ⟨o, z1, z2⟩ := h4 x hx; exact ⟨o, Ex.sqT e z1, Ex.sqT e z2⟩⟩⟩
section
variable {P : Program} {w : World} {K : PySem.W.Frag} {mg : Str → Option Value} {base : Heap}
theorem ixS {p : Addr} {l : List Str} {x : Str} {H : Hp} {Q : VK} (hp : SqL K H p (l.map V.str)) (hx : x ∈ l) (q : Q (iv (l.idxOf x)) H) : rIndex K (.ref p) [.str x] H Q := by
  refine ⟨p, _, .str x, l.idxOf x, .str x, rfl, rfl, hp, rfl, flat_str, by rw [List.getElem?_map, PM.get?_idx hx]; rfl, by simp [eqV], fun m z hm hz => ?_, q⟩
  rw [List.getElem?_map] at hz
  cases e : l[m]? with
  | none => rw [e] at hz; cases hz
  | some y =>
    rw [e] at hz
    cases hz
    have : y ≠ x := fun e2 => idx_first m hm (by rw [e, e2])
    simp [eqV, this]
theorem isSome_if {x : Str} {l : List Str} {v : V} : (if x ∈ l then some v else none).isSome = decide (x ∈ l) := by
  by_cases h : x ∈ l <;> simp [h]
def spDue (K : PySem.W.Frag) : Sp := fun vs H Q _ => ∃ (pa pr : Addr) (F : FS), vs = [.ref pa, .ref pr] ∧ LawBk K H pa pr F ∧ F.Ok ∧ F.A.length ≤ 4 ∧ F.R.length ≤ 3 ∧ PM.DA F.M F.held F.next ∧ PM.Settled F.M F.held F.next ∧ LamX.Tabs (TL K) H ∧
  ∀ p H' (ys : List Str), Ex (TL K) H H' → New H p → ys.Perm F.A → sortedS ys = true → H' p = some (.dK (dkv ys fun x => os (F.held x))) → Q (.ref p) H'
theorem ok_law_due (t : TX K mg base) : Does P w K mg base CX0 5 ("_law_due", none) ["_law_askers", "_law_rooms"] (spDue K) := by
  obtain ⟨fd_law_best, G_law_best, b_law_best, p_law_best⟩ := ok_law_best (P := P) (w := w) t
  obtain ⟨fd_law_stable, G_law_stable, b_law_stable, p_law_stable⟩ := ok_law_stable (P := P) (w := w) t
  have nd := (sc_law_due).nd
  refine t.do_law_due (fun vs H Q E h => by obtain ⟨_, _, _, rfl, _⟩ := h; rfl) fun A outer s H vs Q E hr h => ⟨_, PSs.nox ((pss_cons (ps_asg (pe_tup (pa_cons (pe_callB (call_sortedD rfl) (by rfl) t.n_sorted (by decide +kernel) (pa_cons (pv 0) pa_nil)) (pa_cons (pe_callB (call_sortedD rfl) (by rfl) t.n_sorted (by decide +kernel) (pa_cons (pv 1) pa_nil)) pa_nil))) (pg_tup rfl (pgs_cons (pg_name (i := 6) nd rfl (Or.inr rfl)) (pgs_cons (pg_name (i := 7) nd rfl (Or.inr rfl)) pgs_nil)))) (pss_cons (ps_setLc (X := ((X_law_due CX0 P w K mg base A outer s H E).nox)) (i := 2) (own := [("_law_one", 8)]) (g := (gName 8)) rfl nd rfl rfl (sw_true rfl rfl rfl (by decide +kernel)) (pi_listK K rfl (pv 6)) (blkOk_by (own := [("_law_one", 8)]) (N := ["_law_askers", "_law_rooms", "_law_lists", "_law_orders", "_law_seats", "_law_best_here", "_law_ones", "_law_others", "_law_one", "_law_room", "_law_k"]) (sc := defScope PMH.s_law_due) (by decide +kernel)) (fun s1 H1 C1 l1 p1 => (pg_name (i := 8) nd rfl (Or.inl rfl))) (fun s1 H1 C1 l1 p1 => pts_nil) (fun s1 H1 C1 l1 p1 => (pe_lc (X := (Cx.blk ((X_law_due CX0 P w K mg base A outer s H E).nox) s1 H1 _ (compEnvC _ l1 C1 ((X_law_due CX0 P w K mg base A outer s H E).nox).env) p1)) (own := [("_law_room", 9)]) (g := (gName 9)) rfl nd (pi_tupK K rfl (pe_dget (hu_of hr) (pv 0) (pv 8) (fun _ _ => rfl))) (blkOk_by (by rfl)) (fun s2 H2 C2 l2 p2 => (pg_name (i := 9) nd rfl (Or.inl rfl))) (fun s2 H2 C2 l2 p2 => (pts_one (pt_cmp (pc_din (hu_of hr) (pv 9) (pv 1))))) (fun s2 H2 C2 l2 p2 => (pe_bmK K rfl PySem.F.plainAttrs_list PySem.F.slot_list_index PySem.F.type_list_index (mt_indexK K rfl) (pv 7) (pa_cons (pv 9) pa_nil)))))) (pss_cons (ps_setLc (X := ((X_law_due CX0 P w K mg base A outer s H E).nox)) (i := 3) (own := [("_law_room", 9)]) (g := (gName 9)) rfl nd rfl rfl (sw_true rfl rfl rfl (by decide +kernel)) (pi_listK K rfl (pv 7)) (blkOk_by (own := [("_law_room", 9)]) (N := ["_law_askers", "_law_rooms", "_law_lists", "_law_orders", "_law_seats", "_law_best_here", "_law_ones", "_law_others", "_law_one", "_law_room", "_law_k"]) (sc := defScope PMH.s_law_due) (by decide +kernel)) (fun s1 H1 C1 l1 p1 => (pg_name (i := 9) nd rfl (Or.inl rfl))) (fun s1 H1 C1 l1 p1 => pts_nil) (fun s1 H1 C1 l1 p1 => (pe_lc (X := (Cx.blk ((X_law_due CX0 P w K mg base A outer s H E).nox) s1 H1 _ (compEnvC _ l1 C1 ((X_law_due CX0 P w K mg base A outer s H E).nox).env) p1)) (own := [("_law_one", 8)]) (g := (gName 8)) rfl nd (pi_tupK K rfl (pe_ix (ix_tupK K rfl) (pe_dget (hu_of hr) (pv 1) (pv 9) (fun _ _ => rfl)) pe_int (fun _ _ => rfl))) (blkOk_by (by rfl)) (fun s2 H2 C2 l2 p2 => (pg_name (i := 8) nd rfl (Or.inl rfl))) (fun s2 H2 C2 l2 p2 => (pts_one (pt_cmp (pc_din (hu_of hr) (pv 8) (pv 0))))) (fun s2 H2 C2 l2 p2 => (pe_bmK K rfl PySem.F.plainAttrs_list PySem.F.slot_list_index PySem.F.type_list_index (mt_indexK K rfl) (pv 6) (pa_cons (pv 8) pa_nil)))))) (pss_cons (ps_setLc (X := ((X_law_due CX0 P w K mg base A outer s H E).nox)) (i := 4) (own := [("_law_room", 9)]) (g := (gName 9)) rfl nd rfl rfl (sw_true rfl rfl rfl (by decide +kernel)) (pi_listK K rfl (pv 7)) (blkOk_by (own := [("_law_room", 9)]) (N := ["_law_askers", "_law_rooms", "_law_lists", "_law_orders", "_law_seats", "_law_best_here", "_law_ones", "_law_others", "_law_one", "_law_room", "_law_k"]) (sc := defScope PMH.s_law_due) (by decide +kernel)) (fun s1 H1 C1 l1 p1 => (pg_name (i := 9) nd rfl (Or.inl rfl))) (fun s1 H1 C1 l1 p1 => pts_nil) (fun s1 H1 C1 l1 p1 => (pe_ix (ix_tupK K rfl) (pe_dget (hu_of hr) (pv 1) (pv 9) (fun _ _ => rfl)) pe_int (fun _ _ => rfl)))) (pss_cons (ps_set (i := 5) nd rfl (Or.inr rfl) (pe_call G_law_best (hr.mono (by decide)) (by rfl) t.g_law_best p_law_best b_law_best .nil pass0 (pa_cons (pv 2) (pa_cons (pe_call G_law_stable (hr.mono (by decide)) (by rfl) t.g_law_stable p_law_stable b_law_stable .nil pass0 (pa_cons (pv 2) (pa_cons (pv 3) (pa_cons (pv 4) pa_nil)))) pa_nil)))) (pss_one (ps_ret (pe_callTy (call_dictP rfl) (by rfl) t.n_dict (by decide +kernel) (pa_cons (pe_lc (X := ((X_law_due CX0 P w K mg base A outer s H E).nox)) (own := [("_law_k", 10)]) (g := (gName 10)) rfl nd (pi_range1 (by rfl) t.n_range (pa_cons (pe_callB (call_lenK K rfl) (by rfl) t.n_len PySem.boot_len (pa_cons (pv 6) pa_nil)) pa_nil)) (blkOk_by (own := [("_law_k", 10)]) (N := ["_law_askers", "_law_rooms", "_law_lists", "_law_orders", "_law_seats", "_law_best_here", "_law_ones", "_law_others", "_law_one", "_law_room", "_law_k"]) (sc := defScope PMH.s_law_due) (by decide +kernel)) (fun s1 H1 C1 l1 p1 => (pg_name (i := 10) nd rfl (Or.inl rfl))) (fun s1 H1 C1 l1 p1 => pts_nil) (fun s1 H1 C1 l1 p1 => (pe_tup (pa_cons (pe_ix (ix_listK K rfl) (pv 6) (pv 10) (fun _ _ => rfl)) (pa_cons (pe_ifExp (pt_cmpR op_isN (pe_ix (ix_tupK K rfl) (pv 5) (pv 10) (fun _ _ => rfl)) pe_non (nomark _)) pe_non (pe_ix (ix_listK K rfl) (pv 7) (pe_ix (ix_tupK K rfl) (pv 5) (pv 10) (fun _ _ => rfl)) (fun _ _ => rfl))) pa_nil))))) pa_nil)))))))))), ?_⟩
  obtain ⟨pa, pr, F, rfl, hb, ok, a4, r3, D, S, hT, hQ⟩ := h
  obtain ⟨⟨la, ha1, ha2⟩, ⟨ra, hr1, hr2⟩⟩ := id hb
  have hs4 : 1024 < sizeLine := by decide
  have p62 : (2 : Nat) ^ 62 = 4611686018427387904 := by decide
  refine ⟨_, rfl, pa, _, F.A, rfl, .of ha1, dkv_keys, by omega, fun ys p1 hy sy hp1 => ?_⟩
  have e1 : Ex (TL K) H (upd H p1 (.lst (ys.map V.str))) := (Ch.refl hT).new hp1
  refine ⟨_, rfl, pr, _, F.R, rfl, .of (Ex.k e1 hr1), dkv_keys, by omega, fun rs p2 hr sr hp2 => ?_⟩
  have e2 := e1.new (o := .lst (rs.map V.str)) hp2
  refine ⟨by show 2 ≤ sizeLine; omega, fun pt hpt => ⟨pt, _, rfl, SqT.of upd_same, rfl, _, _, rfl, _, _, rfl, rfl, ?_⟩⟩
  have e3 := e2.new (o := .tup [.ref p1, .ref p2]) hpt
  have x2 := (Ch.refl (S := No) e1.tb).new (o := .lst (rs.map V.str)) hp2
  have x3 := (Ch.refl (S := No) e2.tb).new (o := .tup [.ref p1, .ref p2]) hpt
  have h13 := Ex.k (x2.trans x3) (upd_same (H := H) (a := p1) (o := .lst (ys.map V.str)))
  have h23 := Ex.k x3 (upd_same (H := upd H p1 (.lst (ys.map V.str))) (a := p2) (o := .lst (rs.map V.str)))
  generalize hH3 : upd (upd (upd H p1 (.lst (ys.map V.str))) p2 (.lst (rs.map V.str))) pt (.tup [.ref p1, .ref p2]) = H3 at e3 h13 h23 ⊢
  have ly := hy.length_eq
  have lr := hr.length_eq
  have oka := ok.a
  have okr := ok.r
  refine ⟨_, rfl, p1, rfl, ⟨_, SqL.of h13⟩, fun D1 hD1 => ?_⟩
  refine lcx walk_list (ls := ys) (by simp) (fun _ => true) (fun x v H => ∃ q, v = V.ref q ∧ q ≠ D1 ∧ H q = some (.lst ((((F.lst x).filter fun r => decide (r ∈ F.R)).map fun r => rs.idxOf r).map iv))) e3.tb hD1 (fun H e => Ex.sqL e (SqL.of h13)) (by omega) ?_ ?_ ?_
  · intro x y H H' c _ ⟨q, e, hn, hq⟩
    exact ⟨q, e, hn, c.k hq hn⟩
  · intro i x v H4 H5 N M hi e hY ⟨zs, hz⟩ hN hM
    obtain ⟨rfl, rfl⟩ := yat hi hY
    have hx : x ∈ F.A := hy.mem_iff.mp (List.mem_of_getElem? hi)
    have e4 := e3.trans e
    have hsrc := Ex.sqT e4 (ha2 x hx)
    refine ⟨rfl, _, rfl, _, rfl, pa, _, rfl, dget_in (.of (Ex.k e4 ha1)) hx, la x, rfl, ⟨_, hsrc⟩, fun Di hDi => ?_⟩
    have nD : Di ≠ D1 := fun z => by subst z; rw [hz] at hDi; cases hDi
    refine lcf walk_tup (ls := F.lst x) (by simp) (fun r => decide (r ∈ F.R)) (fun r => iv (rs.idxOf r)) e.tb hDi (fun H e => Ex.sqT e hsrc) (by have := (ok.lst x hx).2; omega) ?_ ?_
    · intro j r v H6 H7 N' M' hj e6 hY hN' hM'
      obtain ⟨rfl, rfl⟩ := yat hj hY
      refine ⟨rfl, _, rfl, _, rfl, pr, _, rfl, dget_r (.of (Ex.k (e4.trans e6) hr1)), _, rfl, ?_⟩
      rw [isSome_if]
      exact iteB (fun h => ⟨_, rfl, .inl ⟨rfl, _, SqL.of (Ex.k (e.trans e6) h23)⟩, _, rfl, ixS (SqL.of (Ex.k (e.trans e6) h23)) (hr.mem_iff.mpr (of_decide_eq_true h)) (hM' h _ (Ch.refl e6.tb))⟩) fun h => hN' h _ (Ch.refl e6.tb)
    · intro H6 e6 hD6
      exact hM rfl _ _ e6 ⟨Di, rfl, nD, by rw [hD6, List.map_map]; rfl⟩
  intro H4 ysv e4 hDl hys4
  rw [filter_yes] at hys4
  obtain ⟨as, rfl, has⟩ := refs_of hys4
  have e34 := e3.trans e4
  refine ⟨_, rfl, p2, rfl, ⟨_, SqL.of (Ex.k e4 h23)⟩, fun D2 hD2 => ?_⟩
  refine lcx walk_list (ls := rs) (by simp) (fun _ => true) (fun x v H => ∃ q, v = V.ref q ∧ q ≠ D2 ∧ H q = some (.lst ((((F.ord x).filter fun r => decide (r ∈ F.A)).map fun r => ys.idxOf r).map iv))) e34.tb hD2 (fun H e => Ex.sqL e (SqL.of (Ex.k e4 h23))) (by omega) ?_ ?_ ?_
  · intro x y H H' c _ ⟨q, e, hn, hq⟩
    exact ⟨q, e, hn, c.k hq hn⟩
  · intro i x v H5 H6 N M hi e hY ⟨zs, hz⟩ hN hM
    obtain ⟨rfl, rfl⟩ := yat hi hY
    have hx : x ∈ F.R := hr.mem_iff.mp (List.mem_of_getElem? hi)
    have e5 := e34.trans e
    obtain ⟨o, ho1, ho2⟩ := hr2 x hx
    have hsrc := Ex.sqT e5 ho2
    refine ⟨rfl, _, rfl, _, rfl, pr, _, rfl, dget_in (.of (Ex.k e5 hr1)) hx, ra x, _, 0, .ref o, rfl, rfl, Ex.sqT e5 ho1, rfl, o, rfl, ⟨_, hsrc⟩, fun Di hDi => ?_⟩
    have nD : Di ≠ D2 := fun z => by subst z; rw [hz] at hDi; cases hDi
    refine lcf walk_tup (ls := F.ord x) (by simp) (fun r => decide (r ∈ F.A)) (fun r => iv (ys.idxOf r)) e.tb hDi (fun H e => Ex.sqT e hsrc) (by have := (ok.ord x hx).2; omega) ?_ ?_
    · intro j r v H7 H8 N' M' hj e7 hY hN' hM'
      obtain ⟨rfl, rfl⟩ := yat hj hY
      have e17 := (e4.trans e).trans e7
      refine ⟨rfl, _, rfl, _, rfl, pa, _, rfl, dget_r (.of (Ex.k (e5.trans e7) ha1)), _, rfl, ?_⟩
      rw [isSome_if]
      exact iteB (fun h => ⟨_, rfl, .inl ⟨rfl, _, SqL.of (Ex.k e17 h13)⟩, _, rfl, ixS (SqL.of (Ex.k e17 h13)) (hy.mem_iff.mpr (of_decide_eq_true h)) (hM' h _ (Ch.refl e7.tb))⟩) fun h => hN' h _ (Ch.refl e7.tb)
    · intro H7 e7 hD7
      exact hM rfl _ _ e7 ⟨Di, rfl, nD, by rw [hD7, List.map_map]; rfl⟩
  intro H5 rsv e5 hDo hrs5
  rw [filter_yes] at hrs5
  obtain ⟨bs, rfl, hbs⟩ := refs_of hrs5
  have e35 := e34.trans e5
  refine ⟨_, rfl, p2, rfl, ⟨_, SqL.of (Ex.k (e4.trans e5) h23)⟩, fun D3 hD3 => ?_⟩
  refine lcf walk_list (ls := rs) (by simp) (fun _ => true) (fun r => iv (F.q r)) e35.tb hD3 (fun H e => Ex.sqL e (SqL.of (Ex.k (e4.trans e5) h23))) (by omega) ?_ ?_
  · intro i r v H6 H7 N M hi e hY hN hM
    obtain ⟨rfl, rfl⟩ := yat hi hY
    have hx : r ∈ F.R := hr.mem_iff.mp (List.mem_of_getElem? hi)
    obtain ⟨o, ho1, ho2⟩ := hr2 r hx
    have e6 := e35.trans e
    exact ⟨rfl, _, rfl, _, rfl, pr, _, rfl, dget_in (.of (Ex.k e6 hr1)) hx, ra r, _, 1, iv (F.q r), rfl, rfl, Ex.sqT e6 ho1, rfl, hM rfl _ (Ch.refl e.tb)⟩
  intro H6 e6 hD6
  rw [filter_yes] at hD6
  have e36 := e35.trans e6
  have h16 := Ex.k ((e4.trans e5).trans e6) h13
  have h26 := Ex.k ((e4.trans e5).trans e6) h23
  have fR : (fun r => decide (r ∈ F.R)) = fun r => decide (r ∈ rs) := funext fun r => by rw [decide_eq_decide]; exact hr.mem_iff.symm
  have fA : (fun r => decide (r ∈ F.A)) = fun r => decide (r ∈ ys) := funext fun r => by rw [decide_eq_decide]; exact hy.mem_iff.symm
  rw [fR] at has
  rw [fA] at hbs
  have hm : LawMk K H6 D1 D2 D3 (mktN F ys rs) := by
    refine ⟨⟨as, SqL.of (Ex.k (e5.trans e6) hDl), ?_⟩, ⟨bs, SqL.of (Ex.k e6 hDo), ?_⟩, SqL.of (by rw [hD6]; simp [mktN])⟩
    · exact Paired.mapR (g := fun x => ((F.lst x).filter fun r => decide (r ∈ rs)).map fun r => rs.idxOf r) (Paired.flip (Paired.mapP has fun x q z => SqL.of (Ex.k (e5.trans e6) z.2)))
    · exact Paired.mapR (g := fun r => ((F.ord r).filter fun x => decide (x ∈ ys)).map fun x => ys.idxOf x) (Paired.flip (Paired.mapP hbs fun x q z => SqL.of (Ex.k e6 z.2)))
  have mok := mktN_ok ok hy hr
  have msm : (mktN F ys rs).Small := ⟨by simp [mktN]; omega, by simp [mktN]; omega⟩
  have hbl := byN_len (F := F) (ys := ys) (rs := rs)
  obtain ⟨hst, hall⟩ := best_stable mok hbl (fin_byN ok hy hr D S)
  refine ⟨_, rfl, _, rfl, _, rfl, _, rfl, D1, D2, D3, _, rfl, hm, mok, msm, e36.tb, fun ps H7 e7 hps => ?_⟩
  have lst : (stableN (mktN F ys rs)).length ≤ 256 := by
    have h1 := matches_le mok msm (Nat.le_refl _)
    have h2 : (stableN (mktN F ys rs)).length ≤ _ := List.length_filter_le _ _
    have h3 : 4 ^ (mktN F ys rs).ls.length ≤ 4 ^ 4 := Nat.pow_le_pow_right (by omega) msm.a
    have h4 : (4 : Nat) ^ 4 = 256 := by decide
    omega
  refine ⟨D1, ps, _, _, byN F ys rs, rfl, (hm.ex e7).l, hps, lst, mok, hst, hall, e7.tb, fun pb H8 e8 hpb => ?_⟩
  have e78 := e7.trans e8
  have e38 := e36.trans e78
  have h18 := Ex.k e78 h16
  have h28 := Ex.k e78 h26
  refine ⟨_, rfl, p1, _, rfl, .inl (SqL.of h18), _, rfl, by rw [List.length_map]; omega, by rw [List.length_map]; omega, fun D4 hD4 => ?_⟩
  rw [List.length_map]
  have ndy : ys.Nodup := hy.nodup_iff.mpr ok.A
  refine lcx (walk_range (lo := 0)) (ls := ys) (by simp) (fun _ => true) (fun x v H => ∃ q, v = V.ref q ∧ H q = some (.tup [kV (Sum.inr x), os (F.held x)])) e38.tb hD4 (fun _ _ => trivial) (by omega) ?_ ?_ ?_
  · rintro x y H H' c ⟨zs, hz⟩ ⟨q, e, hq⟩
    exact ⟨q, e, c.k hq (ne_of hq hz nofun)⟩
  · rintro i x v H9 H10 N M hi e ⟨rfl, hv⟩ hzs hN hM
    have hv : v = iv i := by rw [hv]; show V.int (0 + (i : Int)) = _; rw [Int.zero_add]
    subst hv
    have hx : x ∈ F.A := hy.mem_iff.mp (List.mem_of_getElem? hi)
    have at1 : atI (ys.map V.str) (i : Int) = some (.str x) := atI_nat (by rw [List.getElem?_map, hi]; rfl)
    have at2 : atI ((byN F ys rs).map ov) (i : Int) = some (ov ((F.held x).map fun r => rs.idxOf r)) := atI_nat (by unfold byN; rw [List.map_map, List.getElem?_map, hi]; rfl)
    have hb9 := Ex.sqT e hpb
    have h19 := Ex.k e h18
    have h29 := Ex.k e h28
    cases hh : F.held x with
    | none =>
      rw [hh] at at2
      refine ⟨rfl, _, rfl, _, rfl, p1, _, _, _, rfl, rfl, SqL.of h19, at1, _, rfl, _, rfl, pb, _, _, _, rfl, rfl, hb9, at2, rfl, _, rfl, iteT ⟨by show 2 ≤ sizeLine; omega, fun q hq => hM rfl _ _ ((Ch.refl e.tb).new hq) ⟨q, rfl, by rw [upd_same, hh]; rfl⟩⟩⟩
    | some r =>
      rw [hh] at at2
      have hrl := (D.hd x hx r hh).1.2.1
      have hrm : r ∈ rs := hr.mem_iff.mpr hrl
      have at3 : atI (rs.map V.str) ((rs.idxOf r : Nat) : Int) = some (.str r) := atI_nat (by rw [List.getElem?_map, PM.get?_idx hrm]; rfl)
      refine ⟨rfl, _, rfl, _, rfl, p1, _, _, _, rfl, rfl, SqL.of h19, at1, _, rfl, _, rfl, pb, _, _, _, rfl, rfl, hb9, at2, rfl, _, rfl, iteF ⟨_, rfl, _, rfl, _, rfl, pb, _, _, _, rfl, rfl, hb9, at2, p2, _, _, _, rfl, rfl, SqL.of h29, at3, ?_⟩⟩
      exact ⟨by show 2 ≤ sizeLine; omega, fun q hq => hM rfl _ _ ((Ch.refl e.tb).new hq) ⟨q, rfl, by rw [upd_same, hh]; rfl⟩⟩
  · intro H9 ysv e9 hD9 hys9
    rw [filter_yes] at hys9
    obtain ⟨as9, rfl, hps9⟩ := dpairs (K := K) (k := fun (p : Str) => Sum.inr p) (u := fun x => os (F.held x)) hys9
    refine ⟨D4, as9, _, rfl, SqL.of hD9, hps9, fun q hq => ?_⟩
    refine hQ q _ ys ((e38.trans e9).new hq) (Ex.backN (e38.trans e9) (New.of hq)) hy sy ?_
    rw [upd_same]
    have := mergeK_nil (f := fun x => os (F.held x)) ndy
    unfold dkv at this ⊢
    rw [this]
end
end PMT

set_option Elab.async false
set_option linter.all false
set_option maxRecDepth 100000
set_option maxHeartbeats 4000000
/-! UA: the law's books: how they are kept. -/
namespace PMT
open PySem PySem.Spec PyProof.Rows L2
def rDictP (K : PySem.W.Frag) : List V → Hp → VK → Prop := fun xs H Q => ∃ (a : Addr) (ps : List Addr) (kvs : List (Key × V)), xs = [.ref a] ∧ SqL K H a (ps.map V.ref) ∧ Paired (fun p kv => SqT K H p [kV kv.1, kv.2]) ps kvs ∧ ∀ p, H p = none → Q (.ref p) (upd H p (.dK (mergeK [] kvs)))
section
variable {X : Cx} (K : PySem.W.Frag) (hK : X.K = K)
include hK
theorem call_dictPK (hcalm : X.calm = true) : CallR X (.type "dict") (rDictP K) := by subst hK; exact call_dictP hcalm
theorem pg_tupK {es : List Expr} {k : Nat} {t : TGs} {n : Nat} {pos : Pos} (hc : X.calm = true) (h : PGs X es t)
    (hn : (assignEach es X.env).length = n := by rfl) (hst : (assignEach es X.env).findIdx? (·.1) = none := by rfl) : PG X (.Tuple es k pos) (gTup K n t) := by subst hK; exact pg_tup hc h hn hst
end
/-- nothing that a tuple says is lost -/
def TupK (K : PySem.W.Frag) (H H' : Hp) : Prop := ∀ b xs, SqT K H b xs → SqT K H' b xs
theorem TupK.ex {T : List (Addr × Str)} {K : PySem.W.Frag} {H H' : Hp} (e : Ex T H H') : TupK K H H' := fun _ _ h => Ex.sqT e h
theorem TupK.trans {K : PySem.W.Frag} {H H1 H2 : Hp} (h : TupK K H H1) (k : TupK K H1 H2) : TupK K H H2 := fun b xs z => k b xs (h b xs z)
theorem TupK.un {K : PySem.W.Frag} {H : Hp} {d : Addr} {od : Obj} {kvs : List (Key × V)} {o : HO} (h : H d = some (.frz od (.dK kvs))) : TupK K H (upd H d o) := fun b xs e => by
  rcases e with (e | ⟨q, e⟩) | e
  · exact .inl (.inl (by rw [upd_ne (ne_of e h nofun)]; exact e))
  · exact .inl (.inr ⟨q, by rw [upd_ne (ne_of e h (by intro z; cases z))]; exact e⟩)
  · exact .inr e
/-- a relation of names and values that tuples carry -/
def Car (K : PySem.W.Frag) (VR : Str → V → Hp → Prop) : Prop := ∀ x v H H', TupK K H H' → VR x v H → VR x v H'
/-- a dict by names, what stands in it -/
def DkR (VR : Str → V → Hp → Prop) (H : Hp) (pa : Addr) (A : List Str) : Prop := ∃ vf : Str → V, H pa = some (.dK (dkv A vf)) ∧ ∀ x ∈ A, VR x (vf x) H
theorem DkR.kp {K : PySem.W.Frag} {VR : Str → V → Hp → Prop} (c : Car K VR) {H H' : Hp} {pa : Addr} {A : List Str} (h : DkR VR H pa A) (k : TupK K H H') (e : ∀ o, H pa = some o → H' pa = some o) : DkR VR H' pa A := by
  obtain ⟨vf, h1, h2⟩ := h
  exact ⟨vf, e _ h1, fun x hx => c x _ _ _ k (h2 x hx)⟩
theorem DkR.cg {VR VR' : Str → V → Hp → Prop} {H : Hp} {pa : Addr} {A : List Str} (h : DkR VR H pa A) (k : ∀ x ∈ A, ∀ v, VR x v H → VR' x v H) : DkR VR' H pa A := by
  obtain ⟨vf, h1, h2⟩ := h
  exact ⟨vf, h1, fun x hx => k x hx _ (h2 x hx)⟩
def VA (K : PySem.W.Frag) (lst : Str → List Str) : Str → V → Hp → Prop := fun x v H => ∃ p, v = .ref p ∧ SqT K H p ((lst x).map V.str)
def VRm (K : PySem.W.Frag) (ord : Str → List Str) (q : Str → Nat) : Str → V → Hp → Prop := fun x v H => ∃ p o, v = .ref p ∧ SqT K H p [.ref o, iv (q x)] ∧ SqT K H o ((ord x).map V.str)
theorem car_A {K : PySem.W.Frag} {lst : Str → List Str} : Car K (VA K lst) := fun x v H H' k ⟨p, h1, h2⟩ => ⟨p, h1, k _ _ h2⟩
theorem car_R {K : PySem.W.Frag} {ord : Str → List Str} {q : Str → Nat} : Car K (VRm K ord q) := fun x v H H' k ⟨p, o, h1, h2, h3⟩ => ⟨p, o, h1, k _ _ h2, k _ _ h3⟩
def adV : V → Addr
  | .ref p => p
  | _ => 0
theorem bk_of {K : PySem.W.Frag} {H : Hp} {pa pr : Addr} {F : FS} (h1 : DkR (VA K F.lst) H pa F.A) (h2 : DkR (VRm K F.ord F.q) H pr F.R) : LawBk K H pa pr F := by
  obtain ⟨vf, a1, a2⟩ := h1
  obtain ⟨vg, r1, r2⟩ := h2
  refine ⟨⟨fun x => adV (vf x), ?_, fun x hx => ?_⟩, ⟨fun x => adV (vg x), ?_, fun x hx => ?_⟩⟩
  · rw [a1]
    congr 2
    exact dkv_congr fun x hx => by obtain ⟨p, e, _⟩ := a2 x hx; show vf x = .ref (adV (vf x)); rw [e]; rfl
  · obtain ⟨p, e, h⟩ := a2 x hx
    show SqT K H (adV (vf x)) _
    rw [e]; exact h
  · rw [r1]
    congr 2
    exact dkv_congr fun x hx => by obtain ⟨p, o, e, _⟩ := r2 x hx; show vg x = .ref (adV (vg x)); rw [e]; rfl
  · obtain ⟨p, o, e, h, h3⟩ := r2 x hx
    refine ⟨o, ?_, h3⟩
    show SqT K H (adV (vg x)) _
    rw [e]; exact h
theorem pick {R : Str → V → Prop} : ∀ {ls : List Str} {vs : List V}, Paired R ls vs → ls.Nodup → ∃ vf : Str → V, vs = ls.map vf ∧ ∀ x ∈ ls, R x (vf x)
  | _, _, .nil, _ => ⟨fun _ => .non, rfl, fun x hx => by cases hx⟩
  | x :: ls, v :: vs, .cons h t, hn => by
    have hn' := List.nodup_cons.mp hn
    obtain ⟨vf, h1, h2⟩ := pick t hn'.2
    refine ⟨PM.fset vf x v, ?_, fun y hy => ?_⟩
    · rw [List.map_cons, PM.fset_same, h1]
      congr 1
      exact List.map_congr_left fun y hy => (PM.fset_ne (show y ≠ x from fun e => hn'.1 (e ▸ hy))).symm
    · by_cases e : y = x
      · subst e; rw [PM.fset_same]; exact h
      · rw [PM.fset_ne e]; exact h2 y ((List.mem_cons.mp hy).resolve_left e)
section
variable {K : PySem.W.Frag}
theorem line_1000 : 1000 < sizeLine := by decide
/-- dict(list(d.items()) + [(x, v)]) -/
theorem appD {VR VR' : Str → V → Hp → Prop} (car : Car K VR) (car' : Car K VR') {σ : L2.St} {H : Hp} {Q : VK} {i j : Nat} {pa : Addr} {x : Str} {A : List Str} {tv : TE} (hT : LamX.Tabs (TL K) H) (hi : σ[i]? = some (some (.ref pa))) (hj : σ[j]? = some (some (.str x)))
    (hd : DkR VR H pa A) (hA : A.Nodup) (hA8 : A.length ≤ 8) (hx : x ∉ A) (up : ∀ y ∈ A, ∀ v H, VR y v H → VR' y v H)
    (htv : ∀ H1 Qv, Ex (TL K) H H1 → (∀ v H2, Ex (TL K) H1 H2 → VR' x v H2 → Qv v H2) → tv σ H1 Qv)
    (hQ : ∀ q H', Ex (TL K) H H' → New H q → DkR VR' H' q (A ++ [x]) → Q (.ref q) H') :
    (tCB (rDictP K) (tCons (tOp rCat (LiI.tListItems (tVar i)) (tLst (tCons (tTup (tCons (tVar j) (tCons tv tNil))) tNil))) tNil)) σ H Q := by
  obtain ⟨vf, h1, h2⟩ := hd
  have hl := line_1000
  refine ⟨_, hi, pa, _, rfl, h1, fun H1 p ts hk hp hts hnp hH1 hpr => ?_⟩
  have e1 : Ex (TL K) H H1 := ⟨fun b o e _ _ => hk b o e, fun z hz => LamX.TabS.ext (hT z hz) hk⟩
  refine ⟨_, hj, htv H1 _ e1 fun v H2 e2 hv => ?_⟩
  refine ⟨by show 2 ≤ sizeLine; omega, fun q hq => ?_⟩
  have e3 : Ex (TL K) H2 (upd H2 q (.tup [.str x, v])) := (Ch.refl e2.tb).new hq
  refine ⟨by show 1 ≤ sizeLine; omega, fun p2 hp2 => ?_⟩
  have e4 : Ex (TL K) (upd H2 q (.tup [.str x, v])) (upd (upd H2 q (.tup [.str x, v])) p2 (.lst [.ref q])) := (Ch.refl e3.tb).new hp2
  have e24 := e2.trans (e3.trans e4)
  have lts := hpr.length
  rw [dkv_len] at lts
  refine ⟨p, p2, _, _, rfl, rfl, Ex.k e24 hH1, upd_same, by rw [List.length_map]; show ts.length + 1 ≤ sizeLine; omega, fun p3 hp3 => ?_⟩
  have e5 := (Ch.refl (S := No) e4.tb).new (o := .lst (ts.map V.ref ++ [.ref q])) hp3
  have e25 := e24.trans e5
  have hq5 := Ex.k (e4.trans e5) (upd_same (H := H2) (a := q) (o := .tup [.str x, v]))
  refine ⟨p3, ts ++ [q], dkv A vf ++ [(Sum.inr x, v)], rfl, SqL.of (by rw [upd_same, List.map_append]; rfl), ?_, fun p4 hp4 => ?_⟩
  · exact Paired.snoc (Paired.mapP hpr fun _ _ z => SqT.of (Ex.k e25 z)) (SqT.of hq5)
  · have e15 := e1.trans e25
    have e6 := (Ch.refl (S := No) e25.tb).new (o := .dK (mergeK [] (dkv A vf ++ [(Sum.inr x, v)]))) hp4
    have e7 := (e3.trans (e4.trans e5)).trans e6
    refine hQ p4 _ (e15.trans e6) (Ex.backN e15 (New.of hp4)) ⟨PM.fset vf x v, ?_, fun y hy => ?_⟩
    · have e : dkv A vf ++ [(Sum.inr x, v)] = dkv (A ++ [x]) (PM.fset vf x v) := by
        unfold dkv
        rw [List.map_append]
        congr 1
        · exact List.map_congr_left fun y hy => by rw [PM.fset_ne (show y ≠ x from fun z => hx (z ▸ hy))]
        · simp [PM.fset_same]
      rw [upd_same, e, mergeK_nil]
      exact List.nodup_append.mpr ⟨hA, by simp, fun a ha b hb z => hx (by rw [List.mem_singleton.mp hb] at z; rw [← z]; exact ha)⟩
    · rcases List.mem_append.mp hy with hy | hy
      · rw [PM.fset_ne (show y ≠ x from fun z => hx (z ▸ hy))]
        exact up y hy _ _ (car _ _ _ _ (TupK.ex (e15.trans e6)) (h2 y hy))
      · rw [List.mem_singleton] at hy
        subst hy
        rw [PM.fset_same]
        exact car' _ _ _ _ (TupK.ex e7) hv
/-- dict([(x, v) for x in d if keep]) -/
theorem keysD {VR VR' : Str → V → Hp → Prop} (car : Car K VR) (car' : Car K VR') {σ : L2.St} {H : Hp} {Q : VK} {i n : Nat} {pa : Addr} {A : List Str} {tt : TT} {tv : TE} (keep : Str → Bool) (hT : LamX.Tabs (TL K) H) (hi : (wipe σ [])[i]? = some (some (.ref pa)))
    (hn : n < σ.length) (hd : DkR VR H pa A) (hA : A.Nodup) (hA8 : A.length ≤ 8)
    (htt : ∀ x ∈ A, ∀ H1 Qb, Qb (keep x) H1 → tt ((σ.set n none).set n (some (.str x))) H1 Qb)
    (htv : ∀ x ∈ A, keep x = true → ∀ vf H1 Qv, TupK K H H1 → LamX.Tabs (TL K) H1 → Rd H1 pa (.dK (dkv A vf)) → VR x (vf x) H1 → (∀ v H2, Ex (TL K) H1 H2 → VR' x v H2 → Qv v H2) → tv ((σ.set n none).set n (some (.str x))) H1 Qv)
    (hQ : ∀ q H', Ex (TL K) H H' → New H q → DkR VR' H' q (A.filter keep) → Q (.ref q) H') :
    (tCB (rDictP K) (tCons (tLockE (tLc (iKeys (tVar i)) (gName n) tt (tTup (tCons (tVar n) (tCons tv tNil))) [n])) tNil)) σ H Q := by
  obtain ⟨vf, h1, h2⟩ := hd
  have hl := line_1000
  refine ⟨pa, _, h1, trivial, fun od => ?_⟩
  have tL : LamX.Tabs (TL K) (upd H pa (.frz od (.dK (dkv A vf)))) := tabs_upd hT (by rw [h1]; exact nt_dK)
  have kL : TupK K H (upd H pa (.frz od (.dK (dkv A vf)))) := fun b xs e => sqT_dK h1 e
  have hL : (upd H pa (.frz od (.dK (dkv A vf)))) pa = some (.frz od (.dK (dkv A vf))) := upd_same
  have bk : ∀ {H'}, Ex (TL K) (upd H pa (.frz od (.dK (dkv A vf)))) H' → Ex (TL K) H (upd H' pa (.dK (dkv A vf))) := fun {H'} e => Ch.lock h1 e (Ex.k e hL)
  have nwH : ∀ {b}, (upd H pa (.frz od (.dK (dkv A vf)))) b = none → H b = none := fun {b} e => by
    by_cases z : b = pa
    · subst z; rw [upd_same] at e; cases e
    · rwa [upd_ne z] at e
  generalize hLe : upd H pa (.frz od (.dK (dkv A vf))) = L at tL kL hL bk nwH
  refine ⟨_, hi, pa, od, rfl, .inl ⟨_, hL, fun D hD => ?_⟩⟩
  refine lcx (walk_keys (kvs := dkv A vf) (d := pa) (o := od)) (ls := A) dkv_len keep (fun x v H => ∃ q u, v = .ref q ∧ H q = some (.tup [.str x, u]) ∧ VR' x u H) tL hD (fun H e => Ex.k e hL) (by omega) ?_ ?_ ?_
  · rintro x y H1 H2 c ⟨zs, hz⟩ ⟨q, u, e, hq, hv⟩
    exact ⟨q, u, e, c.k hq (ne_of hq hz nofun), car' _ _ _ _ (fun b xs z => c.sqT1 hz z) hv⟩
  · rintro k x v H1 H2 N M hk e ⟨rfl, kx, vx, hkx, rfl⟩ hzs hN hM
    obtain ⟨x2, hx2, rfl, rfl⟩ := dkv_of hkx
    rw [hk] at hx2
    cases hx2
    have hxA : x ∈ A := List.mem_of_getElem? hk
    have k1 : TupK K H H2 := kL.trans (TupK.ex e)
    have hslot : ((σ.set n none).set n (some (V.str x)))[n]? = some (some (.str x)) := by
      rw [List.getElem?_set_self (by rw [List.length_set]; exact hn)]
    refine ⟨by show ((σ.set n none).set n (some (V.str x))).set n none = σ.set n none; rw [List.set_set, List.set_set], ?_⟩
    refine htt x hxA H2 _ ?_
    refine iteB (fun hkp => ?_) fun hkp => hN hkp _ (Ch.refl e.tb)
    refine ⟨_, hslot, htv x hxA hkp vf H2 _ k1 e.tb (.inr ⟨od, Ex.k e hL⟩) (car _ _ _ _ k1 (h2 x hxA)) fun u H3 e3 hu => ?_⟩
    refine ⟨by show 2 ≤ sizeLine; omega, fun q hq => ?_⟩
    have e4 : Ex (TL K) H3 (upd H3 q (.tup [.str x, u])) := (Ch.refl e3.tb).new hq
    exact hM hkp _ _ (e3.trans e4) ⟨q, u, rfl, upd_same, car' _ _ _ _ (TupK.ex e4) hu⟩
  · intro H3 ys e3 hD3 hys
    have hL3 := Ex.k e3 hL
    refine ⟨hL3, ?_⟩
    have eb := bk e3
    have kU : TupK K H3 (upd H3 pa (.dK (dkv A vf))) := TupK.un hL3
    have nD : D ≠ pa := fun z => by subst z; rw [hL] at hD; cases hD
    obtain ⟨as, rfl, has⟩ := refs_of (R := fun x q => ∃ u, H3 q = some (.tup [.str x, u]) ∧ VR' x u H3) (Paired.mapP hys fun x v ⟨q, u, h1, h2, h3⟩ => ⟨q, h1, u, h2, h3⟩)
    -- the values
    have pv : ∀ {ls : List Str} {as : List Addr}, Paired (fun x q => ∃ u, H3 q = some (.tup [.str x, u]) ∧ VR' x u H3) ls as → ∃ vs, Paired (fun x v => VR' x v H3) ls vs ∧ Paired (fun q (kv : Key × V) => H3 q = some (.tup [kV kv.1, kv.2])) as ((ls.zip vs).map fun p => (Sum.inr p.1, p.2)) := by
      intro ls as h
      induction h with
      | nil => exact ⟨[], .nil, .nil⟩
      | cons h t ih =>
        obtain ⟨u, u1, u2⟩ := h
        obtain ⟨vs, v1, v2⟩ := ih
        exact ⟨u :: vs, .cons u2 v1, .cons u1 v2⟩
    obtain ⟨vs, v1, v2⟩ := pv has
    have ndk : (A.filter keep).Nodup := hA.sublist List.filter_sublist
    obtain ⟨vg, rfl, g2⟩ := pick v1 ndk
    have ez : (((A.filter keep).zip ((A.filter keep).map vg)).map fun p => ((Sum.inr p.1 : Key), p.2)) = dkv (A.filter keep) vg := by
      unfold dkv
      induction (A.filter keep) with
      | nil => rfl
      | cons a r ih => simp only [List.map_cons, List.zip_cons_cons, ih]
    rw [ez] at v2
    refine ⟨D, as, _, rfl, SqL.of (by rw [upd_ne nD]; exact hD3), Paired.mapP v2 fun q kv z => kU _ _ (SqT.of z), fun p hp => ?_⟩
    have e6 := (Ch.refl (S := No) eb.tb).new (o := .dK (mergeK [] (dkv (A.filter keep) vg))) hp
    refine hQ p _ (eb.trans e6) (Ex.backN eb (New.of hp)) ⟨vg, by rw [upd_same, mergeK_nil ndk], fun x hx => car' _ _ _ _ (kU.trans (TupK.ex e6)) (g2 x hx)⟩
end
end PMT

set_option Elab.async false
set_option linter.all false
set_option maxRecDepth 100000
set_option maxHeartbeats 4000000
/-! UB: the law's deeds. -/
namespace PMT
open PySem PySem.Spec PyProof.Rows L2
section
variable {K : PySem.W.Frag}
theorem FairAt.tupK {H H' : Hp} {f : Addr} {a : FA} {F : FS} {T : List (Addr × Str)} (z : FairAt K H f a F) (c : Ch T (S6 f a) H H') : TupK K H H' := by
  have ns : ∀ b xs, (H b = some (.tup xs) ∨ ∃ o, H b = some (.frz o (.tup xs))) → ¬ S6 f a b := by
    intro b xs h s
    have : (∃ C dx fs, H b = some (.ins C dx fs)) ∨ ∃ kvs, H b = some (.dK kvs) := by
      rcases s with rfl | s
      · exact .inl ⟨_, _, _, z.ins⟩
      · simp only [FA.ds5, List.mem_cons, List.not_mem_nil, or_false] at s
        rcases s with rfl | rfl | rfl | rfl | rfl
        · exact .inr ⟨_, z.l⟩
        · exact .inr ⟨_, z.o⟩
        · exact .inr ⟨_, z.s⟩
        · exact .inr ⟨_, z.h⟩
        · exact .inr ⟨_, z.n⟩
    rcases h with h | ⟨o, h⟩ <;> rcases this with ⟨C, dx, fs, e⟩ | ⟨kvs, e⟩ <;> rw [h] at e <;> cases e
  intro b xs e
  rcases e with (e | ⟨q, e⟩) | e
  · exact .inl (.inl (c.k e (ns b xs (.inl e))))
  · exact .inl (.inr ⟨q, c.k e (ns b xs (.inr ⟨q, e⟩))⟩)
  · exact .inr e
theorem FairAt.not6 {H : Hp} {f : Addr} {a : FA} {F : FS} (z : FairAt K H f a F) {q : Addr} (n : New H q) : ¬ S6 f a q := by
  intro s
  rcases s with rfl | s
  · exact (n.ne z.ins) rfl
  · simp only [FA.ds5, List.mem_cons, List.not_mem_nil, or_false] at s
    rcases s with rfl | rfl | rfl | rfl | rfl
    · exact (n.ne z.l) rfl
    · exact (n.ne z.o) rfl
    · exact (n.ne z.s) rfl
    · exact (n.ne z.h) rfl
    · exact (n.ne z.n) rfl
theorem FairAt.d6 {H : Hp} {f d : Addr} {a : FA} {F : FS} (z : FairAt K H f a F) (h : DiceAt H d) : ¬ S6 f a d := by
  obtain ⟨x, y, w, h⟩ := h
  intro s
  rcases s with rfl | s
  · rw [z.ins] at h; cases h
  · simp only [FA.ds5, List.mem_cons, List.not_mem_nil, or_false] at s
    rcases s with rfl | rfl | rfl | rfl | rfl
    · rw [z.l] at h; cases h
    · rw [z.o] at h; cases h
    · rw [z.s] at h; cases h
    · rw [z.h] at h; cases h
    · rw [z.n] at h; cases h
theorem FairAt.l6 {H : Hp} {f d : Addr} {a : FA} {F : FS} {xs : List V} (z : FairAt K H f a F) (h : H d = some (.lst xs)) : ¬ S6 f a d := by
  intro s
  rcases s with rfl | s
  · rw [z.ins] at h; cases h
  · simp only [FA.ds5, List.mem_cons, List.not_mem_nil, or_false] at s
    rcases s with rfl | rfl | rfl | rfl | rfl
    · rw [z.l] at h; cases h
    · rw [z.o] at h; cases h
    · rw [z.s] at h; cases h
    · rw [z.h] at h; cases h
    · rw [z.n] at h; cases h
/-- what stands between two deeds -/
structure LS (K : PySem.W.Frag) (H : Hp) (d f pa pr : Addr) (a : FA) (F : FS) : Prop where
  z : FairAt K H f a F
  i : FI F
  da : PM.DA F.M F.held F.next
  st : PM.Settled F.M F.held F.next
  ba : DkR (VA K F.lst) H pa F.A
  br : DkR (VRm K F.ord F.q) H pr F.R
  na : ¬ S6 f a pa
  nr : ¬ S6 f a pr
  dc : DiceAt H d
  tb : LamX.Tabs (TL K) H
theorem DiceAt.ex {T : List (Addr × Str)} {H H' : Hp} {d : Addr} (h : DiceAt H d) (e : Ex T H H') : DiceAt H' d := by
  obtain ⟨x, y, z, h⟩ := h
  exact ⟨x, y, z, Ex.k e h⟩
theorem DkR.ex {VR : Str → V → Hp → Prop} (c : Car K VR) {T : List (Addr × Str)} {H H' : Hp} {pa : Addr} {A : List Str} (h : DkR VR H pa A) (e : Ex T H H') : DkR VR H' pa A := by
  obtain ⟨vf, h1, h2⟩ := h
  exact ⟨vf, Ex.k e h1, fun x hx => c x _ _ _ (TupK.ex e) (h2 x hx)⟩
theorem LS.ex {H H' : Hp} {d f pa pr : Addr} {a : FA} {F : FS} (S : LS K H d f pa pr a F) (e : Ex (TL K) H H') : LS K H' d f pa pr a F :=
  ⟨S.z.ex e, S.i, S.da, S.st, S.ba.ex car_A e, S.br.ex car_R e, S.na, S.nr, S.dc.ex e, e.tb⟩
/-- the dice are rolled -/
theorem LS.roll {H H' : Hp} {d f pa pr : Addr} {a : FA} {F : FS} (S : LS K H d f pa pr a F) (c : Ch (TL K) (fun b => b = d) H H') (hd : DiceAt H' d) : LS K H' d f pa pr a F := by
  obtain ⟨x, y, w, h⟩ := S.dc
  have k : TupK K H H' := fun b xs e => c.sqT1 h e
  have kI : ∀ {b C dx fs}, H b = some (.ins C dx fs) → H' b = some (.ins C dx fs) := fun {b C dx fs} e => c.k e (ne_of e h nofun)
  have kD : ∀ {b kvs}, H b = some (.dK kvs) → H' b = some (.dK kvs) := fun {b kvs} e => c.k e (ne_of e h nofun)
  have dk : ∀ {VR : Str → V → Hp → Prop} {p A}, Car K VR → DkR VR H p A → DkR VR H' p A := fun {VR p A} cr ⟨vf, h1, h2⟩ => ⟨vf, kD h1, fun x hx => cr x _ _ _ k (h2 x hx)⟩
  have z := S.z
  exact ⟨⟨kI z.ins, kD z.l, kD z.o, kD z.s, kD z.h, kD z.n, fun x hx => k _ _ (z.lt x hx), fun x hx => k _ _ (z.ot x hx), z.ap⟩, S.i, S.da, S.st, dk car_A S.ba, dk car_R S.br, S.na, S.nr, hd, c.tb⟩
/-- what was told -/
def Told (K : PySem.W.Frag) (H : Hp) (F F' : FS) (due : Str) (told : V) : Prop :=
  (due ≠ "" ∧ PyData.strOk due = true ∧ told = .str due ∧ F' = F) ∨ (due = "" ∧ ∃ q rows, told = .ref q ∧ MovedT K H q rows ∧ ∀ ys : List Str, sortedS ys = true → ys.Nodup → (∀ x, x ∈ ys ↔ x ∈ F.A ∨ x ∈ F'.A) → rows = movedOf ys (look F.A F.held) (look F'.A F'.held))
theorem Told.ex {T : List (Addr × Str)} {H H' : Hp} {F F' : FS} {due : Str} {told : V} (h : Told K H F F' due told) (e : Ex T H H') : Told K H' F F' due told := by
  rcases h with h | ⟨h1, q, rows, h2, h3, h4⟩
  · exact .inl h
  · exact .inr ⟨h1, q, rows, h2, h3.ex e, h4⟩
/-- behind the deed, the books not yet kept -/
structure Mid (K : PySem.W.Frag) (H H' : Hp) (d f : Addr) (a a' : FA) (F F' : FS) (due : Str) (told : V) : Prop where
  z : FairAt K H' f a' F'
  i : FI F'
  da : PM.DA F'.M F'.held F'.next
  st : PM.Settled F'.M F'.held F'.next
  s5 : a'.ds5 = a.ds5
  dc : DiceAt H' d
  tb : LamX.Tabs (TL K) H'
  tk : TupK K H H'
  dk : ∀ b kvs, H b = some (.dK kvs) → ¬ S6 f a b → H' b = some (.dK kvs)
  lk : ∀ b xs, H b = some (.lst xs) → H' b = some (.lst xs)
  td : Told K H' F F' due told
structure SameF (F' F1 : FS) : Prop where
  A : F'.A = F1.A
  R : F'.R = F1.R
  l : F'.lst = F1.lst
  o : F'.ord = F1.ord
  q : F'.q = F1.q
theorem SameF.refl {F : FS} : SameF F F := ⟨rfl, rfl, rfl, rfl, rfl⟩
theorem mid_fail {H H1 : Hp} {d f pa pr : Addr} {a : FA} {F : FS} (S : LS K H d f pa pr a F) (e : Ex (TL K) H H1) {due : Str} (h1 : due ≠ "") (h2 : PyData.strOk due = true) : Mid K H H1 d f a a F F due (.str due) :=
  ⟨S.z.ex e, S.i, S.da, S.st, rfl, S.dc.ex e, e.tb, TupK.ex e, fun b kvs h _ => Ex.k e h, fun b xs h => Ex.k e h, .inl ⟨h1, h2, rfl, rfl⟩⟩
theorem mid_did {H H1 H2 : Hp} {d f pa pr q : Addr} {a : FA} {F F1 : FS} (S : LS K H d f pa pr a F) (e : Ex (TL K) H H1) (D : Did K H1 f a F F1 q H2) : ∃ a' F', SameF F' F1 ∧ Mid K H H2 d f a a' F F' "" (.ref q) := by
  obtain ⟨a', held', next', asks', rows, c, h5, z, I, D1, S1, hr, hm⟩ := D.ex
  obtain ⟨x, y, w, h⟩ := S.dc.ex e
  exact ⟨a', { F1 with held := held', next := next', asks := asks' }, ⟨rfl, rfl, rfl, rfl, rfl⟩, z, ⟨I.A, I.R, I.inA, I.inR, I.lst, I.ord⟩, D1, S1, h5, ⟨x, y, w, c.k h ((S.z.ex e).d6 ⟨_, _, _, h⟩)⟩, c.tb, (TupK.ex e).trans ((S.z.ex e).tupK c), fun b kvs hb n => c.k (Ex.k e hb) n, fun b xs hb => c.k (Ex.k e hb) ((S.z.ex e).l6 (Ex.k e hb)),
    .inr ⟨rfl, q, rows, rfl, hm, hr⟩⟩
theorem Mid.s6 {H H' : Hp} {d f : Addr} {a a' : FA} {F F' : FS} {due : Str} {told : V} (M : Mid K H H' d f a a' F F' due told) {b : Addr} : S6 f a' b ↔ S6 f a b := by unfold S6; rw [M.s5]
theorem Mid.ba {H H' : Hp} {d f pa pr : Addr} {a a' : FA} {F F' : FS} {due : Str} {told : V} (M : Mid K H H' d f a a' F F' due told) (S : LS K H d f pa pr a F) : DkR (VA K F.lst) H' pa F.A := by
  obtain ⟨vf, h1, h2⟩ := S.ba
  exact ⟨vf, M.dk _ _ h1 S.na, fun x hx => car_A x _ _ _ M.tk (h2 x hx)⟩
theorem Mid.br {H H' : Hp} {d f pa pr : Addr} {a a' : FA} {F F' : FS} {due : Str} {told : V} (M : Mid K H H' d f a a' F F' due told) (S : LS K H d f pa pr a F) : DkR (VRm K F.ord F.q) H' pr F.R := by
  obtain ⟨vf, h1, h2⟩ := S.br
  exact ⟨vf, M.dk _ _ h1 S.nr, fun x hx => car_R x _ _ _ M.tk (h2 x hx)⟩
/-- behind a deed -/
structure Post (K : PySem.W.Frag) (H H' : Hp) (d f pa' pr' : Addr) (a a' : FA) (F F' : FS) (due : Str) (told : V) : Prop where
  ls : LS K H' d f pa' pr' a' F'
  s6 : ∀ b, S6 f a' b ↔ S6 f a b
  dk : ∀ b kvs, H b = some (.dK kvs) → ¬ S6 f a b → H' b = some (.dK kvs)
  lk : ∀ b xs, H b = some (.lst xs) → H' b = some (.lst xs)
  td : Told K H' F F' due told
theorem Mid.post {H H2 H3 : Hp} {d f pa' pr' : Addr} {a a' : FA} {F F' : FS} {due : Str} {told : V} (M : Mid K H H2 d f a a' F F' due told) (e : Ex (TL K) H2 H3) (ba : DkR (VA K F'.lst) H3 pa' F'.A) (br : DkR (VRm K F'.ord F'.q) H3 pr' F'.R) (na : ¬ S6 f a' pa') (nr : ¬ S6 f a' pr') :
    Post K H H3 d f pa' pr' a a' F F' due told :=
  ⟨⟨M.z.ex e, M.i, M.da, M.st, ba, br, na, nr, M.dc.ex e, e.tb⟩, fun b => M.s6, fun b kvs h n => Ex.k e (M.dk b kvs h n), fun b xs h => Ex.k e (M.lk b xs h), M.td.ex e⟩
/-! the branches -/
def bCome (K : PySem.W.Frag) : TS := tSeq (tAsg (tIf (tB (tDIn (tVar 11) (tVar 4))) (tC (.str "deed")) (tC (.str ""))) (gName 16))
  (tSeq (tAsg (LamX.tLam (TL K) (TTold K) fun x => tMeth (He.ga K "Fair") "come" (spCome K) [] x (tVar 3) (tCons (tVar 11) (tCons (tVar 13) tNil))) (gName 17))
    (tAsg (tIf (tB (tDIn (tVar 11) (tVar 4))) (tVar 4) (tCB (rDictP K) (tCons (tOp rCat (LiI.tListItems (tVar 4)) (tLst (tCons (tTup (tCons (tVar 11) (tCons (tVar 13) tNil))) tNil))) tNil))) (gName 4)))
def bLeave (K : PySem.W.Frag) : TS := tSeq (tAsg (tIf (tB (tDNotIn (tVar 11) (tVar 4))) (tC (.str "no such")) (tC (.str ""))) (gName 16))
  (tSeq (tAsg (LamX.tLam (TL K) (TTold K) fun x => tMeth (He.ga K "Fair") "leave" (spLeave K) [] x (tVar 3) (tCons (tVar 11) tNil)) (gName 17))
    (tAsg (tCB (rDictP K) (tCons (tLockE (tLc (iKeys (tVar 4)) (gName 20) (tTest (tOp rNe (tVar 20) (tVar 11))) (tTup (tCons (tVar 20) (tCons (tDGet (tVar 4) (tVar 20)) tNil))) [20])) tNil)) (gName 4)))
def bWish (K : PySem.W.Frag) : TS := tSeq (tAsg (tIf (tB (tDNotIn (tVar 11) (tVar 4))) (tC (.str "no such")) (tC (.str ""))) (gName 16))
  (tSeq (tAsg (LamX.tLam (TL K) (TTold K) fun x => tMeth (He.ga K "Fair") "wish" (spWishD K) [] x (tVar 3) (tCons (tVar 11) (tCons (tVar 13) tNil))) (gName 17))
    (tAsg (tCB (rDictP K) (tCons (tLockE (tLc (iKeys (tVar 4)) (gName 20) tYes (tTup (tCons (tVar 20) (tCons (tIf (tTest (tOp rEq (tVar 20) (tVar 11))) (tVar 13) (tDGet (tVar 4) (tVar 20))) tNil))) [20])) tNil)) (gName 4)))
def bOpen (K : PySem.W.Frag) : TS := tSeq (tAsg (tIf (tB (tDIn (tVar 12) (tVar 5))) (tC (.str "deed")) (tC (.str ""))) (gName 16))
  (tSeq (tAsg (LamX.tLam (TL K) (TTold K) fun x => tMeth (He.ga K "Fair") "open_room" (spOpen K) [] x (tVar 3) (tCons (tVar 12) (tCons (tVar 14) (tCons (tVar 15) tNil)))) (gName 17))
    (tAsg (tIf (tB (tDIn (tVar 12) (tVar 5))) (tVar 5) (tCB (rDictP K) (tCons (tOp rCat (LiI.tListItems (tVar 5)) (tLst (tCons (tTup (tCons (tVar 12) (tCons (tTup (tCons (tVar 14) (tCons (tVar 15) tNil))) tNil))) tNil))) tNil))) (gName 5)))
def bShut (K : PySem.W.Frag) : TS := tSeq (tAsg (tIf (tB (tDNotIn (tVar 12) (tVar 5))) (tC (.str "no such")) (tC (.str ""))) (gName 16))
  (tSeq (tAsg (tOp rEq (tVar 15) (tC (V.int 2))) (gName 21))
  (tSeq (tAsg (LamX.tLam (TL K) (TTold K) fun x => tIf (tB (tVar 21)) (tMeth (He.ga K "Fair") "shut_room" (spShut K) [] x (tVar 3) (tCons (tVar 12) tNil)) (tMeth (He.ga K "Fair") "change_room" (spChange K) [] x (tVar 3) (tCons (tVar 12) (tCons (tVar 14) (tCons (tVar 15) tNil))))) (gName 17))
    (tAsg (tCB (rDictP K) (tCons (tLockE (tLc (iKeys (tVar 5)) (gName 20) (tOr (tTest (tOp rNe (tVar 20) (tVar 12))) (tNot (tB (tVar 21)))) (tTup (tCons (tVar 20) (tCons (tIf (tTest (tOp rEq (tVar 20) (tVar 12))) (tTup (tCons (tVar 14) (tCons (tVar 15) tNil))) (tDGet (tVar 5) (tVar 20))) tNil))) [20])) tNil)) (gName 5))))
/-- the law's names -/
abbrev stL (a0 d f pa pr pb : Addr) (u2 u7 u8 u9 : Option V) (k : Nat) (one room : Str) (l o : Addr) (c : Nat) (u16 u17 u18 u19 u20 u21 : Option V) : L2.St :=
  [some (.ref a0), some (.ref d), u2, some (.ref f), some (.ref pa), some (.ref pr), some (.ref pb), u7, u8, u9, some (iv k), some (.str one), some (.str room), some (.ref l), some (.ref o), some (iv c), u16, u17, u18, u19, u20, u21]
variable {mg : Str → Option Value} {base : Heap}
theorem br_come {a0 d f pa pr pb : Addr} {u2 u7 u8 u9 : Option V} {k : Nat} {one room : Str} {l o : Addr} {c : Nat} {u16 u17 u18 u19 u20 u21 : Option V} {a : FA} {F : FS} {H : Hp} {ls : List Str} {D : Ends}
    (S : LS K H d f pa pr a F) (ho : one ∈ nA) (hl : SqT K H l (ls.map V.str)) (l1 : ls.Nodup) (l2 : ∀ r ∈ ls, r ∈ nR)
    (hD : ∀ H' a' F' pa' pr' due told v21, Post K H H' d f pa' pr' a a' F F' due told → D.nx (stL a0 d f pa' pr' pb u2 u7 u8 u9 k one room l o c (some (.str due)) (some told) u18 u19 u20 v21) H') :
    bCome K D (stL a0 d f pa pr pb u2 u7 u8 u9 k one room l o c u16 u17 u18 u19 u20 u21) H := by
  obtain ⟨vf, b1, b2⟩ := id S.ba
  refine ⟨_, rfl, _, rfl, pa, _, rfl, dget_r (.of b1), _, rfl, ?_⟩
  rw [isSome_if]
  by_cases hx : one ∈ F.A
  · rw [decide_eq_true hx]
    refine iteT ⟨S.tb, fun H1 eN T1 => ?_⟩
    have e1 : Ex (TL K) H H1 := (Ch.refl S.tb).ext eN T1
    have z1 := S.z.ex e1
    refine ⟨_, rfl, f, _, _, rfl, z1.ins, rfl, _, rfl, _, rfl, f, a, F, one, l, ls, rfl, z1, S.i, S.da, ho, Ex.sqT e1 hl, l1, l2, T1, fun _ => .inr ⟨rfl, ?_⟩, fun h => absurd hx h⟩
    have M := mid_fail S e1 (due := "deed") (by decide +kernel) (by decide +kernel)
    refine ⟨_, rfl, _, rfl, pa, _, rfl, dget_r (.of (Ex.k e1 b1)), _, rfl, ?_⟩
    rw [isSome_if, decide_eq_true hx]
    exact iteT ⟨_, rfl, hD H1 a F pa pr _ _ _ (M.post (Ch.refl T1) (M.ba S) (M.br S) S.na S.nr)⟩
  · rw [decide_eq_false hx]
    refine iteF ⟨S.tb, fun H1 eN T1 => ?_⟩
    have e1 : Ex (TL K) H H1 := (Ch.refl S.tb).ext eN T1
    have z1 := S.z.ex e1
    refine ⟨_, rfl, f, _, _, rfl, z1.ins, rfl, _, rfl, _, rfl, f, a, F, one, l, ls, rfl, z1, S.i, S.da, ho, Ex.sqT e1 hl, l1, l2, T1, fun h => absurd h hx, fun _ q H2 did => ?_⟩
    obtain ⟨a', F', sm, M⟩ := mid_did S e1 did
    obtain ⟨vf2, d1, d2⟩ := M.ba S
    refine ⟨_, rfl, _, rfl, pa, _, rfl, dget_r (.of d1), _, rfl, ?_⟩
    rw [isSome_if, decide_eq_false hx]
    refine iteF (appD (i := 4) (j := 11) (x := one) (VR' := VA K F'.lst) car_A car_A M.tb rfl rfl (M.ba S) S.i.A (by have := lenA S.i.A S.i.inA; omega) hx ?_ ?_ ?_)
    · rintro y hy v H3 ⟨p, h1, h2⟩
      refine ⟨p, h1, ?_⟩
      rw [sm.l, show (comeF F one ls).lst y = F.lst y from PM.fset_ne (fun z => hx (z ▸ hy))]
      exact h2
    · intro H3 Qv e3 hq
      refine ⟨_, rfl, hq _ _ (Ch.refl e3.tb) ⟨l, rfl, ?_⟩⟩
      rw [sm.l, show (comeF F one ls).lst one = ls from PM.fset_same]
      exact Ex.sqT e3 (M.tk _ _ hl)
    · intro p H3 e3 hp hdk
      refine hD H3 a' F' p pr _ _ _ (M.post e3 ?_ ?_ (M.z.not6 hp) fun s => S.nr (M.s6.mp s))
      · rw [sm.A]; exact hdk
      · have := (M.br S).ex car_R e3
        rw [sm.R, sm.o, sm.q]; exact this
theorem isNone_if {x : Str} {l : List Str} {v : V} : (!(if x ∈ l then some v else none).isSome) = decide (x ∉ l) := by
  by_cases h : x ∈ l <;> simp [h]
theorem filter_none {A : List Str} {x : Str} (h : x ∉ A) : A.filter (fun y => decide (y ≠ x)) = A := List.filter_eq_self.mpr fun y hy => decide_eq_true fun z => h (z ▸ hy)
theorem strV {x y : Str} : decide (V.str x = V.str y) = decide (x = y) := by
  by_cases h : x = y
  · subst h; simp
  · rw [decide_eq_false h, decide_eq_false fun z => h (V.str.inj z)]
theorem br_leave {a0 d f pa pr pb : Addr} {u2 u7 u8 u9 : Option V} {k : Nat} {one room : Str} {l o : Addr} {c : Nat} {u16 u17 u18 u19 u20 u21 : Option V} {a : FA} {F : FS} {H : Hp} {D : Ends}
    (S : LS K H d f pa pr a F)
    (hD : ∀ H' a' F' pa' pr' due told v21, Post K H H' d f pa' pr' a a' F F' due told → D.nx (stL a0 d f pa' pr' pb u2 u7 u8 u9 k one room l o c (some (.str due)) (some told) u18 u19 u20 v21) H') :
    bLeave K D (stL a0 d f pa pr pb u2 u7 u8 u9 k one room l o c u16 u17 u18 u19 u20 u21) H := by
  obtain ⟨vf, b1, b2⟩ := id S.ba
  have A4 := lenA S.i.A S.i.inA
  -- the book
  have book : ∀ {H2 a' F' due told}, Mid K H H2 d f a a' F F' due told → F'.A = F.A.filter (fun y => decide (y ≠ one)) → F'.lst = F.lst → F'.R = F.R → F'.ord = F.ord → F'.q = F.q →
      (tAsg (tCB (rDictP K) (tCons (tLockE (tLc (iKeys (tVar 4)) (gName 20) (tTest (tOp rNe (tVar 20) (tVar 11))) (tTup (tCons (tVar 20) (tCons (tDGet (tVar 4) (tVar 20)) tNil))) [20])) tNil)) (gName 4)) D (stL a0 d f pa pr pb u2 u7 u8 u9 k one room l o c (some (.str due)) (some told) u18 u19 u20 u21) H2 := by
    intro H2 a' F' due told M eA el eR eo eq
    refine keysD (i := 4) (n := 20) car_A (VR' := VA K F.lst) car_A (fun y => decide (y ≠ one)) M.tb rfl (by show 20 < 22; omega) (M.ba S) S.i.A (by omega) ?_ ?_ ?_
    · intro x hx H1 Qb h
      refine ⟨_, rfl, _, rfl, rfl, _, rfl, ?_⟩
      rw [strV]
      have : (!decide (x = one)) = decide (x ≠ one) := by by_cases z : x = one <;> simp [z]
      rw [this]
      exact h
    · intro x hx hk vg H1 Qv tk T1 rd hv hq
      exact ⟨_, rfl, _, rfl, pa, _, rfl, dget_in rd hx, hq _ _ (Ch.refl T1) hv⟩
    · intro p H3 e3 hp hdk
      refine hD H3 a' F' p pr _ _ _ (M.post e3 ?_ ?_ (M.z.not6 hp) fun s => S.nr (M.s6.mp s))
      · rw [eA, el]; exact hdk
      · rw [eR, eo, eq]; exact (M.br S).ex car_R e3
  refine ⟨_, rfl, _, rfl, pa, _, rfl, dget_r (.of b1), _, rfl, ?_⟩
  rw [isNone_if]
  by_cases hx : one ∈ F.A
  · rw [decide_eq_false (not_not_intro hx)]
    refine iteF ⟨S.tb, fun H1 eN T1 => ?_⟩
    have e1 : Ex (TL K) H H1 := (Ch.refl S.tb).ext eN T1
    have z1 := S.z.ex e1
    refine ⟨_, rfl, f, _, _, rfl, z1.ins, rfl, _, rfl, f, a, F, one, rfl, z1, S.i, S.da, T1, fun h => absurd hx h, fun _ q H2 did => ?_⟩
    obtain ⟨a', F', sm, M⟩ := mid_did S e1 did
    exact book M sm.A sm.l sm.R sm.o sm.q
  · rw [decide_eq_true hx]
    refine iteT ⟨S.tb, fun H1 eN T1 => ?_⟩
    have e1 : Ex (TL K) H H1 := (Ch.refl S.tb).ext eN T1
    have z1 := S.z.ex e1
    refine ⟨_, rfl, f, _, _, rfl, z1.ins, rfl, _, rfl, f, a, F, one, rfl, z1, S.i, S.da, T1, fun _ => .inl ⟨rfl, ?_⟩, fun h => absurd h hx⟩
    exact book (mid_fail S e1 (due := "no such") (by decide +kernel) (by decide +kernel)) (filter_none hx).symm rfl rfl rfl rfl
theorem br_wish {a0 d f pa pr pb : Addr} {u2 u7 u8 u9 : Option V} {k : Nat} {one room : Str} {l o : Addr} {c : Nat} {u16 u17 u18 u19 u20 u21 : Option V} {a : FA} {F : FS} {H : Hp} {ls : List Str} {D : Ends}
    (S : LS K H d f pa pr a F) (hl : SqT K H l (ls.map V.str)) (l1 : ls.Nodup) (l2 : ∀ r ∈ ls, r ∈ nR)
    (hD : ∀ H' a' F' pa' pr' due told v21, Post K H H' d f pa' pr' a a' F F' due told → D.nx (stL a0 d f pa' pr' pb u2 u7 u8 u9 k one room l o c (some (.str due)) (some told) u18 u19 u20 v21) H') :
    bWish K D (stL a0 d f pa pr pb u2 u7 u8 u9 k one room l o c u16 u17 u18 u19 u20 u21) H := by
  obtain ⟨vf, b1, b2⟩ := id S.ba
  have A4 := lenA S.i.A S.i.inA
  have book : ∀ {H2 a' F' due told}, Mid K H H2 d f a a' F F' due told → F'.A = F.A → (∀ x ∈ F.A, F'.lst x = PM.fset F.lst one ls x) → F'.R = F.R → F'.ord = F.ord → F'.q = F.q →
      (tAsg (tCB (rDictP K) (tCons (tLockE (tLc (iKeys (tVar 4)) (gName 20) tYes (tTup (tCons (tVar 20) (tCons (tIf (tTest (tOp rEq (tVar 20) (tVar 11))) (tVar 13) (tDGet (tVar 4) (tVar 20))) tNil))) [20])) tNil)) (gName 4)) D (stL a0 d f pa pr pb u2 u7 u8 u9 k one room l o c (some (.str due)) (some told) u18 u19 u20 u21) H2 := by
    intro H2 a' F' due told M eA el eR eo eq
    refine keysD (i := 4) (n := 20) car_A (VR' := VA K (PM.fset F.lst one ls)) car_A (fun y => true) M.tb rfl (by show 20 < 22; omega) (M.ba S) S.i.A (by omega) ?_ ?_ ?_
    · intro x hx H1 Qb h
      exact h
    · intro x hx hk vg H1 Qv tk T1 rd hv hq
      refine ⟨_, rfl, _, rfl, rfl, _, rfl, ?_⟩
      rw [strV]
      by_cases z : x = one
      · subst z
        rw [decide_eq_true rfl]
        exact iteT ⟨_, rfl, hq _ _ (Ch.refl T1) ⟨l, rfl, by rw [PM.fset_same]; exact tk _ _ (M.tk _ _ hl)⟩⟩
      · rw [decide_eq_false z]
        refine iteF ⟨_, rfl, _, rfl, pa, _, rfl, dget_in rd hx, hq _ _ (Ch.refl T1) ?_⟩
        obtain ⟨p, h1, h2⟩ := hv
        exact ⟨p, h1, by rw [PM.fset_ne z]; exact h2⟩
    · intro p H3 e3 hp hdk
      rw [filter_yes] at hdk
      refine hD H3 a' F' p pr _ _ _ (M.post e3 ?_ ?_ (M.z.not6 hp) fun s => S.nr (M.s6.mp s))
      · rw [eA]
        refine hdk.cg fun x hx v hv => ?_
        obtain ⟨p, h1, h2⟩ := hv
        exact ⟨p, h1, by rw [el x hx]; exact h2⟩
      · rw [eR, eo, eq]; exact (M.br S).ex car_R e3
  refine ⟨_, rfl, _, rfl, pa, _, rfl, dget_r (.of b1), _, rfl, ?_⟩
  rw [isNone_if]
  by_cases hx : one ∈ F.A
  · rw [decide_eq_false (not_not_intro hx)]
    refine iteF ⟨S.tb, fun H1 eN T1 => ?_⟩
    have e1 : Ex (TL K) H H1 := (Ch.refl S.tb).ext eN T1
    have z1 := S.z.ex e1
    refine ⟨_, rfl, f, _, _, rfl, z1.ins, rfl, _, rfl, _, rfl, f, a, F, one, l, ls, rfl, z1, S.i, S.da, S.st, Ex.sqT e1 hl, l1, l2, T1, fun h => absurd hx h, fun _ q H2 did => ?_⟩
    obtain ⟨a', F', sm, M⟩ := mid_did S e1 did
    exact book M sm.A (fun x _ => by rw [sm.l]; rfl) sm.R sm.o sm.q
  · rw [decide_eq_true hx]
    refine iteT ⟨S.tb, fun H1 eN T1 => ?_⟩
    have e1 : Ex (TL K) H H1 := (Ch.refl S.tb).ext eN T1
    have z1 := S.z.ex e1
    refine ⟨_, rfl, f, _, _, rfl, z1.ins, rfl, _, rfl, _, rfl, f, a, F, one, l, ls, rfl, z1, S.i, S.da, S.st, Ex.sqT e1 hl, l1, l2, T1, fun _ => .inl ⟨rfl, ?_⟩, fun h => absurd h hx⟩
    exact book (mid_fail S e1 (due := "no such") (by decide +kernel) (by decide +kernel)) rfl (fun x hxA => (PM.fset_ne (show x ≠ one from fun z => hx (z ▸ hxA))).symm) rfl rfl rfl
theorem br_open {a0 d f pa pr pb : Addr} {u2 u7 u8 u9 : Option V} {k : Nat} {one room : Str} {l o : Addr} {c : Nat} {u16 u17 u18 u19 u20 u21 : Option V} {a : FA} {F : FS} {H : Hp} {os : List Str} {D : Ends}
    (S : LS K H d f pa pr a F) (ho : room ∈ nR) (hl : SqT K H o (os.map V.str)) (l1 : os.Nodup) (l2 : ∀ r ∈ os, r ∈ nA)
    (hD : ∀ H' a' F' pa' pr' due told v21, Post K H H' d f pa' pr' a a' F F' due told → D.nx (stL a0 d f pa' pr' pb u2 u7 u8 u9 k one room l o c (some (.str due)) (some told) u18 u19 u20 v21) H') :
    bOpen K D (stL a0 d f pa pr pb u2 u7 u8 u9 k one room l o c u16 u17 u18 u19 u20 u21) H := by
  obtain ⟨vf, b1, b2⟩ := id S.br
  have ln := line_1000
  refine ⟨_, rfl, _, rfl, pr, _, rfl, dget_r (.of b1), _, rfl, ?_⟩
  rw [isSome_if]
  by_cases hx : room ∈ F.R
  · rw [decide_eq_true hx]
    refine iteT ⟨S.tb, fun H1 eN T1 => ?_⟩
    have e1 : Ex (TL K) H H1 := (Ch.refl S.tb).ext eN T1
    have z1 := S.z.ex e1
    refine ⟨_, rfl, f, _, _, rfl, z1.ins, rfl, _, rfl, _, rfl, _, rfl, f, a, F, room, o, os, c, rfl, z1, S.i, S.da, ho, Ex.sqT e1 hl, l1, l2, T1, fun _ => .inr ⟨rfl, ?_⟩, fun h => absurd hx h⟩
    have M := mid_fail S e1 (due := "deed") (by decide +kernel) (by decide +kernel)
    refine ⟨_, rfl, _, rfl, pr, _, rfl, dget_r (.of (Ex.k e1 b1)), _, rfl, ?_⟩
    rw [isSome_if, decide_eq_true hx]
    exact iteT ⟨_, rfl, hD H1 a F pa pr _ _ _ (M.post (Ch.refl T1) (M.ba S) (M.br S) S.na S.nr)⟩
  · rw [decide_eq_false hx]
    refine iteF ⟨S.tb, fun H1 eN T1 => ?_⟩
    have e1 : Ex (TL K) H H1 := (Ch.refl S.tb).ext eN T1
    have z1 := S.z.ex e1
    refine ⟨_, rfl, f, _, _, rfl, z1.ins, rfl, _, rfl, _, rfl, _, rfl, f, a, F, room, o, os, c, rfl, z1, S.i, S.da, ho, Ex.sqT e1 hl, l1, l2, T1, fun h => absurd h hx, fun _ q H2 did => ?_⟩
    obtain ⟨a', F', sm, M⟩ := mid_did S e1 did
    obtain ⟨vf2, d1, d2⟩ := M.br S
    refine ⟨_, rfl, _, rfl, pr, _, rfl, dget_r (.of d1), _, rfl, ?_⟩
    rw [isSome_if, decide_eq_false hx]
    have eR : F'.R = F.R ++ [room] := by rw [sm.R]; exact if_neg hx
    refine iteF (appD (i := 5) (j := 12) (x := room) (VR' := VRm K F'.ord F'.q) car_R car_R M.tb rfl rfl (M.br S) S.i.R (by have := lenR S.i.R S.i.inR; omega) hx ?_ ?_ ?_)
    · rintro y hy v H3 ⟨p, o2, h1, h2, h3⟩
      have ne : y ≠ room := fun z => hx (z ▸ hy)
      refine ⟨p, o2, h1, ?_, ?_⟩
      · rw [sm.q, show (setF F room os c).q y = F.q y from PM.fset_ne ne]
        exact h2
      · rw [sm.o, show (setF F room os c).ord y = F.ord y from PM.fset_ne ne]
        exact h3
    · intro H3 Qv e3 hq
      refine ⟨_, rfl, _, rfl, by show 2 ≤ sizeLine; omega, fun p hp => ?_⟩
      have e4 : Ex (TL K) H3 (upd H3 p (.tup [.ref o, iv c])) := (Ch.refl e3.tb).new hp
      refine hq _ _ e4 ⟨p, o, rfl, ?_, ?_⟩
      · rw [sm.q, show (setF F room os c).q room = c from PM.fset_same]
        exact SqT.of upd_same
      · rw [sm.o, show (setF F room os c).ord room = os from PM.fset_same]
        exact Ex.sqT (e3.trans e4) (M.tk _ _ hl)
    · intro p H3 e3 hp hdk
      refine hD H3 a' F' pa p _ _ _ (M.post e3 ?_ ?_ (fun s => S.na (M.s6.mp s)) (M.z.not6 hp))
      · have := (M.ba S).ex car_A e3
        rw [sm.A, sm.l]; exact this
      · rw [eR]; exact hdk
theorem br_shut {a0 d f pa pr pb : Addr} {u2 u7 u8 u9 : Option V} {k : Nat} {one room : Str} {l o : Addr} {c : Nat} {u16 u17 u18 u19 u20 u21 : Option V} {a : FA} {F : FS} {H : Hp} {os : List Str} {D : Ends}
    (S : LS K H d f pa pr a F) (ho : room ∈ nR) (hl : SqT K H o (os.map V.str)) (l1 : os.Nodup) (l2 : ∀ r ∈ os, r ∈ nA)
    (hD : ∀ H' a' F' pa' pr' due told v21, Post K H H' d f pa' pr' a a' F F' due told → D.nx (stL a0 d f pa' pr' pb u2 u7 u8 u9 k one room l o c (some (.str due)) (some told) u18 u19 u20 v21) H') :
    bShut K D (stL a0 d f pa pr pb u2 u7 u8 u9 k one room l o c u16 u17 u18 u19 u20 u21) H := by
  obtain ⟨vf, b1, b2⟩ := id S.br
  have ln := line_1000
  have R3 := lenR S.i.R S.i.inR
  have book : ∀ {H2 a' F' due told} (sh : Bool), Mid K H H2 d f a a' F F' due told → F'.R = F.R.filter (fun y => decide (y ≠ room) || !sh) → (∀ x ∈ F'.R, F'.ord x = PM.fset F.ord room os x ∧ F'.q x = PM.fset F.q room c x) → F'.A = F.A → F'.lst = F.lst →
      (tAsg (tCB (rDictP K) (tCons (tLockE (tLc (iKeys (tVar 5)) (gName 20) (tOr (tTest (tOp rNe (tVar 20) (tVar 12))) (tNot (tB (tVar 21)))) (tTup (tCons (tVar 20) (tCons (tIf (tTest (tOp rEq (tVar 20) (tVar 12))) (tTup (tCons (tVar 14) (tCons (tVar 15) tNil))) (tDGet (tVar 5) (tVar 20))) tNil))) [20])) tNil)) (gName 5)) D (stL a0 d f pa pr pb u2 u7 u8 u9 k one room l o c (some (.str due)) (some told) u18 u19 u20 (some (.bl sh))) H2 := by
    intro H2 a' F' due told sh M eR eo eA el
    refine keysD (i := 5) (n := 20) car_R (VR' := VRm K (PM.fset F.ord room os) (PM.fset F.q room c)) car_R (fun y => decide (y ≠ room) || !sh) M.tb rfl (by show 20 < 22; omega) (M.br S) S.i.R (by omega) ?_ ?_ ?_
    · intro x hx H1 Qb h
      refine ⟨_, rfl, _, rfl, rfl, _, rfl, ?_⟩
      rw [strV]
      by_cases z : x = room
      · rw [decide_eq_true z]
        refine iteF ⟨_, rfl, _, rfl, ?_⟩
        have e : (decide (x ≠ room) || !sh) = !sh := by simp [z]
        rw [e] at h
        exact h
      · rw [decide_eq_false z]
        have e : (decide (x ≠ room) || !sh) = true := by simp [z]
        rw [e] at h
        exact iteT h
    · intro x hx hk vg H1 Qv tk T1 rd hv hq
      refine ⟨_, rfl, _, rfl, rfl, _, rfl, ?_⟩
      rw [strV]
      by_cases z : x = room
      · subst z
        rw [decide_eq_true rfl]
        refine iteT ⟨_, rfl, _, rfl, by show 2 ≤ sizeLine; omega, fun p hp => ?_⟩
        have e4 : Ex (TL K) H1 (upd H1 p (.tup [.ref o, iv c])) := (Ch.refl T1).new hp
        refine hq _ _ e4 ⟨p, o, rfl, by rw [PM.fset_same]; exact SqT.of upd_same, by rw [PM.fset_same]; exact Ex.sqT e4 (tk _ _ (M.tk _ _ hl))⟩
      · rw [decide_eq_false z]
        refine iteF ⟨_, rfl, _, rfl, pr, _, rfl, dget_in rd hx, hq _ _ (Ch.refl T1) ?_⟩
        obtain ⟨p, o2, h1, h2, h3⟩ := hv
        exact ⟨p, o2, h1, by rw [PM.fset_ne z]; exact h2, by rw [PM.fset_ne z]; exact h3⟩
    · intro p H3 e3 hp hdk
      rw [← eR] at hdk
      refine hD H3 a' F' pa p _ _ _ (M.post e3 ?_ ?_ (fun s => S.na (M.s6.mp s)) (M.z.not6 hp))
      · have := (M.ba S).ex car_A e3
        rw [eA, el]; exact this
      · refine hdk.cg fun x hx v hv => ?_
        obtain ⟨p, o2, h1, h2, h3⟩ := hv
        obtain ⟨k1, k2⟩ := eo x hx
        exact ⟨p, o2, h1, by rw [k2]; exact h2, by rw [k1]; exact h3⟩
  have fall : F.R.filter (fun y => decide (y ≠ room) || !false) = F.R := List.filter_eq_self.mpr fun y hy => by simp
  have fsh : F.R.filter (fun y => decide (y ≠ room) || !true) = F.R.filter (fun y => decide (y ≠ room)) := List.filter_congr fun y hy => by simp
  refine ⟨_, rfl, _, rfl, pr, _, rfl, dget_r (.of b1), _, rfl, ?_⟩
  rw [isNone_if]
  by_cases hx : room ∈ F.R
  · rw [decide_eq_false (not_not_intro hx)]
    refine iteF ⟨_, rfl, rfl, ?_⟩
    have ed : decide (iv c = V.int 2) = decide (c = 2) := by
      by_cases h : c = 2
      · subst h; rfl
      · rw [decide_eq_false h, decide_eq_false fun z => h (by have := V.int.inj z; omega)]
    rw [ed]
    refine ⟨S.tb, fun H1 eN T1 => ?_⟩
    have e1 : Ex (TL K) H H1 := (Ch.refl S.tb).ext eN T1
    have z1 := S.z.ex e1
    refine ⟨_, rfl, _, rfl, ?_⟩
    by_cases hc : c = 2
    · rw [decide_eq_true hc]
      refine iteT ⟨_, rfl, f, _, _, rfl, z1.ins, rfl, _, rfl, f, a, F, room, rfl, z1, S.i, S.da, T1, fun h => absurd hx h, fun _ q H2 did => ?_⟩
      obtain ⟨a', F', sm, M⟩ := mid_did S e1 did
      refine book true M (by rw [fsh, sm.R]; rfl) (fun x hxR => ?_) sm.A sm.l
      have ne : x ≠ room := by
        rw [sm.R] at hxR
        have := (List.mem_filter.mp hxR).2
        exact of_decide_eq_true this
      rw [sm.o, sm.q, PM.fset_ne ne, PM.fset_ne ne]
      exact ⟨rfl, rfl⟩
    · rw [decide_eq_false hc]
      refine iteF ⟨_, rfl, f, _, _, rfl, z1.ins, rfl, _, rfl, _, rfl, _, rfl, f, a, F, room, o, os, c, rfl, z1, S.i, S.da, ho, Ex.sqT e1 hl, l1, l2, T1, fun h => absurd hx h, fun _ q H2 did => ?_⟩
      obtain ⟨a', F', sm, M⟩ := mid_did S e1 did
      refine book false M (by rw [fall, sm.R]; exact if_pos hx) (fun x _ => by rw [sm.o, sm.q]; exact ⟨rfl, rfl⟩) sm.A sm.l
  · rw [decide_eq_true hx]
    refine iteT ⟨_, rfl, rfl, ?_⟩
    refine ⟨S.tb, fun H1 eN T1 => ?_⟩
    have e1 : Ex (TL K) H H1 := (Ch.refl S.tb).ext eN T1
    have z1 := S.z.ex e1
    have M := mid_fail S e1 (due := "no such") (by decide +kernel) (by decide +kernel)
    have same : ∀ sh : Bool, F.R = F.R.filter (fun y => decide (y ≠ room) || !sh) := fun sh => (List.filter_eq_self.mpr fun y hy => by simp [show y ≠ room from fun z => hx (z ▸ hy)]).symm
    have vals : ∀ x ∈ F.R, F.ord x = PM.fset F.ord room os x ∧ F.q x = PM.fset F.q room c x := fun x hxR => by
      have ne : x ≠ room := fun z => hx (z ▸ hxR)
      rw [PM.fset_ne ne, PM.fset_ne ne]; exact ⟨rfl, rfl⟩
    refine ⟨_, rfl, _, rfl, ?_⟩
    refine iteB (fun hb => ?_) fun hb => ?_
    · exact ⟨_, rfl, f, _, _, rfl, z1.ins, rfl, _, rfl, f, a, F, room, rfl, z1, S.i, S.da, T1, fun _ => .inl ⟨rfl, book _ M (same _) vals rfl rfl⟩, fun h => absurd h hx⟩
    · exact ⟨_, rfl, f, _, _, rfl, z1.ins, rfl, _, rfl, _, rfl, _, rfl, f, a, F, room, o, os, c, rfl, z1, S.i, S.da, ho, Ex.sqT e1 hl, l1, l2, T1, fun _ => .inl ⟨rfl, book _ M (same _) vals rfl rfl⟩, fun h => absurd h hx⟩
end
end PMT

set_option Elab.async false
set_option linter.all false
set_option maxRecDepth 100000
set_option maxHeartbeats 4000000
/-! UC: what the law looks at behind a deed. -/
namespace PMT
open PySem PySem.Spec PyProof.Rows L2
abbrev rSortD : List V → Hp → VK → Prop := fun xs H Q => ∃ a kvs ks, xs = [V.ref a] ∧ Rd H a (.dK kvs) ∧ List.map (fun (x : Key × V) => x.fst) kvs = List.map Sum.inr ks ∧ ks.length < 64 ∧ ∀ (ys : List Str) (p : Addr), ys.Perm ks → sortedS ys = true → H p = none → Q (.ref p) (upd H p (.lst (List.map V.str ys)))
abbrev rListDk : List V → Hp → VK → Prop := fun xs H Q => ∃ a kvs, xs = [V.ref a] ∧ Rd H a (.dK kvs) ∧ ∀ (p : Addr), H p = none → Q (.ref p) (upd H p (.lst (List.map (fun (kv : Key × V) => kV kv.fst) kvs)))
abbrev rTupC (K : PySem.W.Frag) : List V → Hp → VK → Prop := fun xs H Q => ∃ p ys, xs = [V.ref p] ∧ ((SqL K H p ys ∧ ∀ (l : Addr), H l = none → Q (.ref l) (upd H l (.tup ys))) ∨ SqT K H p ys ∧ Q (.ref p) H)
def tNames (K : PySem.W.Frag) : TE := tCB rSortD (tCons (tCB (rDictP K) (tCons (tLc (iList K (tOp rCat (tCB rListDk (tCons (tVar 6) tNil)) (tCB rListDk (tCons (tVar 7) tNil)))) (gName 20) tYes (tTup (tCons (tVar 20) (tCons (tC (V.int 1)) tNil))) [20]) tNil)) tNil)
def tMoved (K : PySem.W.Frag) : TE := tCB (rTupC K) (tCons (tLc (iList K (tVar 8)) (gName 20) (tTest (tOp rNe (tDGet2 (tVar 6) (tVar 20) (tC V.non)) (tDGet2 (tVar 7) (tVar 20) (tC V.non))))
  (tTup (tCons (tVar 20) (tCons (tDGet2 (tVar 6) (tVar 20) (tC V.non)) (tCons (tDGet2 (tVar 7) (tVar 20) (tC V.non)) tNil)))) [20]) tNil)
def tSame (K : PySem.W.Frag) : TE := tCB (rTupC K) (tCons (tLc (iList K (tCB rSortD (tCons (tVar 7) tNil))) (gName 20) tYes (tTup (tCons (tVar 20) (tCons (tDGet (tVar 7) (tVar 20)) tNil))) [20]) tNil)
def tTail (K : PySem.W.Frag) : TS := tSeq (tAsg (tCall (spDue K) [] E0 (tCons (tVar 4) (tCons (tVar 5) tNil))) (gName 7))
  (tSeq (tAsg (tNames K) (gName 8)) (tSeq (tAsg (tMoved K) (gName 9))
  (tSeq (tIfS (tOr (tTest (tOp (rNeD K) (tVar 17) (tIf (tTest (tOp rNe (tVar 16) (tC (.str "")))) (tVar 16) (tVar 9))))
      (tTest (tOp (rNeD K) (tMeth (He.ga K "Fair") "match" (spFmatch K) [] E0 (tVar 3) tNil) (tSame K)))) (tRet (tC (V.bl false))) tNext)
  (tSeq (tPar 18 19 (tCons (tMeth (He.ga K "Fair") "as_market" (spAsM K) [] E0 (tVar 3) tNil) (tCons (tMeth (He.ga K "Fair") "by_numbers" (spByN K) [] E0 (tVar 3) tNil) tNil)))
  (tSeq (tIfS (tTest (tOp rNotB (tCall (spCheckBoth K) [] E0 (tCons (tVar 18) (tCons (tVar 19) (tCons (tCall (spBoth K) [] E0 (tCons (tVar 18) (tCons (tVar 19) tNil))) tNil)))) (tC (V.bl true)))) (tRet (tC (V.bl false))) tNext)
    (tAsg (tVar 7) (gName 6)))))))
section
variable {K : PySem.W.Frag}
theorem dp_os {H : Hp} (o : Option Str) : Dp K H (os o) (deOS.e o) := by
  cases o with
  | none => exact .non
  | some s => exact .str s
theorem dp_moved {H : Hp} {p : Addr} {rows : List (Str × Option Str × Option Str)} (h : MovedT K H p rows) : Dp K H (.ref p) ((deTup (deP3 deStr deOS deOS)).e rows) := by
  obtain ⟨as, h1, h2⟩ := h
  exact dp_tup h1 (Paired.mapR (g := V.ref) (Paired.mapP (Paired.flip h2) fun e q z => dp_p3 (SqT.of z) (dp_str _) (dp_os _) (dp_os _)))
theorem dp_trip {H : Hp} {p : Addr} {rows : List (Str × Option Str)} (h : TripT K H p rows) : Dp K H (.ref p) ((deTup (deP2 deStr deOS)).e rows) := by
  obtain ⟨as, h1, h2⟩ := h
  exact dp_tup h1 (Paired.mapR (g := V.ref) (Paired.mapP (Paired.flip h2) fun e q z => dp_p2 (SqT.of z) (dp_str _) (dp_os _)))
theorem names_ok {σ : L2.St} {H : Hp} {Q : VK} {pb pd : Addr} {zs ys : List Str} {g h : Str → V} (hT : LamX.Tabs (TL K) H) (h6 : σ[6]? = some (some (.ref pb))) (h7 : σ[7]? = some (some (.ref pd))) (hb : H pb = some (.dK (dkv zs g))) (hd : H pd = some (.dK (dkv ys h))) (lz : zs.length ≤ 8) (ly : ys.length ≤ 8) (hlen : 20 < σ.length)
    (hQ : ∀ p H' ns, Ex (TL K) H H' → H' p = some (.lst (ns.map V.str)) → sortedS ns = true → ns.Nodup → (∀ x, x ∈ ns ↔ x ∈ zs ∨ x ∈ ys) → Q (.ref p) H') : tNames K σ H Q := by
  have ln := line_1000
  have km : ∀ (B : List Str) (g : Str → V), ((dkv B g).map fun kv => kV kv.1) = B.map V.str := fun B g => by simp [dkv, kV]
  refine ⟨_, h6, pb, _, rfl, .of hb, fun l1 hl1 => ?_⟩
  have e1 : Ex (TL K) H (upd H l1 (.lst ((dkv zs g).map fun kv => kV kv.1))) := (Ch.refl hT).new hl1
  refine ⟨_, h7, pd, _, rfl, .of (Ex.k e1 hd), fun l2 hl2 => ?_⟩
  have e2 := (Ch.refl (S := No) e1.tb).new (o := .lst ((dkv ys h).map fun kv => kV kv.1)) hl2
  refine ⟨l1, l2, _, _, rfl, rfl, Ex.k e2 upd_same, upd_same, by rw [km, km, List.length_map, List.length_map]; omega, fun l3 hl3 => ?_⟩
  have e3 := (Ch.refl (S := No) e2.tb).new (o := .lst (((dkv zs g).map fun kv => kV kv.1) ++ ((dkv ys h).map fun kv => kV kv.1))) hl3
  have e03 := e1.trans (e2.trans e3)
  rw [km, km, ← List.map_append] at e3 e03 ⊢
  have h3 : SqL K (upd (upd (upd H l1 (.lst (zs.map V.str))) l2 (.lst (ys.map V.str))) l3 (.lst ((zs ++ ys).map V.str))) l3 ((zs ++ ys).map V.str) := SqL.of upd_same
  refine ⟨l3, rfl, ⟨_, h3⟩, fun D hD => ?_⟩
  have hlen2 : (zs ++ ys).length ≤ 24 := by rw [List.length_append]; omega
  refine lcx walk_list (ls := zs ++ ys) (by simp) (fun _ => true) (fun (p : Str) v H => ∃ q, v = .ref q ∧ H q = some (.tup [.str p, iv 1])) e03.tb hD (fun H e => Ex.sqL e h3) (by omega) ?_ ?_ ?_
  · intro a y H H' c ⟨zs, hz⟩ ⟨q, e, hq⟩
    exact ⟨q, e, c.k hq (ne_of hq hz (by intro z; cases z))⟩
  · intro i x v H2 H3 N M ha e hY _ _ hM
    obtain ⟨rfl, rfl⟩ := yat ha hY
    have hslot : ((wipe σ [20]).set 20 (some (V.str x)))[20]? = some (some (.str x)) := by
      rw [List.getElem?_set_self (by show 20 < (σ.set 20 none).length; rw [List.length_set]; exact hlen)]
    exact ⟨by show ((σ.set 20 none).set 20 (some (V.str x))).set 20 none = σ.set 20 none; rw [List.set_set, List.set_set], _, hslot, by show 2 ≤ sizeLine; omega, fun p hp => hM rfl _ _ ((Ch.refl e.tb).new hp) ⟨p, rfl, upd_same⟩⟩
  intro H4 ys0 e4 hD4 hp4
  rw [filter_yes] at hp4
  obtain ⟨as, has, hps⟩ := dpairs (K := K) (k := fun (p : Str) => Sum.inr p) (u := fun _ => iv 1) hp4
  subst has
  refine ⟨D, as, _, rfl, SqL.of hD4, hps, fun dr hdr => ?_⟩
  obtain ⟨ks, k1, k2, k3, k4⟩ := merge_const (v := iv 1) (zs ++ ys)
  have k4' : mergeK [] ((zs ++ ys).map fun p => ((Sum.inr p : Key), iv 1)) = dkv ks fun _ => iv 1 := k4
  rw [k4']
  have e5 := e4.new (o := .dK (dkv ks fun _ => iv 1)) hdr
  have e05 := e03.trans e5
  refine ⟨dr, _, ks, rfl, .of upd_same, dkv_keys, by omega, fun ns p hperm hsort hp => ?_⟩
  have e6 := (Ch.refl (S := No) e05.tb).new (o := .lst (ns.map V.str)) hp
  exact hQ p _ ns (e05.trans e6) upd_same hsort (hperm.nodup_iff.mpr k1) fun x => by rw [hperm.mem_iff, k2, List.mem_append]
theorem moved_ok {σ : L2.St} {H : Hp} {Q : VK} {pb pd pn : Addr} {zs ys ns : List Str} {g h : Str → Option Str} (hT : LamX.Tabs (TL K) H) (h6 : σ[6]? = some (some (.ref pb))) (h7 : σ[7]? = some (some (.ref pd))) (h8 : σ[8]? = some (some (.ref pn))) (hb : H pb = some (.dK (dkv zs fun x => os (g x)))) (hd : H pd = some (.dK (dkv ys fun x => os (h x)))) (hn : H pn = some (.lst (ns.map V.str))) (ln8 : ns.length ≤ 64) (hlen : 20 < σ.length)
    (hQ : ∀ p H', Ex (TL K) H H' → MovedT K H' p (movedOf ns (look zs g) (look ys h)) → Q (.ref p) H') : tMoved K σ H Q := by
  have ln := line_1000
  refine ⟨_, h8, pn, rfl, ⟨_, SqL.of hn⟩, fun D2 hD2 => ?_⟩
  refine lcx walk_list (ls := ns) (by simp) (fun x => decide (look zs g x ≠ look ys h x)) (fun x v H => ∃ q, v = V.ref q ∧ H q = some (.tup [.str x, os (look zs g x), os (look ys h x)])) hT hD2 (fun H e => Ex.sqL e (SqL.of hn)) (by omega) ?_ ?_ ?_
  · intro x y H H' c ⟨zs, hz⟩ ⟨q, e, hq⟩
    exact ⟨q, e, c.k hq (ne_of hq hz (by intro z; cases z))⟩
  · intro i x v H7 H8 N M hi e hY _ hN hM
    obtain ⟨rfl, rfl⟩ := yat hi hY
    have hb7 := Ex.k e hb
    have hd7 := Ex.k e hd
    have hslot : ((wipe σ [20]).set 20 (some (V.str x)))[20]? = some (some (.str x)) := by
      rw [List.getElem?_set_self (by show 20 < (σ.set 20 none).length; rw [List.length_set]; exact hlen)]
    have s6 : ((wipe σ [20]).set 20 (some (V.str x)))[6]? = some (some (.ref pb)) := by
      show ((σ.set 20 none).set 20 (some (V.str x)))[6]? = _
      rw [List.getElem?_set_ne (by omega), List.getElem?_set_ne (by omega)]; exact h6
    have s7 : ((wipe σ [20]).set 20 (some (V.str x)))[7]? = some (some (.ref pd)) := by
      show ((σ.set 20 none).set 20 (some (V.str x)))[7]? = _
      rw [List.getElem?_set_ne (by omega), List.getElem?_set_ne (by omega)]; exact h7
    refine ⟨by show ((σ.set 20 none).set 20 (some (V.str x))).set 20 none = σ.set 20 none; rw [List.set_set, List.set_set], _, s6, pb, rfl, .inl ⟨_, .of hb7⟩, _, hslot, _, dget_r (x := x) (.of hb7), ?_⟩
    rw [look_getD]
    refine ⟨_, s7, pd, rfl, .inl ⟨_, .of hd7⟩, _, hslot, _, dget_r (x := x) (.of hd7), ?_⟩
    rw [look_getD]
    refine ⟨by cases look zs g x <;> cases look ys h x <;> rfl, _, rfl, ?_⟩
    rw [os_eq2]
    by_cases hk : look zs g x = look ys h x
    · rw [decide_eq_true hk]
      exact hN (decide_eq_false fun z => z hk) _ (Ch.refl e.tb)
    · rw [decide_eq_false hk]
      refine ⟨_, hslot, _, s6, pb, rfl, .inl ⟨_, .of hb7⟩, _, hslot, _, dget_r (x := x) (.of hb7), ?_⟩
      rw [look_getD]
      refine ⟨_, s7, pd, rfl, .inl ⟨_, .of hd7⟩, _, hslot, _, dget_r (x := x) (.of hd7), ?_⟩
      rw [look_getD]
      refine ⟨by show 3 ≤ sizeLine; omega, fun nt hnt => ?_⟩
      exact hM (decide_eq_true hk) _ _ ((Ch.refl e.tb).new hnt) ⟨nt, rfl, upd_same⟩
  · intro H7 ys' e7 hD7 hys
    obtain ⟨bs, rfl, hbs⟩ := refs_of hys
    refine ⟨D2, _, rfl, .inl ⟨SqL.of hD7, fun q hq => ?_⟩⟩
    have e8 : Ex (TL K) H7 (upd H7 q (.tup (bs.map V.ref))) := (Ch.refl e7.tb).new hq
    refine hQ q _ (e7.trans e8) ⟨bs, SqT.of upd_same, ?_⟩
    exact Paired.mapR (g := fun x => (x, look zs g x, look ys h x)) (Paired.flip (Paired.mapP hbs fun _ _ z => Ex.k e8 z))
theorem same_ok {σ : L2.St} {H : Hp} {Q : VK} {pd : Addr} {ys : List Str} {h : Str → Option Str} (hT : LamX.Tabs (TL K) H) (h7 : σ[7]? = some (some (.ref pd))) (hd : H pd = some (.dK (dkv ys fun x => os (h x)))) (ly : ys.length ≤ 8) (hlen : 20 < σ.length)
    (hQ : ∀ p H' ns, Ex (TL K) H H' → ns.Perm ys → sortedS ns = true → TripT K H' p (ns.map fun x => (x, h x)) → Q (.ref p) H') : tSame K σ H Q := by
  have ln := line_1000
  refine ⟨_, h7, pd, _, ys, rfl, .of hd, dkv_keys, by omega, fun ns p hperm hsort hp => ?_⟩
  have e1 : Ex (TL K) H (upd H p (.lst (ns.map V.str))) := (Ch.refl hT).new hp
  have lys := hperm.length_eq
  refine ⟨p, rfl, ⟨_, SqL.of upd_same⟩, fun D hD => ?_⟩
  refine lcx walk_list (ls := ns) (by simp) (fun _ => true) (fun x v H => ∃ q, v = V.ref q ∧ H q = some (.tup [.str x, os (h x)])) e1.tb hD (fun H e => Ex.sqL e (SqL.of upd_same)) (by omega) ?_ ?_ ?_
  · intro x y H H' c ⟨zs, hz⟩ ⟨q, e, hq⟩
    exact ⟨q, e, c.k hq (ne_of hq hz (by intro z; cases z))⟩
  · intro i x v H1 H2 N M hi e hY _ _ hM
    obtain ⟨rfl, rfl⟩ := yat hi hY
    have hslot : ((wipe σ [20]).set 20 (some (V.str x)))[20]? = some (some (.str x)) := by
      rw [List.getElem?_set_self (by show 20 < (σ.set 20 none).length; rw [List.length_set]; exact hlen)]
    have s7 : ((wipe σ [20]).set 20 (some (V.str x)))[7]? = some (some (.ref pd)) := by
      show ((σ.set 20 none).set 20 (some (V.str x)))[7]? = _
      rw [List.getElem?_set_ne (by omega), List.getElem?_set_ne (by omega)]; exact h7
    have hx : x ∈ ys := hperm.mem_iff.mp (List.mem_of_getElem? hi)
    refine ⟨by show ((σ.set 20 none).set 20 (some (V.str x))).set 20 none = σ.set 20 none; rw [List.set_set, List.set_set], _, hslot, _, s7, _, hslot, pd, _, rfl, dget_in (.of (Ex.k (e1.trans e) hd)) hx, by show 2 ≤ sizeLine; omega, fun nt hnt => ?_⟩
    exact hM rfl _ _ ((Ch.refl e.tb).new hnt) ⟨nt, rfl, upd_same⟩
  · intro H1 ys' e hD1 hys
    rw [filter_yes] at hys
    obtain ⟨as, rfl, has⟩ := refs_of hys
    refine ⟨D, _, rfl, .inl ⟨SqL.of hD1, fun q hq => ?_⟩⟩
    have e2 : Ex (TL K) H1 (upd H1 q (.tup (as.map V.ref))) := (Ch.refl e.tb).new hq
    refine hQ q _ ns (e1.trans (e.trans e2)) hperm hsort ⟨as, SqT.of upd_same, ?_⟩
    exact Paired.mapR (g := fun x => (x, h x)) (Paired.flip (Paired.mapP has fun _ _ z => Ex.k e2 z))
theorem look_perm {zs A : List Str} {g : Str → Option Str} (h : zs.Perm A) : look zs g = look A g := funext fun x => by
  unfold look
  by_cases hx : x ∈ A
  · rw [if_pos hx, if_pos (h.mem_iff.mpr hx)]
  · rw [if_neg hx, if_neg fun z => hx (h.mem_iff.mp z)]
theorem held_ok {F : FS} (I : FI F) (hr : ∀ x ∈ F.A, ∀ r, F.held x = some r → r ∈ F.R) (x : Str) : deOS.ok (look F.A F.held x) := fun s e => by
  unfold look at e
  by_cases h : x ∈ F.A
  · rw [if_pos h] at e
    exact nR_ok s (I.inR s (hr x h s e))
  · rw [if_neg h] at e; cases e
theorem tail_ok {a0 d f pa pr pb : Addr} {u2 u7 u8 u9 : Option V} {k : Nat} {one room : Str} {l o : Addr} {c : Nat} {u18 u19 u20 u21 : Option V} {a : FA} {F F' : FS} {H : Hp} {D : Ends} {zs : List Str} {due : Str} {told : V}
    (S : LS K H d f pa pr a F') (I : FI F) (hr : ∀ x ∈ F.A, ∀ r, F.held x = some r → r ∈ F.R) (hb : H pb = some (.dK (dkv zs fun x => os (F.held x)))) (zp : zs.Perm F.A) (td : Told K H F F' due told)
    (hD : ∀ H' p ys v7 v8 v9 v18 v19 v20, Ex (TL K) H H' → New H p → ys.Perm F'.A → H' p = some (.dK (dkv ys fun x => os (F'.held x))) → D.nx (stL a0 d f pa pr p u2 v7 v8 v9 k one room l o c (some (.str due)) (some told) v18 v19 v20 u21) H') :
    tTail K D (stL a0 d f pa pr pb u2 u7 u8 u9 k one room l o c (some (.str due)) (some told) u18 u19 u20 u21) H := by
  have A4 := lenA S.i.A S.i.inA
  have R3 := lenR S.i.R S.i.inR
  have B4 := lenA I.A I.inA
  have lz := zp.length_eq
  have hr' : ∀ x ∈ F'.A, ∀ r, F'.held x = some r → r ∈ F'.R := fun x hx r e => (S.da.hd x hx r e).1.2.1
  refine ⟨_, rfl, _, rfl, pa, pr, F', rfl, bk_of S.ba S.br, S.i.ok, A4, R3, S.da, S.st, S.tb, fun pd H1 ys e1 npd hy sy hpd => ?_⟩
  have ly := hy.length_eq
  refine names_ok e1.tb rfl rfl (Ex.k e1 hb) hpd (by omega) (by omega) (by show 20 < 22; omega) fun pn H2 ns e2 hpn sn nn mn => ?_
  have e12 := e1.trans e2
  have hb2 := Ex.k e12 hb
  have hpd2 := Ex.k e2 hpd
  have lns : ns.length ≤ 8 := by
    have := PM.nodup_sub_len nn (l₂ := zs ++ ys) fun x hx => List.mem_append.mpr ((mn x).mp hx)
    rw [List.length_append] at this
    omega
  refine moved_ok e2.tb rfl rfl rfl hb2 hpd2 hpn (by omega) (by show 20 < 22; omega) fun pm H3 e3 hpm => ?_
  rw [look_perm zp, look_perm hy] at hpm
  have e13 := e12.trans e3
  have td3 := td.ex e13
  have hpd3 := Ex.k e3 hpd2
  have S3 := S.ex e13
  -- what was told
  have t1 : ∀ (v9 : Option V) (Qb : Bool → Hp → Prop), v9 = some (.ref pm) → Qb false H3 → tTest (tOp (rNeD K) (tVar 17) (tIf (tTest (tOp rNe (tVar 16) (tC (.str "")))) (tVar 16) (tVar 9))) (stL a0 d f pa pr pb u2 (some (.ref pd)) (some (.ref pn)) v9 k one room l o c (some (.str due)) (some told) u18 u19 u20 u21) H3 Qb := by
    rintro v9 Qb rfl hq
    refine ⟨_, rfl, _, rfl, rfl, _, rfl, ?_⟩
    rw [strV]
    rcases td3 with ⟨h1, h2, h3, h4⟩ | ⟨h1, q, rows, h2, h3, h4⟩
    · rw [decide_eq_false h1]
      subst h3
      refine iteT ⟨_, rfl, rd_ne (d := deStr) (a := due) (b := due) (by decide) (dp_str _) (dp_str _) h2 h2 ⟨_, rfl, ?_⟩⟩
      rw [decide_eq_true rfl]
      exact hq
    · rw [decide_eq_true h1]
      subst h2
      have hrows := h4 ns sn nn fun x => by rw [mn x, zp.mem_iff, hy.mem_iff]
      rw [hrows] at h3
      have hk : ∀ e ∈ movedOf ns (look F.A F.held) (look F'.A F'.held), (deP3 deStr deOS deOS).ok e := fun e he => by
        unfold movedOf at he
        obtain ⟨x, hx, rfl⟩ := List.mem_map.mp he
        have hxm := (mn x).mp (List.mem_filter.mp hx).1
        refine ⟨nA_ok x ?_, held_ok I hr x, held_ok S.i hr' x⟩
        rcases hxm with z | z
        · exact I.inA x (zp.mem_iff.mp z)
        · exact S.i.inA x (hy.mem_iff.mp z)
      refine iteF ⟨_, rfl, rd_ne (d := deTup (deP3 deStr deOS deOS)) (by decide) (dp_moved h3) (dp_moved hpm) hk hk ⟨_, rfl, ?_⟩⟩
      rw [decide_eq_true rfl]
      exact hq
  refine t1 _ _ rfl (iteF ?_)
  -- who has what
  refine ⟨_, rfl, f, _, _, rfl, S3.z.ins, rfl, f, a, F', rfl, S3.z, S.i.ok, S3.tb, fun pt ym H4 e4 hym sym ht => ?_⟩
  have e14 := e13.trans e4
  refine same_ok e4.tb rfl (Ex.k e4 hpd3) (by omega) (by show 20 < 22; omega) fun ps H5 yn e5 hyn syn hps => ?_
  have ndy : ys.Nodup := hy.nodup_iff.mpr S.i.A
  have eyn : ym = yn := sorted_uniq sym syn (hym.nodup_iff.mpr S.i.A) (hyn.nodup_iff.mpr ndy) fun x => by rw [hym.mem_iff, hyn.mem_iff, hy.mem_iff]
  subst eyn
  have ht5 : TripT K H5 pt (ym.map fun x => (x, F'.held x)) := by
    obtain ⟨as, h1, h2⟩ := ht
    exact ⟨as, Ex.sqT e5 h1, Paired.mapP h2 fun _ _ z => Ex.k e5 z⟩
  have hk2 : ∀ e ∈ (ym.map fun x => (x, F'.held x)), (deP2 deStr deOS).ok e := fun e he => by
    obtain ⟨x, hx, rfl⟩ := List.mem_map.mp he
    have hxA := hym.mem_iff.mp hx
    refine ⟨nA_ok x (S.i.inA x hxA), ?_⟩
    have := held_ok S.i hr' x
    unfold look at this
    rw [if_pos hxA] at this
    exact this
  refine rd_ne (d := deTup (deP2 deStr deOS)) (by decide) (dp_trip ht5) (dp_trip hps) hk2 hk2 ⟨_, rfl, ?_⟩
  rw [decide_eq_true rfl]
  have e15 := e14.trans e5
  have S5 := S.ex e15
  refine iteF ?_
  refine ⟨_, rfl, f, _, _, rfl, S5.z.ins, rfl, f, a, F', rfl, S5.z, S.i.ok, S5.tb, fun pk y1 r1 H6 e6 hy1 sy1 hr1 sr1 hmk => ?_⟩
  have S6' := S5.ex e6
  refine ⟨_, rfl, f, _, _, rfl, S6'.z.ins, rfl, f, a, F', rfl, S6'.z, S.i.ok, hr', S6'.tb, fun pq y2 r2 H7 e7 hy2 sy2 hr2 sr2 hpq => ?_⟩
  have ey : y1 = y2 := sorted_uniq sy1 sy2 (hy1.nodup_iff.mpr S.i.A) (hy2.nodup_iff.mpr S.i.A) fun x => by rw [hy1.mem_iff, hy2.mem_iff]
  have er : r1 = r2 := sorted_uniq sr1 sr2 (hr1.nodup_iff.mpr S.i.R) (hr2.nodup_iff.mpr S.i.R) fun x => by rw [hr1.mem_iff, hr2.mem_iff]
  subst ey er
  refine ⟨_, _, rfl, ?_⟩
  have ok := S.i.ok
  have fine : Fine (mktN F' y1 r1) (byN F' y1 r1) := fine_of (mktN_ok ok hy1 hr1) byN_len (fin_byN ok hy1 hr1 S.da S.st)
  have hmk7 := hmk.ex e7
  refine ⟨_, rfl, _, rfl, _, rfl, _, rfl, pk, pq, _, _, rfl, hmk7, hpq, fine, e7.tb, fun qb H8 pa8 pb8 rows8 e8 hq8 hst8 hbs8 bo8 => ?_⟩
  refine ⟨pk, pq, qb, pa8, pb8, _, _, rows8, rfl, hmk7.ex e8, Ex.sqT e8 hpq, fine, hq8, hst8, hbs8, bo8, e8.tb, fun H9 e9 => ?_⟩
  refine ⟨true, true, rfl, rfl, _, rfl, ?_⟩
  have e69 := e6.trans (e7.trans (e8.trans e9))
  refine iteF ⟨_, rfl, ?_⟩
  exact hD H9 pd ys _ _ _ _ _ _ (e15.trans e69) npd hy (Ex.k ((e4.trans e5).trans e69) hpd3)
end
end PMT

set_option Elab.async false
set_option linter.all false
set_option maxRecDepth 100000
set_option maxHeartbeats 4000000
/-! UD: the law's reading. -/
namespace PMT
open PySem PySem.Spec PyProof.Rows L2
section
variable {K : PySem.W.Frag}
theorem abcd_at : ∀ i : Nat, i < 4 → ∃ ch, atI ("abcd" : Str).cps.toList (i : Int) = some ch ∧ (⟨#[ch]⟩ : Str) ∈ nA
  | 0, _ => ⟨_, rfl, by decide +kernel⟩
  | 1, _ => ⟨_, rfl, by decide +kernel⟩
  | 2, _ => ⟨_, rfl, by decide +kernel⟩
  | 3, _ => ⟨_, rfl, by decide +kernel⟩
  | n + 4, h => by omega
theorem xyz_at : ∀ i : Nat, i < 3 → ∃ ch, atI ("xyz" : Str).cps.toList (i : Int) = some ch ∧ (⟨#[ch]⟩ : Str) ∈ nR
  | 0, _ => ⟨_, rfl, by decide +kernel⟩
  | 1, _ => ⟨_, rfl, by decide +kernel⟩
  | 2, _ => ⟨_, rfl, by decide +kernel⟩
  | n + 3, h => by omega
theorem nA_let : Letters "abcd" nA := by unfold Letters; decide +kernel
theorem nR_let : Letters "xyz" nR := by unfold Letters; decide +kernel
theorem nA_nd : nA.Nodup := by decide +kernel
theorem nR_nd : nR.Nodup := by decide +kernel
theorem fi0 : FI F0 := ⟨.nil, .nil, nofun, nofun, nofun, nofun⟩
theorem da0 : PM.DA F0.M F0.held F0.next := ⟨nofun, nofun, fun r => Nat.zero_le _, fun a r h => nomatch h.1⟩
theorem st0 : PM.Settled F0.M F0.held F0.next := nofun
def spLaw (K : PySem.W.Frag) : Sp := fun vs H Q _ => ∃ (a : Addr) (ns : List Int), vs = [.ref a] ∧ SqL K H a (ns.map V.int) ∧ LamX.Tabs (TL K) H ∧ ∀ H', Q (.bl true) H'
def tStep (K : PySem.W.Frag) : TS :=
  tSeq (tAsg (tTup (tCons (tCall (spRoll K) [] E0 (tCons (tVar 1) (tCons (tC (V.int 8)) tNil))) (tCons (tOp rIxS (tC (V.str "abcd")) (tCall (spRoll K) [] E0 (tCons (tVar 1) (tCons (tC (V.int 4)) tNil))))
      (tCons (tOp rIxS (tC (V.str "xyz")) (tCall (spRoll K) [] E0 (tCons (tVar 1) (tCons (tC (V.int 3)) tNil)))) tNil)))) (gTup K 3 (gCons (gName 10) (gCons (gName 11) (gCons (gName 12) gNil)))))
  (tSeq (tAsg (tTup (tCons (tCall (spWords K) [] E0 (tCons (tVar 1) (tCons (tC (V.str "xyz")) tNil))) (tCons (tCall (spWords K) [] E0 (tCons (tVar 1) (tCons (tC (V.str "abcd")) tNil)))
      (tCons (tCall (spRoll K) [] E0 (tCons (tVar 1) (tCons (tC (V.int 3)) tNil))) tNil)))) (gTup K 3 (gCons (gName 13) (gCons (gName 14) (gCons (gName 15) gNil)))))
  (tSeq (tIfS (tTest (tOp (rI0 fun i j => V.bl (decide (i < j))) (tVar 10) (tC (V.int 3)))) (bCome K)
      (tIfS (tTest (tOp rEq (tVar 10) (tC (V.int 3)))) (bLeave K)
      (tIfS (tTest (tOp rEq (tVar 10) (tC (V.int 4)))) (bWish K)
      (tIfS (tTest (tOp (rI0 fun i j => V.bl (decide (i < j))) (tVar 10) (tC (V.int 7)))) (bOpen K) (bShut K)))))
    (tTail K)))
def tLawT (K : PySem.W.Frag) : TS :=
  tSeq (tFor (iList K (tCall (spRounds K) [] E0 (tCons (tVar 0) (tCons (tC (V.int 1)) tNil)))) (gName 1)
    (tSeq (tAsg (tTup (tCons (tMake (He.ga K "Fair") (spFair_init K) [] E0 tNil) (tCons tDNewK (tCons tDNewK (tCons tDNewK tNil))))) (gTup K 4 (gCons (gName 3) (gCons (gName 4) (gCons (gName 5) (gCons (gName 6) gNil))))))
      (tFor (iRng1 (tCons (tCall (spRoll K) [] E0 (tCons (tVar 1) (tCons (tC (V.int 9)) tNil))) tNil)) (gName 2) (tStep K))))
  (tRet (tC (V.bl true)))
abbrev stU (a0 d : Addr) (u2 : Option V) (f pa pr pb : Addr) (u7 u8 u9 u10 u11 u12 u13 u14 u15 u16 u17 u18 u19 u20 u21 : Option V) : L2.St :=
  [some (.ref a0), some (.ref d), u2, some (.ref f), some (.ref pa), some (.ref pr), some (.ref pb), u7, u8, u9, u10, u11, u12, u13, u14, u15, u16, u17, u18, u19, u20, u21]
/-- what stands at a step's beginning -/
def Beg (K : PySem.W.Frag) (p a0 q : Addr) (σ : L2.St) (H : Hp) : Prop := H p = some (.lst [.ref q]) ∧ ∃ (f pa pr pb : Addr) (a : FA) (F : FS) (zs : List Str), LS K H q f pa pr a F ∧ H pb = some (.dK (dkv zs fun x => os (F.held x))) ∧ zs.Perm F.A ∧ ¬ S6 f a pb ∧
  ∃ u2 u7 u8 u9 u10 u11 u12 u13 u14 u15 u16 u17 u18 u19 u20 u21, σ = stU a0 q u2 f pa pr pb u7 u8 u9 u10 u11 u12 u13 u14 u15 u16 u17 u18 u19 u20 u21
theorem step_ok {p a0 q : Addr} {σ : L2.St} {H : Hp} {D : Ends} {v2 : V} (npq : p ≠ q) (B : Beg K p a0 q σ H) (hD : ∀ σ' H', Beg K p a0 q σ' H' → D.nx σ' H') : tStep K D (σ.set 2 (some v2)) H := by
  obtain ⟨hp, f, pa, pr, pb, a, F, zs, S, hb, zp, nb, u2, u7, u8, u9, u10, u11, u12, u13, u14, u15, u16, u17, u18, u19, u20, u21, rfl⟩ := B
  have ln := line_1000
  have kd : ∀ {H H' : Hp} {b kvs}, Ch (TL K) (fun y => y = q) H H' → DiceAt H q → H b = some (.dK kvs) → H' b = some (.dK kvs) := fun {H H' b kvs} c ⟨x, y, w, h⟩ e => c.k e (ne_of e h nofun)
  have kt : ∀ {H H' : Hp} {b xs}, Ch (TL K) (fun y => y = q) H H' → DiceAt H q → SqT K H b xs → SqT K H' b xs := fun {H H' b xs} c ⟨x, y, w, h⟩ e => c.sqT1 h e
  refine ⟨_, rfl, q, 8, rfl, S.dc, by omega, by omega, S.tb, fun k H1 hk c1 d1 => ?_⟩
  have S1 := S.roll c1 d1
  refine ⟨_, rfl, q, 4, rfl, d1, by omega, by omega, c1.tb, fun i1 H2 hi1 c2 d2 => ?_⟩
  have S2 := S1.roll c2 d2
  obtain ⟨ch, hat, hone⟩ := abcd_at i1 hi1
  refine ⟨_, _, _, rfl, rfl, by decide, hat, ?_⟩
  refine ⟨_, rfl, q, 3, rfl, d2, by omega, by omega, c2.tb, fun i2 H3 hi2 c3 d3 => ?_⟩
  have S3 := S2.roll c3 d3
  obtain ⟨ch2, hat2, hroom⟩ := xyz_at i2 hi2
  refine ⟨_, _, _, rfl, rfl, by decide, hat2, ?_⟩
  refine ⟨by show 3 ≤ sizeLine; omega, fun pt hpt => ⟨pt, _, rfl, SqT.of upd_same, rfl, _, _, rfl, _, _, rfl, _, _, rfl, rfl, ?_⟩⟩
  have e4 : Ex (TL K) H3 (upd H3 pt (.tup [iv k, .str ⟨#[ch]⟩, .str ⟨#[ch2]⟩])) := (Ch.refl c3.tb).new hpt
  have S4 := S3.ex e4
  generalize (upd H3 pt (.tup [iv k, .str ⟨#[ch]⟩, .str ⟨#[ch2]⟩])) = H4 at e4 S4 ⊢
  refine ⟨_, rfl, q, "xyz", nR, rfl, S4.dc, nR_let, nR_nd, by decide, by decide, S4.tb, fun ls l H5 ln1 ln2 c5 d5 hl => ?_⟩
  have S5 := S4.roll c5 d5
  refine ⟨_, rfl, q, "abcd", nA, rfl, d5, nA_let, nA_nd, by decide, by decide, c5.tb, fun os o H6 on1 on2 c6 d6 ho => ?_⟩
  have S6' := S5.roll c6 d6
  refine ⟨_, rfl, q, 3, rfl, d6, by omega, by omega, c6.tb, fun c H7 hc c7 d7 => ?_⟩
  have S7 := S6'.roll c7 d7
  refine ⟨by show 3 ≤ sizeLine; omega, fun pt2 hpt2 => ⟨pt2, _, rfl, SqT.of upd_same, rfl, _, _, rfl, _, _, rfl, _, _, rfl, rfl, ?_⟩⟩
  have e8 : Ex (TL K) H7 (upd H7 pt2 (.tup [.ref l, .ref o, iv c])) := (Ch.refl c7.tb).new hpt2
  have S8 := S7.ex e8
  generalize (upd H7 pt2 (.tup [.ref l, .ref o, iv c])) = H8 at e8 S8 ⊢
  have hl8 : SqT K H8 l (ls.map V.str) := Ex.sqT e8 (kt c7 d6 (kt c6 d5 hl))
  have ho8 : SqT K H8 o (os.map V.str) := Ex.sqT e8 (kt c7 d6 ho)
  have hb8 : H8 pb = some (.dK (dkv zs fun x => PMT.os (F.held x))) := Ex.k e8 (kd c7 d6 (kd c6 d5 (kd c5 S4.dc (Ex.k e4 (kd c3 d2 (kd c2 d1 (kd c1 S.dc hb)))))))
  have hp8 : H8 p = some (.lst [.ref q]) := Ex.k e8 (c7.k (c6.k (c5.k (Ex.k e4 (c3.k (c2.k (c1.k hp npq) npq) npq)) npq) npq) npq)
  have fin : ∀ (H' : Hp) (a' : FA) (F' : FS) (pa' pr' : Addr) (due : Str) (told : V) (v21 : Option V), Post K H8 H' q f pa' pr' a a' F F' due told →
      tTail K D (stL a0 q f pa' pr' pb (some v2) u7 u8 u9 k ⟨#[ch]⟩ ⟨#[ch2]⟩ l o c (some (.str due)) (some told) u18 u19 u20 v21) H' := by
    intro H' a' F' pa' pr' due told v21 P
    refine tail_ok P.ls S.i (fun x hx r e => (S.da.hd x hx r e).1.2.1) (P.dk pb _ hb8 nb) zp P.td fun H9 pd ys v7 v8 v9 v18 v19 v20 e9 npd hy hpd => hD _ _ ?_
    exact ⟨Ex.k e9 (P.lk p _ hp8), f, pa', pr', pd, a', F', ys, P.ls.ex e9, hpd, hy, P.ls.z.not6 npd, _, _, _, _, _, _, _, _, _, _, _, _, _, _, _, _, rfl⟩
  refine ⟨_, rfl, _, _, rfl, rfl, _, rfl, ?_⟩
  refine iteB (fun _ => br_come S8 hone hl8 ln1 ln2 fin) fun _ => ?_
  refine ⟨_, rfl, rfl, _, rfl, ?_⟩
  refine iteB (fun _ => br_leave S8 fin) fun _ => ?_
  refine ⟨_, rfl, rfl, _, rfl, ?_⟩
  refine iteB (fun _ => br_wish S8 hl8 ln1 ln2 fin) fun _ => ?_
  refine ⟨_, rfl, _, _, rfl, rfl, _, rfl, ?_⟩
  exact iteB (fun _ => br_open S8 hroom ho8 on1 on2 fin) fun _ => br_shut S8 hroom ho8 on1 on2 fin
theorem law_read {a : Addr} {ns : List Int} {H : Hp} {Q : VK} (ha : SqL K H a (ns.map V.int)) (hT : LamX.Tabs (TL K) H) (hQ : ∀ H', Q (.bl true) H') :
    tLawT K { nx := fun x H' => Q V.non H', rt := Q } [some (.ref a), none, none, none, none, none, none, none, none, none, none, none, none, none, none, none, none, none, none, none, none, none] H := by
  have ln := line_1000
  have p62 : (2 : Nat) ^ 62 = 4611686018427387904 := by decide
  refine ⟨_, rfl, a, ns, rfl, ha, hT, fun p q H1 e1 hp hq => ⟨p, rfl, ⟨_, SqL.of hp⟩, ?_⟩⟩
  have npq : p ≠ q := fun z => by
    obtain ⟨x, y, w, hq⟩ := hq
    rw [z, hq] at hp; cases hp
  refine for_it (walk_list (xs := [.ref q])) (fun i σ H' => H' p = some (.lst [.ref q]) ∧ (i = 0 → H' = H1 ∧ σ = [some (.ref a), none, none, none, none, none, none, none, none, none, none, none, none, none, none, none, none, none, none, none, none, none])) ?_ ?_ ?_ ?_
  · exact ⟨hp, fun _ => ⟨rfl, rfl⟩⟩
  · rintro i σ H' _ ⟨h, _⟩
    exact SqL.of h
  · rintro i x σ H2 H3 hi ⟨_, h0⟩ ⟨rfl, hx⟩
    have hi0 : i = 0 := by simpa using hi
    subst hi0
    obtain ⟨rfl, rfl⟩ := h0 rfl
    cases hx
    intro f dx hf hdx hne
    have g1 : Ex (TL K) H3 (upd H3 dx (.own f)) := (Ch.refl e1.tb).new hdx
    have hf1 : upd H3 dx (.own f) f = none := by rw [upd_ne (Ne.symm hne)]; exact hf
    have g2 : Ex (TL K) H3 (upd (upd H3 dx (.own f)) f (.ins (He.ga K "Fair") dx [])) := g1.new hf1
    refine ⟨f, dx, rfl, upd_same, g2.tb, fun H4 fa c4 z4 n4 => ⟨rfl, ?_⟩⟩
    have e4 : Ex (TL K) H3 H4 := Ch.made c4 hf hdx
    intro d1 hd1
    have e5 : Ex (TL K) H4 (upd H4 d1 (.dK [])) := (Ch.refl e4.tb).new hd1
    intro d2 hd2
    have e6 : Ex (TL K) (upd H4 d1 (.dK [])) (upd (upd H4 d1 (.dK [])) d2 (.dK [])) := (Ch.refl e5.tb).new hd2
    intro d3 hd3
    have e7 : Ex (TL K) (upd (upd H4 d1 (.dK [])) d2 (.dK [])) (upd (upd (upd H4 d1 (.dK [])) d2 (.dK [])) d3 (.dK [])) := (Ch.refl e6.tb).new hd3
    refine ⟨by show 4 ≤ sizeLine; omega, fun pt hpt => ⟨pt, _, rfl, SqT.of upd_same, rfl, _, _, rfl, _, _, rfl, _, _, rfl, _, _, rfl, rfl, ?_⟩⟩
    have e8 := (Ch.refl (S := No) e7.tb).new (o := .tup [.ref f, .ref d1, .ref d2, .ref d3]) hpt
    have h1 := Ex.k (e6.trans (e7.trans e8)) (upd_same (H := H4) (a := d1) (o := .dK []))
    have h2 := Ex.k (e7.trans e8) (upd_same (H := upd H4 d1 (.dK [])) (a := d2) (o := .dK []))
    have h3 := Ex.k e8 (upd_same (H := upd (upd H4 d1 (.dK [])) d2 (.dK [])) (a := d3) (o := .dK []))
    have e48 := e5.trans (e6.trans (e7.trans e8))
    have z8 := z4.ex e48
    have m1 : ¬ S6 f fa d1 := z4.not6 (New.of hd1)
    have m2 : ¬ S6 f fa d2 := z4.not6 (Ex.backN e5 (New.of hd2))
    have m3 : ¬ S6 f fa d3 := z4.not6 (Ex.backN (e5.trans e6) (New.of hd3))
    have S8 : LS K _ q f d1 d2 fa F0 := ⟨z8, fi0, da0, st0, ⟨fun _ => .non, h1, nofun⟩, ⟨fun _ => .non, h2, nofun⟩, m1, m2, DiceAt.ex hq (e4.trans e48), e48.tb⟩
    have hp8 := Ex.k (e4.trans e48) hp
    refine ⟨_, rfl, q, 9, rfl, S8.dc, by omega, by omega, S8.tb, fun r H9 hr c9 d9 => ?_⟩
    refine ⟨_, rfl, by omega, by omega, ?_⟩
    have S9 := S8.roll c9 d9
    refine for_it walk_range (fun i σ H' => Beg K p a q σ H') ?_ ?_ ?_ ?_
    · obtain ⟨x, y, w, hdd⟩ := S8.dc
      exact ⟨c9.k hp8 npq, f, d1, d2, d3, fa, F0, [], S9, c9.k h3 (ne_of h3 hdd nofun), .nil, m3, _, _, _, _, _, _, _, _, _, _, _, _, _, _, _, _, rfl⟩
    · intro _ _ _ _ _; trivial
    · rintro i x σ Ha Hb _ B ⟨rfl, rfl⟩
      exact step_ok npq B fun σ' H' B' => B'
    · rintro σ H' B
      exact ⟨B.1, nofun⟩
  · rintro σ H' _
    exact hQ _
end
end PMT

set_option Elab.async false
set_option linter.all false
set_option maxRecDepth 100000
set_option maxHeartbeats 4000000
/-! U9: the law. -/
namespace PMT
open PySem PySem.Spec PyProof.Rows L2
section
variable {P : Program} {w : World} {K : PySem.W.Frag} {mg : Str → Option Value} {base : Heap}
theorem fo_of {CX : CXT} {x qual : Str} {pr : Arguments} {body : List Stmt} {scope : Scope} {p : Str × Option Str} {N ps : List Str} {k : Nat} {sp : Sp} {fd : FuncData}
    (F : FunD K x qual pr body scope [] [] (He.fAd K p) fd) (S : FnScope N ps scope) (len : ∀ vs H Q E, sp vs H Q E → vs.length = ps.length)
    (hbody : ∀ (A : Around) (outer : List Env) (s : Shared) (H : Hp) (vs : List V) (Q : VK) (E : XK), Room k (A.deeper (envOfC qual scope s.heap.objs.size (He.fAd K p) (.ref (He.codeOf K p)))) → sp vs H Q E →
      ∃ t, PSs (cxOf CX P w K mg base N qual scope (He.fAd K p) (.ref (He.codeOf K p)) A outer s H E) body t ∧ t { nx := fun _ H' => Q .non H', rt := Q } (start N vs) H) : FnOk P w K mg base CX (k + 1) (He.fAd K p) fd ps sp := by
  obtain ⟨oc, od, dV, kV, doc, pm, an, cdv, ct, osl, rfl, lk, hcd, _, _⟩ := F.ex
  obtain ⟨c, rfl⟩ := He.codeIn_ref hcd
  have e : He.codeOf K p = c := He.codeOf_eq lk rfl
  subst e
  exact fn_of lk hcd S len fun A outer s H vs Q E hr hsp => hbody A outer s H vs Q E hr hsp
theorem fo_law (t : TX K mg base) {fd : FuncData} (F : FunD K "law" "law" (defArgs PMH.s_law) (defBody PMH.s_law) (defScope PMH.s_law) [] [] (He.fAd K ("law", none)) fd) : FnOk P w K mg base CX0 11 (He.fAd K ("law", none)) fd ["_law_script"] (spLaw K) := by
  obtain ⟨fd_law_rounds, G_law_rounds, b_law_rounds, p_law_rounds⟩ := ok_law_rounds (P := P) (w := w) t
  obtain ⟨fd_Fair_init, G_Fair_init, b_Fair_init, p_Fair_init⟩ := ok_Fair_init (P := P) (w := w) t
  obtain ⟨fd_law_roll, G_law_roll, b_law_roll, p_law_roll⟩ := ok_law_roll (P := P) (w := w) t
  obtain ⟨fd_law_words, G_law_words, b_law_words, p_law_words⟩ := ok_law_words (P := P) (w := w) t
  obtain ⟨fd_Fair_come, G_Fair_come, b_Fair_come, p_Fair_come⟩ := ok_Fair_come (P := P) (w := w) t
  obtain ⟨fd_Fair_leave, G_Fair_leave, b_Fair_leave, p_Fair_leave⟩ := ok_Fair_leave (P := P) (w := w) t
  obtain ⟨fd_Fair_wish, G_Fair_wish, b_Fair_wish, p_Fair_wish⟩ := ok_Fair_wish (P := P) (w := w) t
  obtain ⟨fd_Fair_open_room, G_Fair_open_room, b_Fair_open_room, p_Fair_open_room⟩ := ok_Fair_open_room (P := P) (w := w) t
  obtain ⟨fd_Fair_shut_room, G_Fair_shut_room, b_Fair_shut_room, p_Fair_shut_room⟩ := ok_Fair_shut_room (P := P) (w := w) t
  obtain ⟨fd_Fair_change_room, G_Fair_change_room, b_Fair_change_room, p_Fair_change_room⟩ := ok_Fair_change_room (P := P) (w := w) t
  obtain ⟨fd_law_due, G_law_due, b_law_due, p_law_due⟩ := ok_law_due (P := P) (w := w) t
  obtain ⟨fd_Fair_match, G_Fair_match, b_Fair_match, p_Fair_match⟩ := ok_Fair_match (P := P) (w := w) t
  obtain ⟨fd_Fair_as_market, G_Fair_as_market, b_Fair_as_market, p_Fair_as_market⟩ := ok_Fair_as_market (P := P) (w := w) t
  obtain ⟨fd_Fair_by_numbers, G_Fair_by_numbers, b_Fair_by_numbers, p_Fair_by_numbers⟩ := ok_Fair_by_numbers (P := P) (w := w) t
  obtain ⟨fd_check_both, G_check_both, b_check_both, p_check_both⟩ := ok_check_both (P := P) (w := w) t
  obtain ⟨fd_both_papers, G_both_papers, b_both_papers, p_both_papers⟩ := ok_both_papers (P := P) (w := w) t
  have nd := (sc_law).nd
  refine fo_of F sc_law (fun vs H Q E h => by obtain ⟨_, _, rfl, _⟩ := h; rfl) fun A outer s H vs Q E hr h => ⟨_, PSs.nox ((pss_cons (ps_for PassesOwn.never rfl (pi_listK K rfl (pe_call G_law_rounds (hr.mono (by decide)) (by rfl) t.g_law_rounds p_law_rounds b_law_rounds .nil pass0 (pa_cons (pv 0) (pa_cons pe_int pa_nil)))) (pg_name (i := 1) nd rfl (Or.inl rfl)) (pss_cons (ps_asg (pe_tup (pa_cons (pe_make0 t.k_Fair G_Fair_init (hr.mono (by decide)) (by rfl) t.g_Fair b_Fair_init .nil pass0) (pa_cons pe_dnewK (pa_cons pe_dnewK (pa_cons pe_dnewK pa_nil))))) (pg_tupK (n := 4) K rfl rfl (pgs_cons (pg_name (i := 3) nd rfl (Or.inr rfl)) (pgs_cons (pg_name (i := 4) nd rfl (Or.inr rfl)) (pgs_cons (pg_name (i := 5) nd rfl (Or.inr rfl)) (pgs_cons (pg_name (i := 6) nd rfl (Or.inr rfl)) pgs_nil)))))) (pss_one (ps_for PassesOwn.never rfl (pi_range1 (by rfl) t.n_range (pa_cons (pe_call G_law_roll (hr.mono (by decide)) (by rfl) t.g_law_roll p_law_roll b_law_roll .nil pass0 (pa_cons (pv 1) (pa_cons pe_int pa_nil))) pa_nil)) (pg_name (i := 2) nd rfl (Or.inl rfl)) (pss_cons (ps_asg (pe_tup (pa_cons (pe_call G_law_roll (hr.mono (by decide)) (by rfl) t.g_law_roll p_law_roll b_law_roll .nil pass0 (pa_cons (pv 1) (pa_cons pe_int pa_nil))) (pa_cons (pe_ix ix_str pe_str (pe_call G_law_roll (hr.mono (by decide)) (by rfl) t.g_law_roll p_law_roll b_law_roll .nil pass0 (pa_cons (pv 1) (pa_cons pe_int pa_nil))) (fun _ _ => rfl)) (pa_cons (pe_ix ix_str pe_str (pe_call G_law_roll (hr.mono (by decide)) (by rfl) t.g_law_roll p_law_roll b_law_roll .nil pass0 (pa_cons (pv 1) (pa_cons pe_int pa_nil))) (fun _ _ => rfl)) pa_nil)))) (pg_tupK (n := 3) K rfl rfl (pgs_cons (pg_name (i := 10) nd rfl (Or.inl rfl)) (pgs_cons (pg_name (i := 11) nd rfl (Or.inr rfl)) (pgs_cons (pg_name (i := 12) nd rfl (Or.inr rfl)) pgs_nil))))) (pss_cons (ps_asg (pe_tup (pa_cons (pe_call G_law_words (hr.mono (by decide)) (by rfl) t.g_law_words p_law_words b_law_words .nil pass0 (pa_cons (pv 1) (pa_cons pe_str pa_nil))) (pa_cons (pe_call G_law_words (hr.mono (by decide)) (by rfl) t.g_law_words p_law_words b_law_words .nil pass0 (pa_cons (pv 1) (pa_cons pe_str pa_nil))) (pa_cons (pe_call G_law_roll (hr.mono (by decide)) (by rfl) t.g_law_roll p_law_roll b_law_roll .nil pass0 (pa_cons (pv 1) (pa_cons pe_int pa_nil))) pa_nil)))) (pg_tupK (n := 3) K rfl rfl (pgs_cons (pg_name (i := 13) nd rfl (Or.inr rfl)) (pgs_cons (pg_name (i := 14) nd rfl (Or.inr rfl)) (pgs_cons (pg_name (i := 15) nd rfl (Or.inr rfl)) pgs_nil))))) (pss_cons (ps_if (pt_cmpR op_lt (pv 10) pe_int (nomark _)) (pss_cons (ps_set (i := 16) nd rfl (Or.inl rfl) (pe_ifExp (pt_cmp (pc_din (hu_of hr) (pv 11) (pv 4))) pe_str pe_str)) (pss_cons (ps_set (i := 17) nd rfl (Or.inl rfl) (pe_told (k := 5) t rfl rfl rfl (by rfl) t.t_law rfl t.tm_law (hr.mono (by decide)) (LamX.lamS_by (sc := defScope PMH.s_law) (by decide +kernel)) rfl (fun _ _ _ _ _ => by rfl) (fun _ _ _ _ _ _ _ hr2 => (pe_meth (pv 3) t.c_Fair t.m_Fair_come G_Fair_come (hr2.mono (by decide)) b_Fair_come .nil (passes_call (takes_of rfl rfl rfl rfl) (fun _ _ _ _ h => h)) (pa_cons (pv 11) (pa_cons (pv 13) pa_nil)))))) (pss_one (ps_set (i := 4) nd rfl (Or.inr rfl) (pe_ifExp (pt_cmp (pc_din (hu_of hr) (pv 11) (pv 4))) (pv 4) (pe_callTy (call_dictPK K rfl rfl) (by rfl) t.n_dict (by decide +kernel) (pa_cons (pe_op op_cat (LiI.pe_listItems (by rfl) (pv 4) (by rfl) t.n_list (by decide +kernel)) (pe_lst (pa_cons (pe_tup (pa_cons (pv 11) (pa_cons (pv 13) pa_nil))) pa_nil))) pa_nil))))))) (pss_one (ps_if (pt_cmpR op_eq (pv 10) pe_int (nomark _)) (pss_cons (ps_set (i := 16) nd rfl (Or.inl rfl) (pe_ifExp (pt_cmp (pc_dnotin (hu_of hr) (pv 11) (pv 4))) pe_str pe_str)) (pss_cons (ps_set (i := 17) nd rfl (Or.inl rfl) (pe_told (k := 6) t rfl rfl rfl (by rfl) t.t_law rfl t.tm_law (hr.mono (by decide)) (LamX.lamS_by (sc := defScope PMH.s_law) (by decide +kernel)) rfl (fun _ _ _ _ _ => by rfl) (fun _ _ _ _ _ _ _ hr2 => (pe_meth (pv 3) t.c_Fair t.m_Fair_leave G_Fair_leave (hr2.mono (by decide)) b_Fair_leave .nil (passes_call (takes_of rfl rfl rfl rfl) (fun _ _ _ _ h => h)) (pa_cons (pv 11) pa_nil))))) (pss_one (ps_set (i := 4) nd rfl (Or.inr rfl) (pe_callTy (call_dictPK K rfl rfl) (by rfl) t.n_dict (by decide +kernel) (pa_cons (pe_lock (pe_lc (X := ((X_law CX0 P w K mg base A outer s H E).nox)) (own := [("_law_each", 20)]) (g := (gName 20)) rfl nd (pi_keys (pv 4)) (blkOk_by (own := [("_law_each", 20)]) (N := ["_law_script", "_law_dice_here", "_law_step", "_law_fair", "_law_askers", "_law_rooms", "_law_before", "_law_after", "_law_names", "_law_moved", "_law_sort", "_law_one", "_law_room", "_law_list_of", "_law_order", "_law_count", "_law_due_here", "_law_told_now", "_law_market", "_law_match", "_law_each", "_law_shut"]) (sc := defScope PMH.s_law) (by decide +kernel)) (fun s1 H1 C1 l1 p1 => (pg_name (i := 20) nd rfl (Or.inl rfl))) (fun s1 H1 C1 l1 p1 => (pts_one (pt_cmpR op_ne (pv 20) (pv 11) (nomark _)))) (fun s1 H1 C1 l1 p1 => (pe_tup (pa_cons (pv 20) (pa_cons (pe_dget (hu_of hr) (pv 4) (pv 20) (fun _ _ => rfl)) pa_nil)))))) pa_nil)))))) (pss_one (ps_if (pt_cmpR op_eq (pv 10) pe_int (nomark _)) (pss_cons (ps_set (i := 16) nd rfl (Or.inl rfl) (pe_ifExp (pt_cmp (pc_dnotin (hu_of hr) (pv 11) (pv 4))) pe_str pe_str)) (pss_cons (ps_set (i := 17) nd rfl (Or.inl rfl) (pe_told (k := 6) t rfl rfl rfl (by rfl) t.t_law rfl t.tm_law (hr.mono (by decide)) (LamX.lamS_by (sc := defScope PMH.s_law) (by decide +kernel)) rfl (fun _ _ _ _ _ => by rfl) (fun _ _ _ _ _ _ _ hr2 => (pe_meth (pv 3) t.c_Fair t.m_Fair_wish G_Fair_wish (hr2.mono (by decide)) b_Fair_wish .nil (passes_call (takes_of rfl rfl rfl rfl) (fun _ _ _ _ h => h)) (pa_cons (pv 11) (pa_cons (pv 13) pa_nil)))))) (pss_one (ps_set (i := 4) nd rfl (Or.inr rfl) (pe_callTy (call_dictPK K rfl rfl) (by rfl) t.n_dict (by decide +kernel) (pa_cons (pe_lock (pe_lc (X := ((X_law CX0 P w K mg base A outer s H E).nox)) (own := [("_law_each", 20)]) (g := (gName 20)) rfl nd (pi_keys (pv 4)) (blkOk_by (own := [("_law_each", 20)]) (N := ["_law_script", "_law_dice_here", "_law_step", "_law_fair", "_law_askers", "_law_rooms", "_law_before", "_law_after", "_law_names", "_law_moved", "_law_sort", "_law_one", "_law_room", "_law_list_of", "_law_order", "_law_count", "_law_due_here", "_law_told_now", "_law_market", "_law_match", "_law_each", "_law_shut"]) (sc := defScope PMH.s_law) (by decide +kernel)) (fun s1 H1 C1 l1 p1 => (pg_name (i := 20) nd rfl (Or.inl rfl))) (fun s1 H1 C1 l1 p1 => pts_nil) (fun s1 H1 C1 l1 p1 => (pe_tup (pa_cons (pv 20) (pa_cons (pe_ifExp (pt_cmpR op_eq (pv 20) (pv 11) (nomark _)) (pv 13) (pe_dget (hu_of hr) (pv 4) (pv 20) (fun _ _ => rfl))) pa_nil)))))) pa_nil)))))) (pss_one (ps_if (pt_cmpR op_lt (pv 10) pe_int (nomark _)) (pss_cons (ps_set (i := 16) nd rfl (Or.inl rfl) (pe_ifExp (pt_cmp (pc_din (hu_of hr) (pv 12) (pv 5))) pe_str pe_str)) (pss_cons (ps_set (i := 17) nd rfl (Or.inl rfl) (pe_told (k := 6) t rfl rfl rfl (by rfl) t.t_law rfl t.tm_law (hr.mono (by decide)) (LamX.lamS_by (sc := defScope PMH.s_law) (by decide +kernel)) rfl (fun _ _ _ _ _ => by rfl) (fun _ _ _ _ _ _ _ hr2 => (pe_meth (pv 3) t.c_Fair t.m_Fair_open_room G_Fair_open_room (hr2.mono (by decide)) b_Fair_open_room .nil (passes_call (takes_of rfl rfl rfl rfl) (fun _ _ _ _ h => h)) (pa_cons (pv 12) (pa_cons (pv 14) (pa_cons (pv 15) pa_nil))))))) (pss_one (ps_set (i := 5) nd rfl (Or.inr rfl) (pe_ifExp (pt_cmp (pc_din (hu_of hr) (pv 12) (pv 5))) (pv 5) (pe_callTy (call_dictPK K rfl rfl) (by rfl) t.n_dict (by decide +kernel) (pa_cons (pe_op op_cat (LiI.pe_listItems (by rfl) (pv 5) (by rfl) t.n_list (by decide +kernel)) (pe_lst (pa_cons (pe_tup (pa_cons (pv 12) (pa_cons (pe_tup (pa_cons (pv 14) (pa_cons (pv 15) pa_nil))) pa_nil))) pa_nil))) pa_nil))))))) (pss_cons (ps_set (i := 16) nd rfl (Or.inl rfl) (pe_ifExp (pt_cmp (pc_dnotin (hu_of hr) (pv 12) (pv 5))) pe_str pe_str)) (pss_cons (ps_set (i := 21) nd rfl (Or.inr rfl) (pe_cmpR op_eq (pv 15) pe_int (nomark _))) (pss_cons (ps_set (i := 17) nd rfl (Or.inl rfl) (pe_told (k := 6) t rfl rfl rfl (by rfl) t.t_law rfl t.tm_law (hr.mono (by decide)) (LamX.lamS_by (sc := defScope PMH.s_law) (by decide +kernel)) rfl (fun _ _ _ _ _ => by rfl) (fun _ _ _ _ _ _ _ hr2 => (pe_ifExp (pt_val (pv 21)) (pe_meth (pv 3) t.c_Fair t.m_Fair_shut_room G_Fair_shut_room (hr2.mono (by decide)) b_Fair_shut_room .nil (passes_call (takes_of rfl rfl rfl rfl) (fun _ _ _ _ h => h)) (pa_cons (pv 12) pa_nil)) (pe_meth (pv 3) t.c_Fair t.m_Fair_change_room G_Fair_change_room (hr2.mono (by decide)) b_Fair_change_room .nil (passes_call (takes_of rfl rfl rfl rfl) (fun _ _ _ _ h => h)) (pa_cons (pv 12) (pa_cons (pv 14) (pa_cons (pv 15) pa_nil)))))))) (pss_one (ps_set (i := 5) nd rfl (Or.inr rfl) (pe_callTy (call_dictPK K rfl rfl) (by rfl) t.n_dict (by decide +kernel) (pa_cons (pe_lock (pe_lc (X := ((X_law CX0 P w K mg base A outer s H E).nox)) (own := [("_law_each", 20)]) (g := (gName 20)) rfl nd (pi_keys (pv 5)) (blkOk_by (own := [("_law_each", 20)]) (N := ["_law_script", "_law_dice_here", "_law_step", "_law_fair", "_law_askers", "_law_rooms", "_law_before", "_law_after", "_law_names", "_law_moved", "_law_sort", "_law_one", "_law_room", "_law_list_of", "_law_order", "_law_count", "_law_due_here", "_law_told_now", "_law_market", "_law_match", "_law_each", "_law_shut"]) (sc := defScope PMH.s_law) (by decide +kernel)) (fun s1 H1 C1 l1 p1 => (pg_name (i := 20) nd rfl (Or.inl rfl))) (fun s1 H1 C1 l1 p1 => (pts_one (PW.pt (pw_or (pt_cmpR op_ne (pv 20) (pv 12) (nomark _)) (pw_or1 (pt_not (pt_val (pv 21)))))))) (fun s1 H1 C1 l1 p1 => (pe_tup (pa_cons (pv 20) (pa_cons (pe_ifExp (pt_cmpR op_eq (pv 20) (pv 12) (nomark _)) (pe_tup (pa_cons (pv 14) (pa_cons (pv 15) pa_nil))) (pe_dget (hu_of hr) (pv 5) (pv 20) (fun _ _ => rfl))) pa_nil)))))) pa_nil)))))))))))))) (pss_cons (ps_set (i := 7) nd rfl (Or.inr rfl) (pe_call G_law_due (hr.mono (by decide)) (by rfl) t.g_law_due p_law_due b_law_due .nil pass0 (pa_cons (pv 4) (pa_cons (pv 5) pa_nil)))) (pss_cons (ps_set (i := 8) nd rfl (Or.inl rfl) (pe_callB (call_sortedD rfl) (by rfl) t.n_sorted (by decide +kernel) (pa_cons (pe_callTy (call_dictPK K rfl rfl) (by rfl) t.n_dict (by decide +kernel) (pa_cons (pe_lc (X := ((X_law CX0 P w K mg base A outer s H E).nox)) (own := [("_law_each", 20)]) (g := (gName 20)) rfl nd (pi_listK K rfl (pe_op op_cat (pe_callTy (call_listD rfl) (by rfl) t.n_list (by decide +kernel) (pa_cons (pv 6) pa_nil)) (pe_callTy (call_listD rfl) (by rfl) t.n_list (by decide +kernel) (pa_cons (pv 7) pa_nil)))) (blkOk_by (own := [("_law_each", 20)]) (N := ["_law_script", "_law_dice_here", "_law_step", "_law_fair", "_law_askers", "_law_rooms", "_law_before", "_law_after", "_law_names", "_law_moved", "_law_sort", "_law_one", "_law_room", "_law_list_of", "_law_order", "_law_count", "_law_due_here", "_law_told_now", "_law_market", "_law_match", "_law_each", "_law_shut"]) (sc := defScope PMH.s_law) (by decide +kernel)) (fun s1 H1 C1 l1 p1 => (pg_name (i := 20) nd rfl (Or.inl rfl))) (fun s1 H1 C1 l1 p1 => pts_nil) (fun s1 H1 C1 l1 p1 => (pe_tup (pa_cons (pv 20) (pa_cons pe_int pa_nil))))) pa_nil)) pa_nil))) (pss_cons (ps_set (i := 9) nd rfl (Or.inl rfl) (pe_callTy (call_tupleK K rfl) (by rfl) t.n_tuple (by decide +kernel) (pa_cons (pe_lc (X := ((X_law CX0 P w K mg base A outer s H E).nox)) (own := [("_law_each", 20)]) (g := (gName 20)) rfl nd (pi_listK K rfl (pv 8)) (blkOk_by (own := [("_law_each", 20)]) (N := ["_law_script", "_law_dice_here", "_law_step", "_law_fair", "_law_askers", "_law_rooms", "_law_before", "_law_after", "_law_names", "_law_moved", "_law_sort", "_law_one", "_law_room", "_law_list_of", "_law_order", "_law_count", "_law_due_here", "_law_told_now", "_law_market", "_law_match", "_law_each", "_law_shut"]) (sc := defScope PMH.s_law) (by decide +kernel)) (fun s1 H1 C1 l1 p1 => (pg_name (i := 20) nd rfl (Or.inl rfl))) (fun s1 H1 C1 l1 p1 => (pts_one (pt_cmpR op_ne (pe_dget2 (hu_of hr) (pv 6) (pv 20) pe_non ⟨by rfl, by rfl, by rfl, by rfl⟩) (pe_dget2 (hu_of hr) (pv 7) (pv 20) pe_non ⟨by rfl, by rfl, by rfl, by rfl⟩) (nomark _)))) (fun s1 H1 C1 l1 p1 => (pe_tup (pa_cons (pv 20) (pa_cons (pe_dget2 (hu_of hr) (pv 6) (pv 20) pe_non ⟨by rfl, by rfl, by rfl, by rfl⟩) (pa_cons (pe_dget2 (hu_of hr) (pv 7) (pv 20) pe_non ⟨by rfl, by rfl, by rfl, by rfl⟩) pa_nil)))))) pa_nil))) (pss_cons (ps_if (PW.pt (pw_or (pt_cmpR (op_neDK K rfl hr.units) (pv 17) (pe_ifExp (pt_cmpR op_ne (pv 16) pe_str (nomark _)) (pv 16) (pv 9)) (nomark _)) (pw_or1 (pt_cmpR (op_neDK K rfl hr.units) (pe_meth0 (pv 3) t.c_Fair t.m_Fair_match G_Fair_match (hr.mono (by decide)) b_Fair_match .nil pass0) (pe_callTy (call_tupleK K rfl) (by rfl) t.n_tuple (by decide +kernel) (pa_cons (pe_lc (X := ((X_law CX0 P w K mg base A outer s H E).nox)) (own := [("_law_each", 20)]) (g := (gName 20)) rfl nd (pi_listK K rfl (pe_callB (call_sortedD rfl) (by rfl) t.n_sorted (by decide +kernel) (pa_cons (pv 7) pa_nil))) (blkOk_by (own := [("_law_each", 20)]) (N := ["_law_script", "_law_dice_here", "_law_step", "_law_fair", "_law_askers", "_law_rooms", "_law_before", "_law_after", "_law_names", "_law_moved", "_law_sort", "_law_one", "_law_room", "_law_list_of", "_law_order", "_law_count", "_law_due_here", "_law_told_now", "_law_market", "_law_match", "_law_each", "_law_shut"]) (sc := defScope PMH.s_law) (by decide +kernel)) (fun s1 H1 C1 l1 p1 => (pg_name (i := 20) nd rfl (Or.inl rfl))) (fun s1 H1 C1 l1 p1 => pts_nil) (fun s1 H1 C1 l1 p1 => (pe_tup (pa_cons (pv 20) (pa_cons (pe_dget (hu_of hr) (pv 7) (pv 20) (fun _ _ => rfl)) pa_nil))))) pa_nil)) (nomark _))))) (pss_one (ps_ret pe_bl)) pss_nil) (pss_cons (ps_par (by rfl) nd (i := 18) (j := 19) rfl rfl (by decide) rfl rfl (pa_cons (pe_meth0 (pv 3) t.c_Fair t.m_Fair_as_market G_Fair_as_market (hr.mono (by decide)) b_Fair_as_market .nil pass0) (pa_cons (pe_meth0 (pv 3) t.c_Fair t.m_Fair_by_numbers G_Fair_by_numbers (hr.mono (by decide)) b_Fair_by_numbers .nil pass0) pa_nil)) (by rfl)) (pss_cons (ps_if (pt_cmpR op_notBl (pe_call G_check_both (hr.mono (by decide)) (by rfl) t.g_check_both p_check_both b_check_both .nil pass0 (pa_cons (pv 18) (pa_cons (pv 19) (pa_cons (pe_call G_both_papers (hr.mono (by decide)) (by rfl) t.g_both_papers p_both_papers b_both_papers .nil pass0 (pa_cons (pv 18) (pa_cons (pv 19) pa_nil))) pa_nil)))) pe_bl (nomark _)) (pss_one (ps_ret pe_bl)) pss_nil) (pss_one (ps_set (i := 6) nd rfl (Or.inr rfl) (pv 7)))))))))))))))) (pss_one (ps_ret pe_bl)))), ?_⟩
  obtain ⟨a, ns, rfl, ha, hT, hQ⟩ := h
  exact law_read ha hT hQ
end
end PMT

set_option Elab.async false
set_option linter.all false
set_option maxRecDepth 100000
set_option maxHeartbeats 0
/-! END: the law at the program. -/
namespace PMT
open PySem PySem.Spec PyProof.Rows L2
theorem tx_of {w : World} {h base : Heap} {K : PySem.W.Frag} {mg : Str → Option Value} (c : He.SaysX PMH.fa PMH.fn [] PMH.tf PMH.exB w h K) (X : K.In base) (G : base.Ns mainGlobals mg) (tb : ∀ p ∈ PMH.tf.map (He.cT K), LamX.TabB base mg p.1 p.2) : TX K mg base where
  fn := fun i d hd => c.t.d.def_ i hd
  fa := fun i f hf => c.t.d.fact i hf
  kin := X
  G := G
  tb := fun p hp => tb _ (List.mem_map.mpr ⟨p, hp, rfl⟩)
  nd := c.more
theorem facts {P : Program} {w : World} {K : PySem.W.Frag} {h : Heap} {mg : Str → Option Value} {f : Addr} (X : K.In h) (G : h.Ns mainGlobals mg) (hfa : mg ("law" : Str) = some (.ref f)) (c : He.SaysX PMH.fa PMH.fn [] PMH.tf PMH.exB w h K) :
    ∃ fd : FuncData, (∀ (s : Shared) (v : Value), BindsTo s fd ⟨[v], []⟩ [("_law_script", v)]) ∧ ∀ base : Heap, K.In base → base.Ns mainGlobals mg → (∀ p ∈ PMH.tf.map (He.cT K), LamX.TabB base mg p.1 p.2) → FnOk P w K mg base CX0 11 f fd ["_law_script"] (spLaw K) := by
  obtain ⟨fd, F⟩ := c.t.d.def_ 59 (d := PMH.d_law) rfl
  have e := hfa.symm.trans (He.glo_ok X G (c.t.d.fact 118 (f := .glo "law") rfl))
  cases e
  have b := FunD.bindsA (ps := ["_law_script"]) F fun _ _ _ _ _ _ us hl => match us, hl with | [_], _ => rfl
  exact ⟨fd, fun s v => b s [v] rfl, fun base KX G' tb => fo_law (tx_of c KX G' tb) F⟩
theorem tabs0 {K : PySem.W.Frag} {H : Hp} (h : ∀ p ∈ PMH.tf.map (He.cT K), H p.2 = some (.tbl #[])) : LamX.Tabs (TL K) H := by
  have k : ∀ p ∈ PMH.tf, H (He.cT K p).2 = some (.tbl #[]) := fun p hp => h _ (List.mem_map.mpr ⟨p, hp, rfl⟩)
  intro z hz
  refine LamX.TabS.nil ?_
  unfold TL at hz
  simp only [List.mem_cons, List.not_mem_nil, or_false] at hz
  rcases hz with rfl | rfl | rfl | rfl | rfl | rfl | rfl | rfl | rfl <;> exact k _ (by unfold PMH.tf; simp)
end PMT
open PySem PySem.W PySem.Calls PyProof.Rows
theorem PySem.Challenge.cw_pairmart_k60_whole_any_days_holds : PySem.Challenge.rw_pairmart_k60_whole_any_days.Holds := by
  w_on; o_law
  refine HandSHeadRun.head_any (r := OpenLaw.row PMH.LW) (q := view (OpenLaw.row PMH.LW).prog [47]) (H := PMH.hk) (ob := PMH.ob) (M := 9000) (loose := PMH.loose) (d := HandSHeadRun.topDef (OpenLaw.row PMH.LW).prog 47) (kwd := []) PMH.ob_eq
    (by kernel_rfl) (fun s => by kernel_rfl) PMH.run (by kernel_rfl) (by kernel_rfl) (by kernel_rfl) (by rfl) (by first | assumption | decide +kernel) (by decide +kernel) ⟨rfl, rfl, rfl, rfl, rfl, by decide +kernel⟩ ?hw ?hc
  case hw => w_witness2
  case hc =>
    refine LamX.walk_ofTsE (l := PMH.LW) (n := 63) (k := 11) (x := "_law_script") (CX := fun _ => L2.CX0) rfl (by decide) (by kernel_rfl) ⟨rfl, by decide, by decide⟩ ?F (fun _ _ _ _ _ z => z)
    intro w mg fa h Y G hmg0
    obtain ⟨K, KX, c⟩ := Y
    have hmg : mg ("law" : PySem.Str) = some (.ref fa) := by
      have e : (HandSHeadRun.topDef (OpenLaw.row PMH.LW).prog 47).name = ("law" : PySem.Str) := by kernel_rfl
      rw [← e]
      exact hmg0
    obtain ⟨fd, hb, hF⟩ := PMT.facts (P := (PMH.LW).prog) (w := w) KX G hmg c
    refine ⟨K, KX, fd, PMH.tf.map (He.cT K), PMT.spLaw K, ?_, ?_, ?_, hb, ?_, hF⟩
    · intro p hp
      obtain ⟨q, hq, rfl⟩ := List.mem_map.mp hp
      exact c.empty q hq
    · intro p hp
      obtain ⟨q, hq, rfl⟩ := List.mem_map.mp hp
      exact c.out q hq
    · intro p hp
      obtain ⟨q, hq, rfl⟩ := List.mem_map.mp hp
      exact PySem.W.codeHd_of_K KX (c.hd q hq)
    · intro H a ns hl _ hE hS
      exact ⟨a, ns, rfl, hS, PMT.tabs0 hE, fun _ => rfl⟩
