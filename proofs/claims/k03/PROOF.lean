import PyProof.Rows.All
import Wide.All
import OpenK.AllK
import Wide.FinOn
import HandS.ForMost
import HandS.Slots
import HandS.SlotsOwn
import HandS.IsInst
import HandS.Evl
import HandS.Strs
import HandS.SetFor
import HandS.ClsMeth
import HandS.Star
import HandS.SortKw
import KE.SortKeyHeap
import HandS.Defaults
import HandS.MakeKwOnly
import HandS.Style
import HandS.Wide
import PySem.Challenge.RW_keptbase_k03_whole_pieces_and_samples
import HandS.Zip
import HandS.DeepEq
set_option Elab.async false
set_option linter.all false
set_option maxRecDepth 100000
set_option maxHeartbeats 4000000
set_option autoImplicit false
/-! K3: the plain mathematics of spans, pieces and members (no program in sight). -/
namespace K3

/-- a stretch: its ends, none for no end -/
abbrev Sx := Option Int × Option Int
def geL (l : Option Int) (x : Int) : Bool := match l with
  | none => true
  | some l => decide (l ≤ x)
def leH (h : Option Int) (x : Int) : Bool := match h with
  | none => true
  | some h => decide (x ≤ h)
def inS (p : Sx) (x : Int) : Bool := geL p.1 x && leH p.2 x
def inL (ps : List Sx) (x : Int) : Bool := ps.any fun p => inS p x
def okS (p : Sx) : Prop := ∀ l h, p.1 = some l → p.2 = some h → l ≤ h
theorem inS_iff (l h : Option Int) (x : Int) : inS (l, h) x = true ↔ (∀ a, l = some a → a ≤ x) ∧ (∀ a, h = some a → x ≤ a) := by
  unfold inS geL leH
  cases l <;> cases h <;> simp
theorem inL_nil (x : Int) : inL [] x = false := rfl
theorem inL_cons (p : Sx) (r : List Sx) (x : Int) : inL (p :: r) x = (inS p x || inL r x) := rfl
theorem inL_perm {ps qs : List Sx} (h : ps.Perm qs) (x : Int) : inL ps x = inL qs x := by
  rw [Bool.eq_iff_iff]
  unfold inL
  rw [List.any_eq_true, List.any_eq_true]
  constructor
  · rintro ⟨p, hp, e⟩
    exact ⟨p, h.mem_iff.mp hp, e⟩
  · rintro ⟨p, hp, e⟩
    exact ⟨p, h.mem_iff.mpr hp, e⟩

/-! ### the normal form -/
def touch (e l : Option Int) : Bool := match e, l with
  | some e, some l => decide (l ≤ e + 1)
  | _, _ => true
def maxE (a b : Option Int) : Option Int := match a, b with
  | some a, some b => some (if b > a then b else a)
  | _, _ => none
def mgo (q : Sx) : List Sx → List Sx
  | [] => [q]
  | p :: r => if touch q.2 p.1 = true then mgo (q.1, maxE q.2 p.2) r else q :: mgo p r
def mergeL : List Sx → List Sx
  | [] => []
  | p :: r => mgo p r
def lowLe (a b : Option Int) : Bool := match a, b with
  | none, _ => true
  | some _, none => false
  | some a, some b => decide (a ≤ b)
def NF : List Sx → Prop
  | [] => True
  | [p] => okS p
  | p :: q :: r => okS p ∧ (∃ a b, p.2 = some a ∧ q.1 = some b ∧ a + 1 < b) ∧ NF (q :: r)
theorem NF.head {p : Sx} {r : List Sx} (h : NF (p :: r)) : okS p := by
  cases r with
  | nil => exact h
  | cons q r => exact h.1
theorem NF.tail {p : Sx} {r : List Sx} (h : NF (p :: r)) : NF r := by
  cases r with
  | nil => trivial
  | cons q r => exact h.2.2
theorem NF.all : ∀ {ps : List Sx}, NF ps → ∀ p ∈ ps, okS p
  | [], _, _, h => by cases h
  | p :: r, h, q, hq => by
    rcases List.mem_cons.mp hq with e | e
    · rw [e]; exact h.head
    · exact NF.all h.tail q e
/-- what is behind the first stretch lies beyond its end -/
theorem NF.beyond : ∀ {r : List Sx} {p : Sx}, NF (p :: r) → ∀ q ∈ r, ∃ a b, p.2 = some a ∧ q.1 = some b ∧ a + 1 < b
  | [], _, _, _, h => by cases h
  | q :: r, p, h, t, ht => by
    obtain ⟨a, b, e1, e2, hab⟩ := h.2.1
    rcases List.mem_cons.mp ht with e | e
    · rw [e]; exact ⟨a, b, e1, e2, hab⟩
    · obtain ⟨c, d, e3, e4, hcd⟩ := NF.beyond h.2.2 t e
      have := h.2.2.head b c e2 e3
      exact ⟨a, d, e1, e4, by omega⟩
theorem merge_two {l1 h1 l2 h2 : Option Int} (ho : okS (l1, h1)) (ho2 : okS (l2, h2)) (hl : lowLe l1 l2 = true) (ht : touch h1 l2 = true) : okS (l1, maxE h1 h2) ∧ ∀ x, inS (l1, maxE h1 h2) x = (inS (l1, h1) x || inS (l2, h2) x) := by
  constructor
  · intro a b ea eb
    cases h1 with
    | none => cases h2 <;> cases eb
    | some h1 => cases h2 with
      | none => cases eb
      | some h2 =>
        have := ho a h1 ea rfl
        have eb' : (if h2 > h1 then h2 else h1) = b := Option.some.inj eb
        split at eb' <;> omega
  · intro x
    rw [Bool.eq_iff_iff, Bool.or_eq_true]
    unfold inS geL leH
    cases l1 <;> cases l2 <;> cases h1 <;> cases h2 <;> simp [maxE, lowLe, touch] at hl ht ⊢
    all_goals
      try have q1 := ho _ _ rfl rfl
      try have q2 := ho2 _ _ rfl rfl
      try split
      all_goals omega
theorem mgo_ok : ∀ (r : List Sx) (q : Sx), okS q → (∀ p ∈ r, okS p) → (∀ p ∈ r, lowLe q.1 p.1 = true) → r.Pairwise (fun a b => lowLe a.1 b.1 = true) →
    ∃ hd tl, mgo q r = hd :: tl ∧ hd.1 = q.1 ∧ NF (hd :: tl) ∧ ∀ x, inL (hd :: tl) x = inL (q :: r) x
  | [], q, ho, _, _, _ => ⟨q, [], rfl, rfl, ho, fun _ => rfl⟩
  | p :: r, q, ho, hr, hl, hp => by
    obtain ⟨hp1, hp2⟩ := List.pairwise_cons.mp hp
    unfold mgo
    by_cases ht : touch q.2 p.1 = true
    · rw [if_pos ht]
      obtain ⟨m1, m2⟩ := merge_two (l1 := q.1) (h1 := q.2) (l2 := p.1) (h2 := p.2) ho (hr p List.mem_cons_self) (hl p List.mem_cons_self) ht
      obtain ⟨hd, tl, e1, e2, e3, e4⟩ := mgo_ok r (q.1, maxE q.2 p.2) m1 (fun t h => hr t (List.mem_cons_of_mem _ h)) (fun t h => hl t (List.mem_cons_of_mem _ h)) hp2
      refine ⟨hd, tl, e1, e2, e3, fun x => ?_⟩
      rw [e4 x, inL_cons, inL_cons, inL_cons, m2 x, Bool.or_assoc]
    · rw [if_neg ht]
      obtain ⟨hd, tl, e1, e2, e3, e4⟩ := mgo_ok r p (hr p List.mem_cons_self) (fun t h => hr t (List.mem_cons_of_mem _ h)) hp1 hp2
      refine ⟨q, hd :: tl, by rw [e1], rfl, ⟨ho, ?_, e3⟩, fun x => ?_⟩
      · rw [e2]
        cases h1 : q.2 with
        | none => exact absurd (by rw [h1]; rfl) ht
        | some a => cases h2 : p.1 with
          | none => exact absurd (by rw [h1, h2]; rfl) ht
          | some b =>
            refine ⟨a, b, rfl, rfl, ?_⟩
            have : ¬ (b ≤ a + 1) := fun z => ht (by rw [h1, h2]; exact decide_eq_true z)
            omega
      · rw [inL_cons, e4 x, inL_cons q]
theorem mergeL_ok {qs : List Sx} (ho : ∀ p ∈ qs, okS p) (hp : qs.Pairwise (fun a b => lowLe a.1 b.1 = true)) : NF (mergeL qs) ∧ ∀ x, inL (mergeL qs) x = inL qs x := by
  cases qs with
  | nil => exact ⟨trivial, fun _ => rfl⟩
  | cons p r =>
    obtain ⟨h1, h2⟩ := List.pairwise_cons.mp hp
    obtain ⟨hd, tl, e1, _, e3, e4⟩ := mgo_ok r p (ho p List.mem_cons_self) (fun t h => ho t (List.mem_cons_of_mem _ h)) h1 h2
    show NF (mgo p r) ∧ ∀ x, inL (mgo p r) x = _
    rw [e1]
    exact ⟨e3, e4⟩
theorem lowLe_trans (a b c : Option Int) (h1 : lowLe a b = true) (h2 : lowLe b c = true) : lowLe a c = true := by
  cases a <;> cases b <;> cases c <;> simp [lowLe] at h1 h2 ⊢
  omega
theorem lowLe_total (a b : Option Int) : (lowLe a b || lowLe b a) = true := by
  cases a <;> cases b <;> simp [lowLe]
  omega
/-- the normal form of stretches in any order -/
def sortL (ps : List Sx) : List Sx := ps.mergeSort fun a b => lowLe a.1 b.1
def normal (ps : List Sx) : List Sx := mergeL (sortL ps)
theorem sortL_perm (ps : List Sx) : (sortL ps).Perm ps := List.mergeSort_perm _ _
theorem sortL_sorted (ps : List Sx) : (sortL ps).Pairwise (fun a b => lowLe a.1 b.1 = true) :=
  List.pairwise_mergeSort (le := fun a b : Sx => lowLe a.1 b.1) (fun a b c => lowLe_trans a.1 b.1 c.1) (fun a b => lowLe_total a.1 b.1) ps
theorem normal_ok {ps : List Sx} (ho : ∀ p ∈ ps, okS p) : NF (normal ps) ∧ ∀ x, inL (normal ps) x = inL ps x := by
  obtain ⟨h1, h2⟩ := mergeL_ok (qs := sortL ps) (fun p hp => ho p ((sortL_perm ps).mem_iff.mp hp)) (sortL_sorted ps)
  exact ⟨h1, fun x => (h2 x).trans (inL_perm (sortL_perm ps) x)⟩
theorem mgo_len : ∀ (r : List Sx) (q : Sx), (mgo q r).length ≤ r.length + 1
  | [], _ => Nat.le_refl _
  | p :: r, q => by
    unfold mgo
    split
    · have := mgo_len r (q.1, maxE q.2 p.2)
      simp only [List.length_cons]; omega
    · have := mgo_len r p
      simp only [List.length_cons]; omega
theorem normal_len (ps : List Sx) : (normal ps).length ≤ ps.length := by
  have e : (sortL ps).length = ps.length := (sortL_perm ps).length_eq
  unfold normal
  rw [← e]
  cases sortL ps with
  | nil => exact Nat.le_refl _
  | cons p r => exact mgo_len r p
theorem normal_one (p : Sx) : normal [p] = [p] := by
  have h := sortL_perm [p]
  have e : sortL [p] = [p] := List.perm_singleton.mp h
  unfold normal
  rw [e]
  rfl
theorem normal_nil : normal [] = [] := by
  have e : sortL [] = [] := List.perm_nil.mp (sortL_perm [])
  unfold normal
  rw [e]
  rfl

/-! ### where stretches begin -/
def startsOf (ps : List Sx) : List Int := ps.flatMap fun p => p.1.toList ++ (p.2.map (· + 1)).toList
theorem mem_starts {ps : List Sx} {x : Int} : x ∈ startsOf ps ↔ ∃ p ∈ ps, p.1 = some x ∨ p.2 = some (x - 1) := by
  unfold startsOf
  rw [List.mem_flatMap]
  constructor
  · rintro ⟨p, hp, h⟩
    refine ⟨p, hp, ?_⟩
    rcases List.mem_append.mp h with h | h
    · exact .inl (Option.mem_toList.mp h)
    · have h2 := Option.mem_toList.mp h
      cases e : p.2 with
      | none => rw [e] at h2; cases h2
      | some b =>
        rw [e] at h2
        have : b + 1 = x := Option.some.inj h2
        right
        rw [show b = x - 1 by omega]
  · rintro ⟨p, hp, h⟩
    refine ⟨p, hp, List.mem_append.mpr ?_⟩
    rcases h with h | h
    · exact .inl (Option.mem_toList.mpr h)
    · refine .inr (Option.mem_toList.mpr ?_)
      rw [h]
      show some (x - 1 + 1) = some x
      rw [Int.sub_add_cancel]
theorem starts_len (ps : List Sx) : (startsOf ps).length ≤ 2 * ps.length := by
  induction ps with
  | nil => exact Nat.le_refl _
  | cons p r ih =>
    have e : startsOf (p :: r) = (p.1.toList ++ (p.2.map (· + 1)).toList) ++ startsOf r := rfl
    rw [e, List.length_append, List.length_append, List.length_cons]
    have h1 : p.1.toList.length ≤ 1 := by cases p.1 <;> simp
    have h2 : (p.2.map (· + 1)).toList.length ≤ 1 := by cases p.2 <;> simp
    omega
/-- every change is a start -/
theorem change_start {ps : List Sx} {x : Int} (h : inL ps x ≠ inL ps (x - 1)) : x ∈ startsOf ps := by
  rw [mem_starts]
  have : ∃ p ∈ ps, inS p x ≠ inS p (x - 1) := by
    apply Classical.byContradiction
    intro hn
    apply h
    unfold inL
    rw [Bool.eq_iff_iff, List.any_eq_true, List.any_eq_true]
    have hall : ∀ p ∈ ps, inS p x = inS p (x - 1) := fun p hp => Classical.byContradiction fun z => hn ⟨p, hp, z⟩
    constructor
    · rintro ⟨p, hp, e⟩
      exact ⟨p, hp, by rw [← hall p hp]; exact e⟩
    · rintro ⟨p, hp, e⟩
      exact ⟨p, hp, by rw [hall p hp]; exact e⟩
  obtain ⟨⟨l, h'⟩, hp, hne⟩ := this
  refine ⟨_, hp, ?_⟩
  revert hne
  unfold inS geL leH
  cases l with
  | none => cases h' with
    | none => intro z; exact absurd rfl z
    | some b =>
      intro z
      right
      show some b = some (x - 1)
      by_cases e : b = x - 1
      · rw [e]
      · refine absurd ?_ z
        simp
        omega
  | some a => cases h' with
    | none =>
      intro z
      left
      show some a = some x
      by_cases e : a = x
      · rw [e]
      · refine absurd ?_ z
        simp
        omega
    | some b =>
      intro z
      show some a = some x ∨ some b = some (x - 1)
      by_cases e : a = x
      · left; rw [e]
      · by_cases e2 : b = x - 1
        · right; rw [e2]
        · refine absurd ?_ z
          simp
          rw [Bool.eq_iff_iff]
          simp
          omega
/-- in a normal form every start is a change -/
theorem start_change : ∀ {ps : List Sx}, NF ps → ∀ {x : Int}, x ∈ startsOf ps → inL ps x ≠ inL ps (x - 1)
  | [], _, x, h => by rw [mem_starts] at h; obtain ⟨_, z, _⟩ := h; cases z
  | p :: r, h, x, hx => by
    have hb := h.beyond
    have far : ∀ y, inL r y = true → ∃ a, p.2 = some a ∧ a + 1 < y := by
      intro y hy
      unfold inL at hy
      rw [List.any_eq_true] at hy
      obtain ⟨⟨l, q⟩, hq, e⟩ := hy
      obtain ⟨a, b, e1, e2, hab⟩ := hb _ hq
      refine ⟨a, e1, ?_⟩
      have := ((inS_iff l q y).mp e).1 b e2
      omega
    rw [mem_starts] at hx
    obtain ⟨q, hq, hor⟩ := hx
    rw [inL_cons, inL_cons]
    rcases List.mem_cons.mp hq with e | e
    · subst e
      obtain ⟨l, u⟩ := q
      have ho := h.head
      have hf : inL r x = false := by
        cases e : inL r x with
        | false => rfl
        | true =>
          obtain ⟨a, e1, ha⟩ := far x e
          rcases hor with z | z
          · have := ho x a z e1; omega
          · have z' : u = some (x - 1) := z
            have e1' : u = some a := e1
            rw [z'] at e1'
            have := Option.some.inj e1'
            omega
      have hf2 : inL r (x - 1) = false := by
        cases e : inL r (x - 1) with
        | false => rfl
        | true =>
          obtain ⟨a, e1, ha⟩ := far (x - 1) e
          rcases hor with z | z
          · have := ho x a z e1; omega
          · have z' : u = some (x - 1) := z
            have e1' : u = some a := e1
            rw [z'] at e1'
            have := Option.some.inj e1'
            omega
      rw [hf, hf2, Bool.or_false, Bool.or_false]
      rcases hor with z | z
      · have z' : l = some x := z
        subst z'
        have h1 : inS (some x, u) x = true := by
          rw [inS_iff]
          refine ⟨fun a e => ?_, fun a e => ho x a rfl e⟩
          have := Option.some.inj e
          omega
        have h2 : inS (some x, u) (x - 1) = false := by
          cases e : inS (some x, u) (x - 1) with
          | false => rfl
          | true =>
            have := ((inS_iff _ _ _).mp e).1 x rfl
            omega
        rw [h1, h2]
        decide
      · have z' : u = some (x - 1) := z
        subst z'
        have h1 : inS (l, some (x - 1)) (x - 1) = true := by
          rw [inS_iff]
          refine ⟨fun a e => ho a (x - 1) e rfl, fun a e => ?_⟩
          have := Option.some.inj e
          omega
        have h2 : inS (l, some (x - 1)) x = false := by
          cases e : inS (l, some (x - 1)) x with
          | false => rfl
          | true =>
            have := ((inS_iff _ _ _).mp e).2 (x - 1) rfl
            omega
        rw [h1, h2]
        decide
    · have ih := start_change h.tail (x := x) (mem_starts.mpr ⟨q, e, hor⟩)
      obtain ⟨a, b, e1, e2, hab⟩ := hb q e
      have hlow : a + 1 < x := by
        rcases hor with z | z
        · rw [e2] at z
          have := Option.some.inj z
          omega
        · have := (h.tail.all q e) b (x - 1) e2 z
          omega
      obtain ⟨l, u⟩ := p
      have e1' : u = some a := e1
      subst e1'
      have h1 : ∀ y, a < y → inS (l, some a) y = false := fun y hy => by
        cases e : inS (l, some a) y with
        | false => rfl
        | true =>
          have := ((inS_iff _ _ _).mp e).2 a rfl
          omega
      rw [h1 x (by omega), h1 (x - 1) (by omega), Bool.false_or, Bool.false_or]
      exact ih

/-! ### sorted lists of numbers -/
theorem asc_unique : ∀ {xs ys : List Int}, xs.Pairwise (· < ·) → ys.Pairwise (· < ·) → (∀ x, x ∈ xs ↔ x ∈ ys) → xs = ys
  | [], [], _, _, _ => rfl
  | [], y :: _, _, _, h => by have := (h y).mpr List.mem_cons_self; cases this
  | x :: _, [], _, _, h => by have := (h x).mp List.mem_cons_self; cases this
  | x :: xs, y :: ys, h1, h2, h => by
    obtain ⟨a1, a2⟩ := List.pairwise_cons.mp h1
    obtain ⟨b1, b2⟩ := List.pairwise_cons.mp h2
    have e : x = y := by
      rcases List.mem_cons.mp ((h x).mp List.mem_cons_self) with e | e
      · exact e
      · rcases List.mem_cons.mp ((h y).mpr List.mem_cons_self) with e2 | e2
        · exact e2.symm
        · have := b1 x e
          have := a1 y e2
          omega
    subst e
    congr 1
    refine asc_unique a2 b2 fun z => ?_
    constructor
    · intro hz
      rcases List.mem_cons.mp ((h z).mp (List.mem_cons_of_mem _ hz)) with e | e
      · have := a1 z hz; omega
      · exact e
    · intro hz
      rcases List.mem_cons.mp ((h z).mpr (List.mem_cons_of_mem _ hz)) with e | e
      · have := b1 z hz; omega
      · exact e
/-! ### runs -/
section
variable {β : Type} [DecidableEq β]
/-- from a low end on, the stretches between the starts -/
def segsFrom (lo : Option Int) : List Int → List Sx
  | [] => [(lo, none)]
  | s :: r => (lo, some (s - 1)) :: segsFrom (some s) r
theorem segs_len : ∀ (S : List Int) (lo : Option Int), (segsFrom lo S).length = S.length + 1
  | [], _ => rfl
  | s :: r, lo => by
    show (segsFrom (some s) r).length + 1 = _
    rw [segs_len r]
    rfl
/-- the k-th of them -/
def segAt (S : List Int) (k : Nat) : Sx := (if k = 0 then none else S[k - 1]?, S[k]?.map (· - 1))
theorem segs_get : ∀ (S : List Int) (lo : Option Int) (k : Nat), k ≤ S.length → (segsFrom lo S)[k]? = some (if k = 0 then lo else S[k - 1]?, S[k]?.map (· - 1))
  | [], lo, k, h => by
    have : k = 0 := by simpa using h
    subst this
    rfl
  | s :: r, lo, 0, _ => rfl
  | s :: r, lo, k + 1, h => by
    have ih := segs_get r (some s) k (by simpa using h)
    show (segsFrom (some s) r)[k]? = _
    rw [ih]
    cases k with
    | zero => rfl
    | succ k => rfl
theorem segs_at (S : List Int) (k : Nat) (h : k ≤ S.length) : (segsFrom none S)[k]? = some (segAt S k) := segs_get S none k h

/-- a stretch with what it is told -/
abbrev It (β : Type) := Option Int × Option Int × β
def pick (f : Int → Bool × β) (r : Sx → Int) (p : Sx) : Option (It β) := if (f (r p)).1 = true then some (p.1, p.2, (f (r p)).2) else none
def lawStep (f : Int → Bool × β) (r : Sx → Int) (acc : List (It β)) (p : Sx) : List (It β) :=
  if (f (r p)).1 = true then
    match acc.getLast? with
    | some q => if p.1.isSome = true ∧ q.2.1 = p.1.map (· - 1) ∧ q.2.2 = (f (r p)).2 then acc.dropLast ++ [(q.1, p.2, (f (r p)).2)] else acc ++ [(p.1, p.2, (f (r p)).2)]
    | none => acc ++ [(p.1, p.2, (f (r p)).2)]
  else acc
theorem step_snoc (f : Int → Bool × β) (r : Sx → Int) (base : List (It β)) (q : It β) (p : Sx) (hf : (f (r p)).1 = true) :
    lawStep f r (base ++ [q]) p = if p.1.isSome = true ∧ q.2.1 = p.1.map (· - 1) ∧ q.2.2 = (f (r p)).2 then base ++ [(q.1, p.2, (f (r p)).2)] else (base ++ [q]) ++ [(p.1, p.2, (f (r p)).2)] := by
  unfold lawStep
  rw [if_pos hf, List.getLast?_concat]
  show (if _ then (base ++ [q]).dropLast ++ _ else _) = _
  rw [List.dropLast_concat]

theorem const_up (f : Int → Bool × β) (a : Int) : ∀ (n : Nat), (∀ z, a < z → z ≤ a + n → f z = f (z - 1)) → f (a + n) = f a
  | 0, _ => by simp
  | n + 1, h => by
    have h1 := h (a + ((n + 1 : Nat) : Int)) (by omega) (Int.le_refl _)
    rw [h1, show a + ((n + 1 : Nat) : Int) - 1 = a + (n : Int) by omega]
    exact const_up f a n fun z z1 z2 => h z z1 (by omega)
theorem const_le (f : Int → Bool × β) {a b : Int} (hab : a ≤ b) (h : ∀ z, a < z → z ≤ b → f z = f (z - 1)) : f b = f a := by
  have e : b = a + ((b - a).toNat : Int) := by omega
  rw [e]
  exact const_up f a _ fun z z1 z2 => h z z1 (by omega)

/-- the last told one ends below the run's low end, and is of another kind where it touches -/
def Apart (base : List (It β)) (lo : Option Int) (v : Bool × β) : Prop := ∀ q, base.getLast? = some q → ∃ a t, lo = some a ∧ q.2.1 = some t ∧ t < a ∧ (t + 1 = a → v.1 = true → q.2.2 ≠ v.2)
def part (lo' : Option Int) (lo : Option Int) (v : Bool × β) : List (It β) := if lo' = lo then [] else if v.1 = true then [(lo', lo.map (· - 1), v.2)] else []
theorem runs_go (f : Int → Bool × β) (r1 r2 : Sx → Int) (hr1 : ∀ p, okS p → inS p (r1 p) = true) (hr2 : ∀ p, okS p → inS p (r2 p) = true) :
    ∀ (S : List Int) (lo' lo : Option Int) (v : Bool × β) (base : List (It β)),
      S.Pairwise (· < ·) → (∀ s ∈ S, ∀ a, lo = some a → a < s) → (lo' = lo ∨ ∃ b, lo = some b ∧ ∀ a, lo' = some a → a < b) →
      (∀ x, (∀ a, lo' = some a → a ≤ x) → (∀ s ∈ S, x < s) → f x = v) →
      (∀ x, (∀ a, lo' = some a → a < x) → f x ≠ f (x - 1) → x ∈ S) →
      Apart base lo' v →
      (segsFrom lo S).foldl (lawStep f r1) (base ++ part lo' lo v) = base ++ (segsFrom lo' (S.filter fun x => decide (f x ≠ f (x - 1)))).filterMap (pick f r2) := by
  intro S
  induction S with
  | nil =>
    intro lo' lo v base _ _ hlo hv _ hap
    show lawStep f r1 (base ++ part lo' lo v) (lo, none) = base ++ ([(lo', none)].filterMap (pick f r2))
    have ok1 : okS (lo, none) := fun _ _ _ e => nomatch e
    have ok2 : okS (lo', none) := fun _ _ _ e => nomatch e
    have lole : ∀ a, lo' = some a → ∀ x, inS (lo, none) x = true → a ≤ x := fun a e x hx => by
      have hx' := ((inS_iff _ _ _).mp hx).1
      rcases hlo with z | ⟨b, z1, z2⟩
      · exact hx' a (by rw [← z]; exact e)
      · have := hx' b z1
        have := z2 a e
        omega
    have e1 : f (r1 (lo, none)) = v := hv _ (fun a e => lole a e _ (hr1 _ ok1)) (fun s h => nomatch h)
    have e2 : f (r2 (lo', none)) = v := hv _ (fun a e => ((inS_iff _ _ _).mp (hr2 _ ok2)).1 a e) (fun s h => nomatch h)
    rw [List.filterMap_cons, List.filterMap_nil]
    unfold pick
    rw [e2]
    cases hd : v.1 with
    | false =>
      have hp : part lo' lo v = [] := by unfold part; rw [hd]; split <;> rfl
      rw [hp, List.append_nil]
      unfold lawStep
      rw [e1, hd]
      simp
    | true =>
      by_cases hq : lo' = lo
      · have hp : part lo' lo v = [] := by unfold part; rw [if_pos hq]
        rw [hp, List.append_nil]
        unfold lawStep
        rw [e1, hd, if_pos rfl]
        subst hq
        cases hb : base.getLast? with
        | none => simp
        | some q =>
          obtain ⟨a, t, ea, et, hta, hne⟩ := hap q hb
          show (if _ then _ else _) = _
          rw [if_neg]
          · simp
          · rintro ⟨_, z2, z3⟩
            rw [et, ea] at z2
            have z2' : t = a - 1 := Option.some.inj z2
            exact hne (by omega) hd z3
      · have hp : part lo' lo v = [(lo', lo.map (· - 1), v.2)] := by unfold part; rw [if_neg hq, if_pos hd]
        rw [hp, step_snoc _ _ _ _ _ (by rw [e1]; exact hd), e1, if_pos]
        · simp
        · rcases hlo with z | ⟨b, z1, _⟩
          · exact absurd z hq
          · rw [z1]
            exact ⟨rfl, rfl, rfl⟩
  | cons s r ih =>
    intro lo' lo v base hS hgt hlo hv hch hap
    obtain ⟨hs1, hs2⟩ := List.pairwise_cons.mp hS
    show (segsFrom (some s) r).foldl (lawStep f r1) (lawStep f r1 (base ++ part lo' lo v) (lo, some (s - 1))) = _
    have los : ∀ a, lo = some a → a < s := fun a e => hgt s List.mem_cons_self a e
    have lo's : ∀ a, lo' = some a → a < s := fun a e => by
      rcases hlo with z | ⟨b, z1, z2⟩
      · exact los a (by rw [← z]; exact e)
      · have := z2 a e
        have := los b z1
        omega
    have ok1 : okS (lo, some (s - 1)) := fun a b ea eb => by
      have := los a ea
      have := Option.some.inj eb
      omega
    have ok2 : okS (lo', some (s - 1)) := fun a b ea eb => by
      have := lo's a ea
      have := Option.some.inj eb
      omega
    have lole : ∀ a, lo' = some a → ∀ x, inS (lo, some (s - 1)) x = true → a ≤ x := fun a e x hx => by
      have hx' := ((inS_iff _ _ _).mp hx).1
      rcases hlo with z | ⟨b, z1, z2⟩
      · exact hx' a (by rw [← z]; exact e)
      · have := hx' b z1
        have := z2 a e
        omega
    have below : ∀ x, x ≤ s - 1 → ∀ t ∈ s :: r, x < t := fun x hx t ht => by
      rcases List.mem_cons.mp ht with e | e
      · omega
      · have := hs1 t e
        omega
    have e1 : f (r1 (lo, some (s - 1))) = v := hv _ (fun a e => lole a e _ (hr1 _ ok1)) (below _ (((inS_iff _ _ _).mp (hr1 _ ok1)).2 _ rfl))
    have e2 : f (r2 (lo', some (s - 1))) = v := hv _ (fun a e => ((inS_iff _ _ _).mp (hr2 _ ok2)).1 a e) (below _ (((inS_iff _ _ _).mp (hr2 _ ok2)).2 _ rfl))
    have efv : f (s - 1) = v := hv _ (fun a e => by have := lo's a e; omega) (below _ (Int.le_refl _))
    -- the step over the first stretch
    have hstep : lawStep f r1 (base ++ part lo' lo v) (lo, some (s - 1)) = base ++ (if v.1 = true then [(lo', some (s - 1), v.2)] else []) := by
      cases hd : v.1 with
      | false =>
        have hp : part lo' lo v = [] := by unfold part; rw [hd]; split <;> rfl
        rw [hp, List.append_nil]
        unfold lawStep
        rw [e1, hd]
        simp
      | true =>
        rw [if_pos rfl]
        by_cases hq : lo' = lo
        · have hp : part lo' lo v = [] := by unfold part; rw [if_pos hq]
          rw [hp, List.append_nil]
          unfold lawStep
          rw [e1, hd, if_pos rfl]
          subst hq
          cases hb : base.getLast? with
          | none => rfl
          | some q =>
            obtain ⟨a, t, ea, et, hta, hne⟩ := hap q hb
            show (if _ then _ else _) = _
            rw [if_neg]
            rintro ⟨_, z2, z3⟩
            rw [et, ea] at z2
            have z2' : t = a - 1 := Option.some.inj z2
            exact hne (by omega) hd z3
        · have hp : part lo' lo v = [(lo', lo.map (· - 1), v.2)] := by unfold part; rw [if_neg hq, if_pos hd]
          rw [hp, step_snoc _ _ _ _ _ (by rw [e1]; exact hd), e1, if_pos]
          rcases hlo with z | ⟨b, z1, _⟩
          · exact absurd z hq
          · rw [z1]
            exact ⟨rfl, rfl, rfl⟩
    rw [hstep, List.filter_cons]
    by_cases hc : f s ≠ f (s - 1)
    · rw [if_pos (decide_eq_true hc)]
      show _ = base ++ ((lo', some (s - 1)) :: segsFrom (some s) _).filterMap (pick f r2)
      rw [List.filterMap_cons]
      have hpick : pick f r2 (lo', some (s - 1)) = if v.1 = true then some (lo', some (s - 1), v.2) else none := by
        unfold pick
        rw [e2]
      have key := ih (some s) (some s) (f s) (base ++ (if v.1 = true then [(lo', some (s - 1), v.2)] else [])) hs2 (fun t ht a e => by rw [← Option.some.inj e]; exact hs1 t ht) (.inl rfl)
        (fun x hx1 hx2 => const_le f (hx1 s rfl) fun z z1 z2 => Classical.byContradiction fun hn => by
          have hz := hch z (fun a e => by have := lo's a e; omega) hn
          rcases List.mem_cons.mp hz with e | e
          · omega
          · have := hx2 z e
            omega)
        (fun x hx hn => by
          have hz := hch x (fun a e => by have := lo's a e; have := hx s rfl; omega) hn
          rcases List.mem_cons.mp hz with e | e
          · have := hx s rfl; omega
          · exact e)
        (fun q hq => by
          cases hd : v.1 with
          | true =>
            rw [hd, if_pos rfl, List.getLast?_concat] at hq
            have hq' := Option.some.inj hq
            subst hq'
            refine ⟨s, s - 1, rfl, rfl, by omega, fun _ h1 h2 => hc ?_⟩
            rw [efv]
            exact Prod.ext (h1.trans hd.symm) h2.symm
          | false =>
            rw [hd] at hq
            simp at hq
            obtain ⟨a, t, ea, et, hta, _⟩ := hap q hq
            have := lo's a ea
            exact ⟨s, t, rfl, et, by omega, fun z => by omega⟩)
      have hp : part (some s) (some s) (f s) = [] := by unfold part; rw [if_pos rfl]
      rw [hp, List.append_nil] at key
      rw [key, hpick]
      cases v.1 with
      | true => simp
      | false => simp
    · have hc' : f s = f (s - 1) := Classical.byContradiction hc
      rw [if_neg (show ¬ decide (f s ≠ f (s - 1)) = true from by simpa using hc')]
      have key := ih lo' (some s) v base hs2 (fun t ht a e => by rw [← Option.some.inj e]; exact hs1 t ht) (.inr ⟨s, rfl, lo's⟩)
        (fun x hx1 hx2 => by
          by_cases hxs : x < s
          · exact hv x hx1 (below x (by omega))
          · rw [← efv, ← hc']
            refine const_le f (by omega) fun z z1 z2 => Classical.byContradiction fun hn => ?_
            have hz := hch z (fun a e => by have := lo's a e; omega) hn
            rcases List.mem_cons.mp hz with e | e
            · omega
            · have := hx2 z e
              omega)
        (fun x hx hn => by
          rcases List.mem_cons.mp (hch x hx hn) with e | e
          · subst e; exact absurd hc' hn
          · exact e)
        hap
      have hp : part lo' (some s) v = if v.1 = true then [(lo', some (s - 1), v.2)] else [] := by
        unfold part
        rw [if_neg]
        · rfl
        · intro z
          have := lo's s z
          omega
      rw [hp] at key
      exact key
/-- the law's runs are the program's pieces -/
theorem runs_eq (f : Int → Bool × β) (r1 r2 : Sx → Int) (hr1 : ∀ p, okS p → inS p (r1 p) = true) (hr2 : ∀ p, okS p → inS p (r2 p) = true) {S S' : List Int} (hS : S.Pairwise (· < ·)) (hS' : S'.Pairwise (· < ·))
    (h : ∀ x, f x ≠ f (x - 1) → x ∈ S) (h' : ∀ x, x ∈ S' ↔ f x ≠ f (x - 1)) (b : Int) (hb : ∀ s ∈ S, b < s) :
    (segsFrom none S).foldl (lawStep f r1) [] = (segsFrom none S').filterMap (pick f r2) := by
  have e : S' = S.filter fun x => decide (f x ≠ f (x - 1)) := asc_unique hS' (hS.filter _) fun x => by
    rw [h', List.mem_filter]
    constructor
    · intro z
      exact ⟨h x z, decide_eq_true z⟩
    · intro z
      exact of_decide_eq_true z.2
  have key := runs_go f r1 r2 hr1 hr2 S none none (f b) [] hS (fun _ _ _ e => nomatch e) (.inl rfl) (fun x _ hx => by
      rcases Int.le_total x b with z | z
      · exact (const_le f z fun y y1 y2 => Classical.byContradiction fun hn => by
          have := hb y (h y hn)
          omega).symm
      · exact const_le f z fun y y1 y2 => Classical.byContradiction fun hn => by
          have := hx y (h y hn)
          omega)
    (fun x _ hn => h x hn) (fun q hq => nomatch hq)
  have hp : part none none (f b) = [] := by unfold part; rw [if_pos rfl]
  rw [hp] at key
  rw [e]
  exact key
end
/-! ### representatives -/
def clampI (n : Int) (p : Sx) : Int := match p.1 with
  | some l => if n < l then l else (match p.2 with
    | some h => if n > h then h else n
    | none => n)
  | none => match p.2 with
    | some h => if n > h then h else n
    | none => n
def repL (p : Sx) : Int := match p.2 with
  | some h => h
  | none => match p.1 with
    | some l => l
    | none => 0
theorem clamp_in (n : Int) (p : Sx) (ho : okS p) : inS p (clampI n p) = true := by
  obtain ⟨l, h⟩ := p
  rw [inS_iff]
  unfold clampI
  cases l with
  | none => cases h with
    | none => exact ⟨fun _ e => (nomatch e), fun _ e => (nomatch e)⟩
    | some h =>
      refine ⟨fun _ e => (nomatch e), fun a e => ?_⟩
      cases e
      dsimp only
      split <;> omega
  | some l => cases h with
    | none =>
      refine ⟨fun a e => ?_, fun _ e => (nomatch e)⟩
      cases e
      dsimp only
      split <;> omega
    | some h =>
      have := ho l h rfl rfl
      refine ⟨fun a e => ?_, fun a e => ?_⟩
      · cases e
        dsimp only
        split
        · omega
        · split <;> omega
      · cases e
        dsimp only
        split
        · omega
        · split <;> omega
theorem clamp_eq (n : Int) (p : Sx) : decide (clampI n p = n) = inS p n := by
  obtain ⟨l, h⟩ := p
  unfold clampI inS geL leH
  cases l with
  | none => cases h with
    | none => simp
    | some h =>
      dsimp only
      split
      · rename_i z
        rw [decide_eq_false (by omega), decide_eq_false (by omega)]
        rfl
      · rename_i z
        rw [decide_eq_true rfl, decide_eq_true (by omega)]
        rfl
  | some l => cases h with
    | none =>
      dsimp only
      split
      · rename_i z
        rw [decide_eq_false (by omega), decide_eq_false (by omega)]
        rfl
      · rename_i z
        rw [decide_eq_true rfl, decide_eq_true (by omega)]
        rfl
    | some h =>
      dsimp only
      split
      · rename_i z
        rw [decide_eq_false (by omega), decide_eq_false (by omega)]
        rfl
      · split
        · rename_i z1 z2
          rw [decide_eq_false (by omega), decide_eq_true (by omega), decide_eq_false (by omega)]
          rfl
        · rename_i z1 z2
          rw [decide_eq_true rfl, decide_eq_true (by omega), decide_eq_true (by omega)]
          rfl
theorem repL_in (p : Sx) (ho : okS p) : inS p (repL p) = true := by
  obtain ⟨l, h⟩ := p
  rw [inS_iff]
  unfold repL
  cases l with
  | none => cases h with
    | none => exact ⟨fun _ e => (nomatch e), fun _ e => (nomatch e)⟩
    | some h => exact ⟨fun _ e => (nomatch e), fun a e => by cases e; exact Int.le_refl _⟩
  | some l => cases h with
    | none => exact ⟨fun a e => by cases e; exact Int.le_refl _, fun _ e => (nomatch e)⟩
    | some h => exact ⟨fun a e => by cases e; exact ho _ _ rfl rfl, fun a e => by cases e; exact Int.le_refl _⟩

/-! ### members -/
def memP (p : Sx) : Nat → Int → Int → List Int
  | 0, _, _ => []
  | m + 1, b, a => if (inS p b && (!inS p a || decide (b.natAbs ≤ a.natAbs))) = true then b :: memP p m (b - 1) a else if inS p a = true then a :: memP p m b (a + 1) else []
def members (p : Sx) (m : Nat) : List Int := memP p m (clampI 0 p) (clampI 0 p + 1)
def nums (d : Int) : List Int := if d = 0 then [0] else [-d, d]
def lawIn (p : Sx) (m : Nat) (acc : List Int) (x : Int) : List Int := if acc.length < m ∧ inS p x = true then acc ++ [x] else acc
def lawMem (p : Sx) (m : Nat) : List Int := (List.range m).foldl (fun acc (i : Nat) => (nums ((clampI 0 p).natAbs + (i : Int))).foldl (lawIn p m) acc) []
def lawRun (p : Sx) : Int → Nat → Nat → List Int
  | _, 0, _ => []
  | d, k + 1, m => ((nums d).filter (inS p)).take m ++ lawRun p (d + 1) k (m - (((nums d).filter (inS p)).take m).length)
theorem lawIn_fold (p : Sx) (m : Nat) : ∀ (xs acc : List Int), xs.foldl (lawIn p m) acc = acc ++ (xs.filter (inS p)).take (m - acc.length)
  | [], acc => by simp
  | x :: r, acc => by
    rw [List.foldl_cons, lawIn_fold p m r, List.filter_cons]
    unfold lawIn
    by_cases hx : inS p x = true
    · rw [if_pos hx]
      by_cases hl : acc.length < m
      · rw [if_pos ⟨hl, hx⟩]
        have e : m - acc.length = (m - (acc ++ [x]).length) + 1 := by simp; omega
        rw [e, List.take_succ_cons, List.append_assoc]
        rfl
      · rw [if_neg fun z => hl z.1]
        have e : m - acc.length = 0 := by omega
        rw [e]
        simp
    · rw [if_neg hx, if_neg fun z => hx z.2]
theorem lawFold (p : Sx) (m : Nat) (d0 : Int) : ∀ (k j : Nat) (acc : List Int), (List.range' j k).foldl (fun acc (i : Nat) => (nums (d0 + (i : Int))).foldl (lawIn p m) acc) acc = acc ++ lawRun p (d0 + (j : Int)) k (m - acc.length)
  | 0, j, acc => by simp [lawRun]
  | k + 1, j, acc => by
    rw [List.range'_succ, List.foldl_cons, lawFold p m d0 k (j + 1), lawIn_fold, lawRun]
    rw [List.append_assoc]
    congr 2
    have e1 : d0 + ((j + 1 : Nat) : Int) = d0 + (j : Int) + 1 := by omega
    have e2 : m - (acc ++ List.take (m - acc.length) (List.filter (inS p) (nums (d0 + (j : Int))))).length = m - acc.length - (List.take (m - acc.length) (List.filter (inS p) (nums (d0 + (j : Int))))).length := by
      rw [List.length_append]; omega
    rw [e1, e2]
theorem lawMem_run (p : Sx) (m : Nat) : lawMem p m = lawRun p ((clampI 0 p).natAbs : Int) m m := by
  unfold lawMem
  rw [List.range_eq_range', lawFold]
  simp
theorem inS_mid {p : Sx} {x y z : Int} (hx : inS p x = true) (hz : inS p z = true) (h1 : x ≤ y) (h2 : y ≤ z) : inS p y = true := by
  obtain ⟨l, h⟩ := p
  rw [inS_iff] at *
  exact ⟨fun a e => by have := hx.1 a e; omega, fun a e => by have := hz.2 a e; omega⟩
theorem lawRun_none (p : Sx) : ∀ (k : Nat) (d : Int) (m : Nat), 0 < d → (∀ x, x ≤ -d → inS p x = false) → (∀ x, d ≤ x → inS p x = false) → lawRun p d k m = []
  | 0, _, _, _, _, _ => rfl
  | k + 1, d, m, hd, h1, h2 => by
    unfold lawRun nums
    rw [if_neg (by omega), List.filter_cons, List.filter_cons, h1 (-d) (Int.le_refl _), h2 d (Int.le_refl _), lawRun_none p k (d + 1) _ (by omega) (fun x hx => h1 x (by omega)) (fun x hx => h2 x (by omega))]
    simp
/-- from the distance d on, the two go alike -/
theorem mem_go (p : Sx) (n : Int) (hn : inS p n = true) : ∀ (k : Nat) (d : Int) (m : Nat) (b a : Int), 0 < d → -d < n + 1 → n < d + 1 → m ≤ k →
    (b = -d ∨ ∀ x, x ≤ max b (-d) → inS p x = false) → (a = d ∨ ∀ x, min a d ≤ x → inS p x = false) → memP p m b a = lawRun p d k m
  | 0, d, m, b, a, _, _, _, hm, _, _ => by
    have : m = 0 := by omega
    subst this
    rfl
  | k + 1, d, 0, b, a, hd, hn1, hn2, hm, hb, ha => by
    have : ∀ (k : Nat) (d : Int), lawRun p d k 0 = [] := by
      intro k
      induction k with
      | zero => intro d; rfl
      | succ k ih => intro d; unfold lawRun; simp [ih]
    rw [this]
    rfl
  | k + 1, d, m + 1, b, a, hd, hn1, hn2, hm, hb, ha => by
    have bout : b ≠ -d ∨ inS p (-d) = false → ∀ x, x ≤ max b (-d) → inS p x = false := by
      intro z
      rcases hb with e | e
      · rcases z with z | z
        · exact absurd e z
        · intro x hx
          cases q : inS p x with
          | false => rfl
          | true =>
            have := inS_mid q hn (show x ≤ -d by omega) (by omega)
            rw [z] at this
            cases this
      · exact e
    have aout : a ≠ d ∨ inS p d = false → ∀ x, min a d ≤ x → inS p x = false := by
      intro z
      rcases ha with e | e
      · rcases z with z | z
        · exact absurd e z
        · intro x hx
          cases q : inS p x with
          | false => rfl
          | true =>
            have := inS_mid hn q (show n ≤ d by omega) (by omega)
            rw [z] at this
            cases this
      · exact e
    unfold lawRun nums
    rw [if_neg (by omega)]
    by_cases hB : inS p (-d) = true
    · have eb : b = -d := Classical.byContradiction fun z => by
        have := bout (.inl z) (-d) (by omega)
        rw [hB] at this
        cases this
      subst eb
      by_cases hA : inS p d = true
      · have ea : a = d := Classical.byContradiction fun z => by
          have := aout (.inl z) d (by omega)
          rw [hA] at this
          cases this
        subst ea
        rw [List.filter_cons, List.filter_cons, List.filter_nil, if_pos hB, if_pos hA]
        unfold memP
        rw [hB, hA, if_pos (by simp)]
        rw [List.take_succ_cons, List.cons_append]
        congr 1
        cases m with
        | zero =>
          have : ∀ (k : Nat) (d : Int), lawRun p d k 0 = [] := by
            intro k
            induction k with
            | zero => intro d; rfl
            | succ k ih => intro d; unfold lawRun; simp [ih]
          simp [this, memP]
        | succ m =>
          unfold memP
          rw [hA]
          have hlt : decide ((-a - 1).natAbs ≤ a.natAbs) = false := decide_eq_false (by omega)
          rw [hlt]
          simp only [Bool.not_true, Bool.or_false, Bool.and_false, Bool.false_eq_true, if_false, if_true, List.take_succ_cons, List.take_nil, List.length_cons, List.length_nil, List.cons_append, List.nil_append]
          rw [show m + 1 + 1 - (0 + 1 + 1) = m by omega]
          congr 1
          exact mem_go p n hn k (a + 1) m (-a - 1) (a + 1) (by omega) (by omega) (by omega) (by omega) (.inl (by omega)) (.inl rfl)
      · have hA' : inS p d = false := by simpa using hA
        have ao := aout (.inr hA')
        have haa : inS p a = false := ao a (by omega)
        rw [List.filter_cons, List.filter_cons, List.filter_nil, if_pos hB, if_neg hA]
        unfold memP
        rw [hB, haa, if_pos (by simp)]
        simp only [List.take_succ_cons, List.take_nil, List.length_cons, List.length_nil, List.cons_append, List.nil_append]
        rw [show m + 1 - (0 + 1) = m by omega]
        congr 1
        refine mem_go p n hn k (d + 1) m (-d - 1) a (by omega) (by omega) (by omega) (by omega) (.inl (by omega)) (.inr fun x hx => ao x (by omega))
    · have hB' : inS p (-d) = false := by simpa using hB
      have bo := bout (.inr hB')
      have hbb : inS p b = false := bo b (by omega)
      by_cases hA : inS p d = true
      · have ea : a = d := Classical.byContradiction fun z => by
          have := aout (.inl z) d (by omega)
          rw [hA] at this
          cases this
        subst ea
        rw [List.filter_cons, List.filter_cons, List.filter_nil, if_neg hB, if_pos hA]
        unfold memP
        rw [hbb, hA]
        simp only [Bool.false_and, Bool.false_eq_true, if_false, if_true, List.take_succ_cons, List.take_nil, List.length_cons, List.length_nil, List.cons_append, List.nil_append]
        rw [show m + 1 - (0 + 1) = m by omega]
        congr 1
        refine mem_go p n hn k (a + 1) m b (a + 1) (by omega) (by omega) (by omega) (by omega) (.inr fun x hx => bo x (by omega)) (.inl rfl)
      · have hA' : inS p d = false := by simpa using hA
        have ao := aout (.inr hA')
        have haa : inS p a = false := ao a (by omega)
        rw [List.filter_cons, List.filter_cons, List.filter_nil, if_neg hB, if_neg hA]
        unfold memP
        rw [hbb, haa, lawRun_none p k (d + 1) _ (by omega) (fun x hx => bo x (by omega)) (fun x hx => ao x (by omega))]
        rfl
/-- the law's members are the program's -/
theorem mem_eq (p : Sx) (ho : okS p) (m : Nat) : lawMem p m = members p m := by
  rw [lawMem_run]
  have hn := clamp_in 0 p ho
  cases m with
  | zero => rfl
  | succ m =>
    have near : ∀ x, inS p x = true → (clampI 0 p).natAbs ≤ x.natAbs ∧ (x.natAbs = (clampI 0 p).natAbs → x = clampI 0 p) := by
      intro x hx
      obtain ⟨l, h⟩ := p
      have hx' := (inS_iff l h x).mp hx
      have hl := hx'.1
      have hh := hx'.2
      unfold clampI
      cases l with
      | none => cases h with
        | none => dsimp only; omega
        | some h =>
          have := hh h rfl
          dsimp only
          split <;> omega
      | some l => cases h with
        | none =>
          have := hl l rfl
          dsimp only
          split <;> omega
        | some h =>
          have := hl l rfl
          have := hh h rfl
          dsimp only
          split
          · omega
          · split <;> omega
    have above : ∀ x, inS p x = true → x = clampI 0 p ∨ (clampI 0 p).natAbs < x.natAbs := fun x hx => by
      have := near x hx
      by_cases e : x.natAbs = (clampI 0 p).natAbs
      · exact .inl (this.2 e)
      · right; omega
    generalize hc : clampI 0 p = c at *
    have efil : (nums (c.natAbs : Int)).filter (inS p) = [c] := by
      unfold nums
      by_cases h0 : (c.natAbs : Int) = 0
      · rw [if_pos h0]
        have : c = 0 := by omega
        subst this
        rw [List.filter_cons, if_pos hn, List.filter_nil]
      · rw [if_neg h0, List.filter_cons, List.filter_cons, List.filter_nil]
        rcases Int.le_total 0 c with z | z
        · have e1 : (c.natAbs : Int) = c := by omega
          rw [e1, if_pos hn, if_neg]
          intro q
          have := (near _ q).2 (by omega)
          omega
        · have e1 : (c.natAbs : Int) = -c := by omega
          rw [e1, Int.neg_neg, if_pos hn, if_neg]
          intro q
          have := (near _ q).2 (by omega)
          omega
    show lawRun p (c.natAbs : Int) (m + 1) (m + 1) = memP p (m + 1) (clampI 0 p) (clampI 0 p + 1)
    rw [hc]
    unfold lawRun memP
    rw [efil, hn]
    have hlt : ((!inS p (c + 1)) || decide (c.natAbs ≤ (c + 1).natAbs)) = true := by
      cases q : inS p (c + 1) with
      | false => rfl
      | true =>
        have := (near _ q).1
        rw [decide_eq_true this]
        rfl
    rw [hlt]
    simp only [Bool.and_self, if_true, List.take_succ_cons, List.take_nil, List.length_cons, List.length_nil, List.cons_append, List.nil_append]
    rw [show m + 1 - (0 + 1) = m by omega]
    congr 1
    refine (mem_go p c hn m (c.natAbs + 1) m (c - 1) (c + 1) (by omega) (by omega) (by omega) (Nat.le_refl _) ?_ ?_).symm
    · by_cases hneg : c ≤ 0
      · left; omega
      · right
        intro x hx
        cases q : inS p x with
        | false => rfl
        | true =>
          have h1 : inS p (max x 0) = true := inS_mid q hn (by omega) (by omega)
          have := (near _ h1).1
          omega
    · by_cases hpos : 0 ≤ c
      · left; omega
      · right
        intro x hx
        cases q : inS p x with
        | false => rfl
        | true =>
          have h1 : inS p (min x 0) = true := inS_mid hn q (by omega) (by omega)
          have := (near _ h1).1
          omega
theorem memP_in (p : Sx) : ∀ (m : Nat) (b a x : Int), x ∈ memP p m b a → inS p x = true
  | 0, _, _, _, h => by cases h
  | m + 1, b, a, x, h => by
    unfold memP at h
    split at h
    · rename_i z
      rcases List.mem_cons.mp h with e | e
      · rw [e]
        exact (Bool.and_eq_true_iff.mp z).1
      · exact memP_in p m _ _ x e
    · split at h
      · rename_i z
        rcases List.mem_cons.mp h with e | e
        · rw [e]; exact z
        · exact memP_in p m _ _ x e
      · cases h
theorem memP_len (p : Sx) : ∀ (m : Nat) (b a : Int), (memP p m b a).length ≤ m
  | 0, _, _ => Nat.le_refl _
  | m + 1, b, a => by
    unfold memP
    split
    · have := memP_len p m (b - 1) a
      simp only [List.length_cons]; omega
    · split
      · have := memP_len p m b (a + 1)
        simp only [List.length_cons]; omega
      · simp
theorem members_in {p : Sx} {m : Nat} {x : Int} (h : x ∈ members p m) : inS p x = true := memP_in p m _ _ x h
/-- with two asked: one at least, two if there are two -/
theorem members_two (p : Sx) (ho : okS p) : (∃ x, x ∈ members p 2) ∧ ∀ x y, inS p x = true → inS p y = true → x ≠ y → (members p 2).length = 2 := by
  have hn := clamp_in 0 p ho
  unfold members
  generalize clampI 0 p = c at hn
  constructor
  · unfold memP
    split
    · exact ⟨_, List.mem_cons_self⟩
    · rw [if_pos]
      · exact ⟨_, List.mem_cons_self⟩
      · rename_i z
        rw [hn] at z
        cases q : inS p (c + 1) with
        | true => rfl
        | false => rw [q] at z; simp at z
  · intro x y hx hy hne
    have : inS p (c - 1) = true ∨ inS p (c + 1) = true := by
      by_cases hxc : x = c
      · rcases Int.lt_or_gt_of_ne (show y ≠ c from fun e => hne (hxc.trans e.symm)) with z | z
        · exact .inl (inS_mid hy hn (by omega) (by omega))
        · exact .inr (inS_mid hn hy (by omega) (by omega))
      · rcases Int.lt_or_gt_of_ne hxc with z | z
        · exact .inl (inS_mid hx hn (by omega) (by omega))
        · exact .inr (inS_mid hn hx (by omega) (by omega))
    unfold memP
    rw [hn]
    split
    · rename_i z
      rw [List.length_cons]
      unfold memP
      rcases this with q | q
      · rw [q]
        cases h2 : inS p (c + 1) with
        | false => rfl
        | true =>
          rw [h2] at z
          simp only [Bool.not_true, Bool.false_or, Bool.true_and]
          split
          · rfl
          · rfl
      · rw [q]
        simp only [Bool.not_true, Bool.false_or]
        split
        · rfl
        · rfl
    · rename_i z
      have h2 : inS p (c + 1) = true := by
        cases q : inS p (c + 1) with
        | true => rfl
        | false => rw [q] at z; simp at z
      rw [if_pos h2, List.length_cons]
      unfold memP
      rw [hn]
      split
      · rfl
      · rename_i w
        rw [if_pos]
        · rfl
        · cases q : inS p (c + 1 + 1) with
          | true => rfl
          | false => rw [q] at w; simp at w
end K3

set_option maxHeartbeats 2000000
/-! K3Rules: rules that the layer lacks: x in o by an own __contains__, a != b by an own __eq__. -/
namespace K3R
open PySem PySem.Spec PyProof.Rows L2 SlX

section
variable {X : Cx} {CX : CXT} {pins : List (Addr × Obj)} {σ : L2.St} {H : Hp} {s : Shared} {a C dx p g : Addr} {vs : List (Option V)} {f : Str} {n : Nat} {sp : Sp} {E : XK} {v : V} {u : Value}
/-- y in o, o an object with slots of the class at C, whose __contains__ stands at g and answers a truth value -/
def rInOwn (C : Addr) (neg : Bool) (sp : Sp) (E : XK) : R2 := fun x y H Q => ∃ a dx vs, y = .ref a ∧ Slt H a C dx vs ∧ sp [y, x] H (fun z H' => ∃ b, z = .bl b ∧ Q (.bl (if neg then !b else b)) H') E
theorem op_inOwn (hs : PySem.W.findIn X.K (.ref C) "__contains__" = some (some (.ref g))) (hf : PySem.W.isFn X.K (.ref g) = true) (F : FnR X.prog X.w X.K X.mg X.base CX n g sp) (hr : Room n X.A) (hx : Passes CX X E) :
    OpR X (compareOp .In) (rInOwn C false sp E) := by
  intro pins s σ H x y v u Q I rx ry h
  obtain ⟨a, dx, vs, rfl, hsl, q⟩ := h
  cases (show u = Value.ref a from ry)
  obtain ⟨sl, od, _, J, _⟩ := slt_inst I hsl
  obtain ⟨m, hF⟩ := I.fr
  refine PySem.W.in_K hF I.ok.mod.kin J hs hf ?_
  refine wpAny_mono (wpAny_call (run_fnR (us := [.ref a, v]) (vs := [.ref a, x]) F hr hx I (.cons rfl (.cons rx .nil)) q)) (fun w s' z => ?_) fun _ _ e => e
  obtain ⟨z', H', I', rz, b, eb, qz⟩ := z
  subst eb
  cases (show w = Value.bool b from rz)
  exact wpAny_truthy_bool ⟨.bl b, H', I', rfl, qz⟩
theorem op_notInOwn (hs : PySem.W.findIn X.K (.ref C) "__contains__" = some (some (.ref g))) (hf : PySem.W.isFn X.K (.ref g) = true) (F : FnR X.prog X.w X.K X.mg X.base CX n g sp) (hr : Room n X.A) (hx : Passes CX X E) :
    OpR X (compareOp .NotIn) (rInOwn C true sp E) := by
  intro pins s σ H x y v u Q I rx ry h
  obtain ⟨a, dx, vs, rfl, hsl, q⟩ := h
  cases (show u = Value.ref a from ry)
  obtain ⟨sl, od, _, J, _⟩ := slt_inst I hsl
  obtain ⟨m, hF⟩ := I.fr
  refine PySem.W.notIn_K hF I.ok.mod.kin J hs hf ?_
  refine wpAny_mono (wpAny_call (run_fnR (us := [.ref a, v]) (vs := [.ref a, x]) F hr hx I (.cons rfl (.cons rx .nil)) q)) (fun w s' z => ?_) fun _ _ e => e
  obtain ⟨z', H', I', rz, b, eb, qz⟩ := z
  subst eb
  cases (show w = Value.bool b from rz)
  exact wpAny_truthy_bool ⟨.bl (!b), H', I', rfl, qz⟩
end
end K3R
namespace K3N
open PySem PySem.W PySem.Calls PyProof.Rows Builtin
section
variable {prog : Program} {w : World} {A : Around} {E : Value → Shared → Prop} {s : Shared} {K : Frag} {x C L f : Addr} {h₀ : Heap} {m : Str → Option Value} {ox : Obj} {od : Option Obj} {b tb : Value}
theorem ne_code {R : PySem.Fin → Shared → Prop} (hu : A.units < cLine) (X : K.In s.heap) (I : InstAt s.heap x ox C od) (he : findIn K (.ref C) "__eq__" = some (some (.ref f))) (hf : isFn K (.ref f) = true)
    (h : wpAny (model prog w) A (call (.ref f) [.ref x, b]) (fun v s' => ∃ k, v = .bool k ∧ R (.done (.ret (.bool (!k)))) s') E s) : wpAny (model prog w) A (Builtin.«object.__ne__» ⟨[.ref x, b], []⟩) R E s := by
  unfold Builtin.«object.__ne__»
  refine wpAny_bind (m := slotArgs "__ne__" 1 ⟨[.ref x, b], []⟩) (wpAny_of_eq (a := (.ref x, [b])) (by rfl) ?_)
  dsimp only
  refine wpAny_bind (wpAny_cRoomFor hu ?_)
  refine wpAny_bind (ifBound_K X I he hf (wpAny_mono h (fun v s' z => ?_) fun _ _ e => e))
  obtain ⟨k, rfl, q⟩ := z
  dsimp only
  exact wpAny_bind (wpAny_truthy_bool (wpAny_pure q))
theorem ne_K {Q : Value → Shared → Prop} (hu : A.units + 1 < cLine) (F : Fr h₀ L s.heap m) (X₀ : K.In h₀) (I : InstAt s.heap x ox C od) (hb : Looks (model prog w) s.heap (typeOf b) (.ref C)) (hm : mroIn K C (.type "object") = some true)
    (hn : findIn K (.ref C) "__ne__" = some (some (.builtin "object.__ne__"))) (he : findIn K (.ref C) "__eq__" = some (some (.ref f))) (hf : isFn K (.ref f) = true)
    (h : wpAny (model prog w) A.in1 (call (.ref f) [.ref x, b]) (fun v s' => ∃ k, v = .bool k ∧ Q (.bool (!k)) s') E s) : wpAny (model prog w) A (compareOp .NotEq (.ref x) b) Q E s := by
  have X := X₀.keeps F.keep
  have sub : Looks (model prog w) s.heap (isInstance (.ref x) (.type "object")) true := I.type.andThen (looks_mroIn X hm)
  have one : wpAny (model prog w) A (tryCompare (.ref x) "__ne__" b) (fun r s' => ∃ v, r = some v ∧ Q v s') E s := by
    simp only [tryCompare, callSpecialIfBound?, bindSpecialIfBound?]
    have go : wpAny (model prog w) A (call (.builtin "object.__ne__") ([.ref x] ++ [b])) (fun v s' => ∃ k, v = .bool k ∧ Q (.bool k) s') E s := by
      refine wpAny_call (codeAny_call_builtin PySem.F.cmp_object.ne.plain PySem.F.cmpEntry_ne (@check_slot (model prog w) _ _ s "object.__ne__" "object" "__ne__" (.ref x) [b] [] _ PySem.F.cmpKind_ne PySem.F.cmpSplit_ne sub (PySem.F.cmpArgs_ne _ _) ?_))
      refine ne_code (A := A.in1) hu X I he hf (wpAny_mono h (fun v s' z => ?_) fun _ _ e => e)
      obtain ⟨k, rfl, q⟩ := z
      exact ⟨k, rfl, ⟨_, rfl, q⟩⟩
    have fin : wpAny (model prog w) A (call (.builtin "object.__ne__") ([.ref x] ++ [b]) >>= fun v => pure (some v)) (fun r s' => wpAny (model prog w) A (match r with | some .notImplemented => pure none | none => pure none | some v => pure (some v)) (fun r s' => ∃ v, r = some v ∧ Q v s') E s') E s := by
      refine wpAny_bind (wpAny_mono go (fun v s' z => ?_) fun _ _ e => e)
      obtain ⟨k, rfl, q⟩ := z
      exact wpAny_pure (wpAny_pure ⟨_, rfl, q⟩)
    refine wpAny_bind (wpAny_holding (wpAny_bind (wpAny_bind (wpAny_bind (I.type.here ((looks_findIn X hn).here ?_))))))
    refine wpAny_bind (wpAny_askSetting (wpAny_ite ?_))
    split
    · exact wpAny_bind (wpAny_of_eq (PySem.F.cmp_object.ne.bind _) (wpAny_pure (by exact fin)))
    · exact wpAny_tryCatch (wpAny_bind (wpAny_of_eq (PySem.F.cmp_object.ne.bind _) (wpAny_pure (by exact fin))))
  show wpAny (model prog w) A (richCompare .NotEq (.ref x) b) Q E s
  unfold richCompare
  simp only [oneThing_ref]
  refine wpAny_holding (wpAny_bind (wpAny_cRoomFor (Nat.lt_of_succ_lt hu) ?_))
  rw [cmpInfo_NotEq]
  dsimp only
  refine wpAny_bind (I.type.here (wpAny_bind (hb.here ?_)))
  rw [show (Value.ref C != Value.ref C) = false from by simp]
  simp only [Bool.false_eq_true, if_false]
  refine wpAny_bind (wpAny_pure ?_)
  simp only [Bool.false_eq_true, if_false]
  refine wpAny_bind (wpAny_mono one (fun r s' z => ?_) fun _ _ e => e)
  obtain ⟨v, rfl, hq⟩ := z
  exact wpAny_pure hq
end
end K3N

/-! K3Rules2: a != b by an own __eq__, over the layer; C.m(..) of a staticmethod; set(a list of ints). -/
namespace K3R
open PySem PySem.Spec PyProof.Rows L2 SlX

section
variable {X : Cx} {CX : CXT} {pins : List (Addr × Obj)} {σ : L2.St} {H : Hp} {s : Shared} {a C dx p g : Addr} {vs : List (Option V)} {f : Str} {n : Nat} {sp : Sp} {E : XK} {v : V} {u : Value}
/-- x != y, both objects with slots of the class at C, whose __eq__ stands at g and answers a truth value -/
def rNeOwn (C : Addr) (sp : Sp) (E : XK) : R2 := fun x y H Q => ∃ a dx vs b dy ws, x = .ref a ∧ y = .ref b ∧ Slt H a C dx vs ∧ Slt H b C dy ws ∧ sp [x, y] H (fun z H' => ∃ k, z = .bl k ∧ Q (.bl (!k)) H') E
theorem op_neOwn (hm : PySem.W.mroIn X.K C (.type "object") = some true) (hn : PySem.W.findIn X.K (.ref C) "__ne__" = some (some (.builtin "object.__ne__"))) (he : PySem.W.findIn X.K (.ref C) "__eq__" = some (some (.ref g)))
    (hf : PySem.W.isFn X.K (.ref g) = true) (F : FnR X.prog X.w X.K X.mg X.base CX n g sp) (hr : Room (n + 1) X.A) (hx : Passes CX X E) : OpR X (compareOp .NotEq) (rNeOwn C sp E) := by
  intro pins s σ H x y v u Q I rx ry h
  obtain ⟨a, dx, vs, b, dy, ws, rfl, rfl, ha, hb, q⟩ := h
  cases (show v = Value.ref a from rx)
  cases (show u = Value.ref b from ry)
  obtain ⟨sl, od, _, J, _⟩ := slt_inst I ha
  obtain ⟨sl', od', _, J', _⟩ := slt_inst I hb
  obtain ⟨m, hF⟩ := I.fr
  refine K3N.ne_K (hu_of hr) hF I.ok.mod.kin J J'.type hm hn he hf ?_
  refine wpAny_mono (wpAny_call (run_at (us := [.ref a, .ref b]) (ws := [.ref a, .ref b]) F hr.in1 I.env0.in1 hx I (.cons rfl (.cons rfl .nil)) q)) (fun w s' z => ?_) fun _ _ e => e
  obtain ⟨z', H', I', rz, k, ek, qz⟩ := z
  subst ek
  cases (show w = Value.bool k from rz)
  exact ⟨k, rfl, .bl (!k), H', I', rfl, qz⟩

/-! ### staticmethods -/
/-- C.m is a staticmethod: its record at p, its def at g -/
structure SMet (K : PySem.W.Frag) (C : Addr) (mc : Value) (m : Str) (p g : Addr) : Prop where
  at_ : PySem.W.findCls K (.ref C) mc m = some (.get (.builtin "staticmethod.__get__") (.ref p) .none (.ref C))
  rc : ∃ rest, PySem.W.recIn K p "staticmethod" = some (.ref g :: rest)
  kp : PySem.W.keepIn K (.ref g) = true
def tSMeth (C : Addr) (sp : Sp) (E : XK) (ta : TE) (t : TA) : TE := fun σ H Q => ta σ H fun x H1 => x = .ref C ∧ t σ H1 fun vs H2 => sp vs H2 Q E
theorem getsm_ok {mc : Value} {m : Str} {pl : Sem Bool} {A : Around} {E : Value → Shared → Prop} {Q : Value × List Value → Shared → Prop} (I : Inv X pins σ H s) (r : ClX.CRead X.K C mc) (k : SMet X.K C mc m p g)
    (h : ∀ s', Inv X pins σ H s' → Q (.ref g, []) s') : wpAny (model X.prog X.w) A (getMethod (.ref C) m pl) Q E s := by
  obtain ⟨rest, hp⟩ := k.rc
  refine PySem.W.method_cls I.kIn r.ga (PySem.W.cls_bind I.kIn r.rd k.at_ ?_)
  exact wpAny_call (PySem.W.sm_get (s := { s with toks := s.toks + 1 }) I.kIn hp (PySem.W.handed_on rfl (h _ (I.tok _))))
section
variable {k : Nat} {mc : Value} {m : Str} {o e : Expr} {es : List Expr} {pos apos : Pos} {ta : TE} {t : TA} {pl : Sem Bool}
theorem pe_smeth (he : PE X o ta) (r : ClX.CRead X.K C mc) (c : SMet X.K C mc m p g) (F : FnR X.prog X.w X.K X.mg X.base CX k g sp) (hr : Room k X.A) (hx : Passes CX X E) (ha : PA X (e :: es) t)
    (hst : starEach (e :: es) X.env = (false, eval e X.env) :: starEach es X.env := by rfl) (hpl : (backTo pos (starEach es X.env)).any (·.1) = false := by rfl)
    (ht : eval (.Call (.Attribute o m apos) (e :: es) [] pos) X.env = (do
      let ov ← eval o X.env
      standAt apos.atName
      let (f, first) ← holding [ov] (getMethod ov m pl)
      callWith pos f first (backTo pos (starEach (e :: es) X.env)) (backToKw pos (keywordEach [] X.env))) := by rfl) :
    PE X (.Call (.Attribute o m apos) (e :: es) [] pos) (tSMeth C sp E ta t) := by
  refine ⟨fun pins s σ H Q I h => ?_⟩
  refine PySem.W.methodCall_KW (pl := pl) (thn (he.run pins s σ H _ I h) fun u s1 ⟨x, H1, I1, rx, ex, q⟩ => ?_) ht
  subst ex
  obtain rfl : u = Value.ref C := rx
  refine getsm_ok I1 r c fun s2 I2 => ?_
  refine PySem.W.callWith_K (first := []) (h₀ := X.base) I2.ok.mod.kin c.kp (thn (ha.run pos pins s2 σ H1 _ I2 q) fun us s3 ⟨ws, H2, I3, rv, q2⟩ => ⟨I3.kIn, ?_⟩) hst hpl
  exact wpAny_call (run_fnR F hr hx I3 rv q2)
end
end
end K3R

namespace K3S
open PySem PySem.Spec PyProof.Rows L2
section
variable {P : Program} {w : World} {A : Around} {E : Value → Shared → Prop} {s : Shared}
/-- the empty set that set(..) makes first -/
abbrev eSet (w : World) : Obj := { cls := .type "set", dict := none, data := .set #[] 0 (.fresh 0 0 (!w.params.followText "set-order")) }
abbrev eItr (l : Addr) : Obj := { cls := .type "list_iterator", data := .fields #[.ref l, .int 0 0] }
/-- what set.__init__ does with a list of ints -/
theorem init_list {l : Addr} {items : Array Value} (ns : List Int) {h0 : Heap} (hh : A.handled = none) (hl : s.heap.IsList l items) (hit : IntsAre items.toList ns) (hz : items.size = ns.length) (hb : ns.length + 1 < scanBound) {R : PySem.Fin → Shared → Prop}
    (q : ∀ (h' : Heap) (tk c : Nat), SetR w h' s.heap.objs.size (fun j => decide (j ∈ ns)) c → c ≤ ns.length → (∀ b o, s.heap.get? b = some o → h'.get? b = some o) → R (.done (.ret .none)) { s with heap := h', toks := tk }) :
    wpAny (model P w) A (Builtin.«set.__init__» ⟨[.ref s.heap.objs.size, .ref l], []⟩) R E { s with heap := s.heap.push (eSet w) } := by
  have hS : (s.heap.push (eSet w)).get? s.heap.objs.size = some (eSet w) := Heap.get?_push_size _ rfl
  have hT : Shared.TypeIs { s with heap := s.heap.push (eSet w) } (.ref s.heap.objs.size) "set" := ⟨_, hS, rfl⟩
  obtain ⟨ol, hol, hcl, nl, hdl⟩ := hl
  obtain ⟨ocls, odict, odata, oslots⟩ := ol
  simp only at hcl hdl
  subst hcl hdl
  have hol' : (s.heap.push (eSet w)).get? l = some { cls := .type "list", dict := odict, data := .seq items nl, slots := oslots } := Heap.get?_push_of_some _ hol
  have f1 := F.sub_list_set
  have f2 := F.sub_list_frozenset
  have f3 : (Value.type "list" == Value.type "dict") = false := by decide
  have lst : (s.heap.push (eSet w)).IsList l items := ⟨_, hol', rfl, nl, rfl⟩
  have lt : l < s.heap.objs.size := Heap.lt_size hol
  have sz : (s.heap.push (eSet w)).objs.size = s.heap.objs.size + 1 := Heap.size_push ..
  unfold Builtin.«set.__init__» noKeywords Builtin.Frozenset.updateFrom
  generalize hPI : pyIter = PI
  wp_walk
  subst hPI
  refine wpAny_pyIter_list lst ?_
  refine wpAny_bind (wpAny_runValue ?_)
  have hne : l ≠ (s.heap.push (eSet w)).objs.size := by rw [sz]; exact Nat.ne_of_lt (Nat.lt_succ_of_lt lt)
  have hout : s.heap.objs.size ∉ [(s.heap.push (eSet w)).objs.size, l] := by
    rw [sz]
    intro z
    rcases List.mem_cons.mp z with z | z
    · exact absurd (show (s.heap.objs.size : Nat) = s.heap.objs.size + 1 from z) (by omega)
    · exact absurd (show (s.heap.objs.size : Nat) = l from List.mem_singleton.mp z) (Nat.ne_of_gt lt)
  have val : ∀ (i : Nat) (v : Value), items[i]? = some v → ∃ k t, ns[i]? = some k ∧ v = .int k t := fun i v hv => by
    have hi : i < ns.length := by rw [← hz]; exact (Array.getElem?_eq_some_iff.mp hv).1
    obtain ⟨t, e⟩ := PyProof.Rows.IntsAre.int_at hit i v (by rw [Array.getElem?_toList]; exact hv)
    refine ⟨ns[i], t, List.getElem?_eq_getElem hi, ?_⟩
    rw [e, List.getD_eq_getElem?_getD, List.getElem?_eq_getElem hi]
    rfl
  have hA : A.in1.handled = none := by simpa using hh
  refine set_update_ints ((Walks.list (by simpa using hh) _ l hne items).toS) s.heap.objs.size hout ns hz hb val (items.size - 0) 0 _ (by omega) (Nat.zero_le _) ⟨⟨_, Heap.get?_push_size _ rfl, rfl, rfl⟩, lst.push _⟩
    ⟨0, Nat.le_refl 0, setR_new_at (Heap.get?_push_of_some _ hS)⟩ fun s' c' hm hc hR => ?_
  obtain ⟨h', g2, d', tk', os'⟩ := s'
  have e1 : g2 = s.gens := hm.gens
  have e2 : d' = s.drawn := hm.drawn
  have e3 : os' = s.os := hm.os
  subst e1 e2 e3
  show wpAny _ _ _ _ _ _
  refine wpAny_pure ?_
  show wpAny _ _ (ret Value.none) _ _ _
  rw [hz] at hc
  refine wpAny_pure (q h' tk' c' hR hc fun b o e => ?_)
  have lb : b < s.heap.objs.size := Heap.lt_size e
  refine hm.heap b o (fun z => ?_) (Heap.get?_push_of_some _ (Heap.get?_push_of_some _ e))
  rcases List.mem_cons.mp z with z | z
  · exact absurd (show (b : Nat) = s.heap.objs.size from z) (Nat.ne_of_lt lb)
  · have z2 := List.mem_singleton.mp z
    rw [sz] at z2
    exact absurd (show (b : Nat) = s.heap.objs.size + 1 from z2) (Nat.ne_of_lt (Nat.lt_succ_of_lt lb))
theorem call_setL {l : Addr} {items : Array Value} (ns : List Int) {Q : Value → Shared → Prop} (hh : A.handled = none) (hl : s.heap.IsList l items) (hit : IntsAre items.toList ns) (hb : ns.length + 1 < scanBound)
    (h : ∀ (h' : Heap) (tk c : Nat), SetR w h' s.heap.objs.size (fun j => decide (j ∈ ns)) c → c ≤ ns.length → (∀ b o, s.heap.get? b = some o → h'.get? b = some o) → Q (.ref s.heap.objs.size) { s with heap := h', toks := tk }) :
    wpAny (model P w) A (call (.type "set") [.ref l]) Q E s := by
  have hz : items.size = ns.length := by
    have q := IntsAre.length hit
    rw [Array.length_toList] at q
    exact q
  obtain ⟨c, tl, hmro⟩ := F.called_set.mro
  have made := F.called_set.made
  have sub := F.called_set.sub
  refine wpAny_call (codeAny_of_tree ?_)
  show wpAny _ _ (callAny (.type "set") _) _ _ _
  refine wpAny_pure ⟨Code.quiet_builtin _ (by decide +kernel), codeAny_builtin F.entry_type_call ?_⟩
  rw [Around.under_plain (weight_type_call_type "set" [.ref l] []) rfl]
  have g1 := F.called_set.notType
  have g2 := F.called_set.canCreate
  have g3 := F.typeCall_set_1 (.ref l)
  repeat (any_goals (first | assumption | wp_step))
  refine codeAny_mono (code_set_led1 (.ref l) (E := E) (Q₁ := fun obj s₁ => obj = .ref s.heap.objs.size ∧ s₁ = { s with heap := s.heap.push (eSet w) }) ⟨rfl, rfl⟩) fun r s₁ hr => ?_
  cases r with
  | error e => exact hr
  | ok fl =>
    cases fl with
    | ret obj =>
      obtain ⟨rfl, rfl⟩ := hr
      have hS : (s.heap.push (eSet w)).get? s.heap.objs.size = some (eSet w) := Heap.get?_push_size _ rfl
      have hT : Shared.TypeIs { s with heap := s.heap.push (eSet w) } (.ref s.heap.objs.size) "set" := ⟨_, hS, rfl⟩
      have g4 := F.called_set.init.lookup
      have g5 := F.called_set.init.bind (.ref s.heap.objs.size)
      repeat (any_goals (first | assumption | wp_step))
      refine codeAny_mono (codeAny_call_builtin (R := wants (fun r s₂ => r = .none ∧ ∃ h' tk c, s₂ = { s with heap := h', toks := tk } ∧ SetR w h' s.heap.objs.size (fun j => decide (j ∈ ns)) c ∧ c ≤ ns.length ∧ (∀ b o, s.heap.get? b = some o → h'.get? b = some o)) E)
        F.called_set.init.plain F.entry_set_init (check_set_init_1 hT (init_list ns (h0 := s.heap) (by simpa using hh) hl hit hz hb fun h' tk c a1 a2 a3 => ⟨rfl, h', tk, c, rfl, a1, a2, a3⟩))) fun r₂ s₂ hr₂ => ?_
      cases r₂ with
      | error e => exact hr₂
      | ok fl₂ =>
        cases fl₂ with
        | ret r =>
          obtain ⟨rfl, h', tk, c', rfl, a1, a2, a3⟩ := hr₂
          repeat (any_goals (first | assumption | wp_step))
          exact h _ _ _ a1 a2 a3
        | _ => exact hr₂.elim
    | _ => exact hr.elim
end
section
variable {X : Cx}
/-- set(xs), xs a list of ints -/
def rSetI (K : PySem.W.Frag) (w : World) : List V → Hp → VK → Prop := fun xs H Q => ∃ (l : Addr) (ns : List Int), xs = [V.ref l] ∧ SqL K H l (ns.map V.int) ∧ ns.length + 1 < scanBound ∧
  ∀ (p : Addr) (n : Nat), n ≤ ns.length → H p = none → Q (.ref p) (upd H p (SetO w p (fun j => decide (j ∈ ns)) n))
theorem cr_setI (hc : X.calm = true) : CallR X (.type "set") (rSetI X.K X.w) := by
  intro pins s σ H xs us Q I r h
  obtain ⟨l, ns, rfl, hl, hb, q⟩ := h
  obtain ⟨u, rfl, ru⟩ := vals1 r
  cases (show u = Value.ref l from ru)
  obtain ⟨its, rv, pl, hlen⟩ := I.list hl
  refine call_setL ns (I.ok.hd hc) pl.isList (by simpa using rv.ints) hb fun h' tk c a1 a2 a3 => ?_
  exact ⟨.ref _, upd H s.heap.objs.size (SetO X.w s.heap.objs.size (fun j => decide (j ∈ ns)) c), I.laid (t' := tk) a3 (Nat.le_refl _) (setO_new a1), rfl, q _ _ a2 (I.hok.fresh (Nat.le_refl _))⟩
end
end K3S

/-! K3Sort: sorted(xs, key=f), f a def of the program that makes a pair of ints. -/
namespace K3K
open PySem PySem.Spec PyProof.Rows L2 Evl

theorem pair_snoc {α β : Type} {R : α → β → Prop} {x : α} {y : β} (h : R x y) : ∀ {as : List α} {bs : List β}, Paired R as bs → Paired R (as ++ [x]) (bs ++ [y])
  | _, _, .nil => .cons h .nil
  | _, _, .cons a t => .cons a (pair_snoc h t)
theorem pair_each {α β γ : Type} {R : α → β → Prop} {S : α → γ → Prop} : ∀ {as : List α} {bs : List β} {cs : List γ}, Paired R as bs → Paired S as cs → PySem.W.EachIs (fun b c => ∃ a, R a b ∧ S a c) bs cs
  | _, _, _, .nil, .nil => .nil
  | _, _, _, .cons a t, .cons b u => .cons ⟨_, a, b⟩ (pair_each t u)
theorem each_pair {γ : Type} {R : V → Value → Prop} {S : V → γ → Prop} : ∀ {bs : List Value} {cs : List γ}, PySem.W.EachIs (fun b c => ∃ a, R a b ∧ S a c) bs cs → ∃ as : List V, Paired R as bs ∧ Paired S as cs
  | _, _, .nil => ⟨[], .nil, .nil⟩
  | _, _, .cons ⟨a, h1, h2⟩ t => by
    obtain ⟨as, t1, t2⟩ := each_pair t
    exact ⟨a :: as, .cons h1 t1, .cons h2 t2⟩
theorem pair_get {α β : Type} {R : α → β → Prop} : ∀ {as : List α} {bs : List β}, Paired R as bs → ∀ {i : Nat} {a : α} {b : β}, as[i]? = some a → bs[i]? = some b → R a b
  | _, _, .nil, i, _, _, h, _ => by simp at h
  | _, _, .cons r _, 0, _, _, h, h' => by
    cases Option.some.inj h
    cases Option.some.inj h'
    exact r
  | _, _, .cons _ t, i + 1, _, _, h, h' => pair_get t (i := i) h h'

/-- the key that f makes of an item -/
def kT (k : Int × Int) : PyData := .tuple [.int k.1, .int k.2]
section
variable {X : Cx} {γ : Type}
/-- what a call f(x) promises: a new pair of ints, nothing else is touched -/
def KeySp (sp : Sp) (x : V) (k : Int × Int) (H : Hp) : Prop := ∀ H1, Ex H H1 → ∀ (Q : VK) (E : XK), (∀ t H2, H1 t = none → Ex H1 H2 → H2 t = some (.tup [.int k.1, .int k.2]) → Q (.ref t) H2) → sp [x] H1 Q E
theorem ex_dp {K : PySem.W.Frag} {t : Addr} {k : Int × Int} {H : Hp} (h : H t = some (.tup [.int k.1, .int k.2])) : Dp K H (.ref t) (kT k) := .tup (SqT.of h) (.cons (.int _) (.cons (.int _) .nil))
theorem sorted_key {g n : Nat} {sp : Sp} {pins : List (Addr × Obj)} {σ : L2.St} {H : Hp} {s : Shared} {l : Addr} {xs : List V} {bs : List γ} {Rx : V → γ → Prop} (k : γ → Int × Int) {Q : VK}
    (F : FnR X.prog X.w X.K X.mg X.base CX0 n g sp) (hr : Room (n + 2) X.A) (I : Inv X pins σ H s) (hl : SqL X.K H l xs) (hR : Paired Rx xs bs) (turn : ∀ x b, Rx x b → b ∈ bs → KeySp sp x (k b) H)
    (q : ∀ p H' ys, H p = none → Ex H H' → H' p = some (.lst ys) → Paired Rx ys (bs.mergeSort (PySem.W.dataLe false fun b => kT (k b))) → Q (.ref p) H') :
    wpAny (model X.prog X.w) X.A (call (.builtin "sorted") [.ref l] [(Str.ofString "key", .ref g)]) (EP X pins σ Q) X.xe s := by
  obtain ⟨vs, rv, pl, hz⟩ := I.list hl
  have hlen : vs.length = xs.length := rv.length.symm
  have hlb : xs.length = bs.length := Paired.length hR
  have hzv : vs.length ≤ sizeLine := by rw [hlen]; exact hz
  refine PySem.W.sorted_of_sort pl.isList hzv (PyProof.Rows.ksk_s1 _ _) (fun _ => PyProof.Rows.ksk_l1 _ _) fun E' => ?_
  rw [PyProof.Rows.ksk_t1]
  -- the addresses
  generalize ea : s.heap.objs.size + 1 = a
  have hoC : (PySem.W.copyHeap s.heap vs).get? a = some (seqObj "list" vs.toArray 0) := by rw [← ea]; exact PySem.W.copyHeap_at s.heap vs
  have oldC : ∀ b o, s.heap.get? b = some o → (PySem.W.copyHeap s.heap vs).get? b = some o := fun b o e => PySem.W.copyHeap_old e
  have aLt : a < (PySem.W.copyHeap s.heap vs).objs.size := Heap.lt_size hoC
  have nea : ∀ b o, s.heap.get? b = some o → b ≠ a := fun b o e z => by
    have lt : b < s.heap.objs.size := Heap.lt_size e
    rw [z, ← ea] at lt
    exact absurd (Nat.lt_succ_of_lt lt) (Nat.lt_irrefl _)
  obtain ⟨e1, ho1⟩ : ∃ e1, ((PySem.W.copyHeap s.heap vs).update a (Obj.mapSeq fun _ => (#[] : Array Value))).get? a = some (seqObj "list" #[] e1) := ⟨_, get?_update_seq hoC fun _ => #[]⟩
  generalize hU : (PySem.W.copyHeap s.heap vs).update a (Obj.mapSeq fun _ => (#[] : Array Value)) = hu at ho1
  have oldU : ∀ b o, s.heap.get? b = some o → hu.get? b = some o := fun b o e => by
    rw [← hU, Heap.get?_update_ne _ _ _ _ (nea b o e)]
    exact oldC b o e
  unfold ksk_tree
  refine wpAny_bind (listItems_at hoC rfl ?_)
  refine wpAny_bind (listUpdate_at hoC rfl ?_ (by rw [List.size_toArray]; exact hzv) (Nat.zero_le _))
  show wpAny _ _ _ _ _ { s with heap := (PySem.W.copyHeap s.heap vs).update a (Obj.mapSeq fun _ => (#[] : Array Value)) }
  rw [hU]
  refine wpAny_bind (seqEpoch_at ho1 rfl ?_)
  refine wpAny_bind (wpAny_newTuple ?_ (by show vs.length ≤ _; exact hzv))
  refine wpAny_bind (wpAny_newList ?_ (Nat.zero_le _))
  refine wpAny_holding ?_
  show wpAny _ _ _ _ _ { s with heap := (hu.push (seqObj "tuple" vs.toArray 0)).push (seqObj "list" #[] 0) }
  generalize hB : (hu.push (seqObj "tuple" vs.toArray 0)).push (seqObj "list" #[] 0) = hb
  have ekS : (hu.push (seqObj "tuple" vs.toArray 0)).objs.size = hu.objs.size + 1 := size_push' ..
  generalize eS : (hu.push (seqObj "tuple" vs.toArray 0)).objs.size = kS at *
  have hoS : hb.get? kS = some (seqObj "list" #[] 0) := by rw [← hB, ← eS]; exact Heap.get?_push_size _ rfl
  have oldB : ∀ b o, hu.get? b = some o → hb.get? b = some o := fun b o e => by rw [← hB]; exact Heap.get?_push_of_some _ (Heap.get?_push_of_some _ e)
  have aLt2 : a < hu.objs.size := Heap.lt_size ho1
  have neaS : a ≠ kS := by
    rw [ekS]
    exact Nat.ne_of_lt (Nat.lt_succ_of_lt aLt2)
  have leS : s.heap.objs.size ≤ kS := by
    rw [ekS]
    have : s.heap.objs.size < a := by rw [← ea]; exact Nat.lt_succ_self _
    exact Nat.le_of_lt (Nat.lt_trans this (Nat.lt_succ_of_lt aLt2))
  have leA : s.heap.objs.size ≤ a := by rw [← ea]; exact Nat.le_succ _
  have freeA : H a = Option.none := I.hok.fresh leA
  have freeS : H kS = Option.none := I.hok.fresh leS
  -- the frame's invariant there: the keys' list is tracked, the list that is sorted is a pinned record
  have I1 : Inv X pins σ (upd H kS (.lst [])) { s with heap := hb } := I.laid (t' := s.toks) (fun b u e => oldB b u (oldU b u e)) leS ⟨Nat.zero_le _, [], 0, .nil, hoS⟩
  have I2 : Inv X ((a, seqObj "list" #[] e1) :: pins) σ (upd H kS (.lst [])) { s with heap := hb } := I1.pins_of fun p hp => by
    rcases List.mem_cons.mp hp with z | z
    · subst z
      refine ⟨oldB a _ ho1, ?_, Nat.ne_of_gt (Nat.lt_of_lt_of_le I.lt leA), I.nofs leA, fun v z => nomatch z⟩
      rw [upd_ne neaS]
      exact freeA
    · exact I1.pin p (List.mem_append_right _ z)
  unfold ksk_rest
  refine wpAny_bind (wpAny_rule ?_)
  first
    | rw [List.forIn_toArray]
    | (rw [← Array.forIn_toList]; simp only [List.toList_toArray])
    | rw [← Array.forIn_toList]
  refine wpAny_bind (ksk_fold (fun i s' => ∃ (Hi : Hp) (kv : List V), Inv X ((a, seqObj "list" #[] e1) :: pins) σ Hi s' ∧ Ex H Hi ∧ Hi kS = some (.lst kv) ∧ kv.length = i ∧ Paired (fun v b => ∃ t, v = V.ref t ∧ t ≠ kS ∧ Hi t = some (.tup [.int (k b).1, .int (k b).2])) kv (bs.take i)) vs 0 { s with heap := hb }
    ⟨_, [], I2, Ex.new freeS, upd_same, rfl, by rw [List.take_zero]; exact .nil⟩ ?step ?done)
  case step =>
    rintro j x s' hx ⟨Hi, kv, Ii, ei, eS', lkv, pk⟩
    simp only [Nat.zero_add] at lkv pk ⊢
    have hj : j < vs.length := (List.getElem?_eq_some_iff.mp hx).1
    obtain ⟨y, hy⟩ : ∃ y, xs[j]? = some y := ⟨_, List.getElem?_eq_getElem (by omega)⟩
    obtain ⟨b, hb'⟩ : ∃ b, bs[j]? = some b := ⟨_, List.getElem?_eq_getElem (by omega)⟩
    have ry : RelV y x := pair_get rv hy hx
    have rb : Rx y b := pair_get hR hy hb'
    have hsp := turn y b rb (List.mem_of_getElem? hb') Hi ei (fun v H' => Ex Hi H' ∧ ∃ t, v = .ref t ∧ Hi t = Option.none ∧ H' t = some (.tup [.int (k b).1, .int (k b).2])) E0 (fun t H2 h1 h2 h3 => ⟨h2, t, rfl, h1, h3⟩)
    have hcall := SlX.run_at (X := X.nox) (us := [x]) (ws := [y]) F hr.in1.in1 (Ii.wish _).env0.in1.in1 pass0 (Ii.wish _) (.cons ry .nil) hsp
    refine wpAny_bind (wpAny_attempt (wpAny_mono (wpAny_call hcall) (fun u s'' z => ?_) fun _ _ z => z.elim))
    obtain ⟨v, H', I', ru, e2, t, rfl, ft, ht⟩ := z
    have Ij := I'.unwish
    cases (show u = Value.ref t from ru)
    have eS2 : H' kS = some (.lst kv) := e2 _ _ eS'
    obtain ⟨zk, its, nk, rk, hk⟩ := Ij.hok kS _ eS2
    have lk : its.length = kv.length := rk.length.symm
    have net : t ≠ kS := fun z => by
      rw [z, eS'] at ft
      cases ft
    try dsimp only
    refine wpAny_bind (listUpdate_at hk rfl ?_ (by rw [List.size_toArray]; omega) (by rw [Array.size_push, List.size_toArray]; omega))
    obtain ⟨c2, hc2⟩ : ∃ c2, (s''.heap.update kS (Obj.mapSeq (·.push (Value.ref t)))).get? kS = some (seqObj "list" (its.toArray.push (.ref t)) c2) := ⟨_, get?_update_seq hk (·.push (.ref t))⟩
    have et : bs.take (j + 1) = bs.take j ++ [b] := by rw [List.take_add_one, hb']; rfl
    refine wpAny_pure ⟨rfl, upd H' kS (.lst (kv ++ [.ref t])), kv ++ [.ref t], ?_, ?_, upd_same, by rw [List.length_append, lkv]; rfl, ?_⟩
    · refine Ij.write (e := kS) (t' := s''.toks) (by rw [eS2]; trivial) (.inl rfl) (fun b u hb hu => ?_) ⟨_, hc2⟩ ⟨by rw [List.length_append]; show kv.length + 1 ≤ _; omega, its ++ [.ref t], c2, Vals.append rk (Paired.cons (show RelV (V.ref t) (Value.ref t) from rfl) .nil), ?_⟩
      · rw [Heap.get?_update_ne _ _ _ _ hb]
        exact hu
      · have e4 : (its ++ [Value.ref t]).toArray = its.toArray.push (.ref t) := by simp
        rw [e4]
        exact hc2
    · exact Ex.mut (ei.trans e2) freeS
    · rw [et]
      have keep : ∀ (l : List V) (m : List γ), Paired (fun v b => ∃ t, v = V.ref t ∧ t ≠ kS ∧ Hi t = some (.tup [.int (k b).1, .int (k b).2])) l m → Paired (fun v b => ∃ t', v = V.ref t' ∧ t' ≠ kS ∧ (upd H' kS (.lst (kv ++ [.ref t])) : Hp) t' = some (.tup [.int (k b).1, .int (k b).2])) l m := fun l m h => by
        refine Paired.mapP h fun v b ⟨t', z1, z2, z3⟩ => ⟨t', z1, z2, ?_⟩
        rw [upd_ne z2]
        exact e2 _ _ z3
      exact pair_snoc ⟨t, rfl, net, by rw [upd_ne net]; exact ht⟩ (keep _ _ pk)
  case done =>
    rintro s' ⟨Hn, kv, In, en, eS', lkv, pk⟩
    have eall : bs.take (0 + vs.length) = bs := List.take_of_length_le (by omega)
    rw [eall] at pk
    obtain ⟨zk, its, nk, rk, hk⟩ := In.hok kS _ eS'
    have ha' : s'.heap.get? a = some (seqObj "list" #[] e1) := ClX.pin_at In
    have Ha : Hn a = Option.none := ClX.pin_un In
    have I3 : Inv X pins σ Hn s' := ClX.unpin In
    have lits : its.length = vs.length := by
      have := rk.length
      omega
    have hreads : PySem.W.EachIs (fun v d => ∃ as, Reads s'.heap v d as) its (bs.map fun b => kT (k b)) := by
      refine PySem.W.each_map (fun b => kT (k b)) ((pair_each rk pk).mono fun u b ⟨v, r1, t, ev, _, ht⟩ => ?_)
      subst ev
      exact Dp.reads I3 _ _ _ (ex_dp ht) r1
    have hal : PySem.W.AllAlike (bs.map fun b => kT (k b)) := PySem.W.AllAlike.of fun _ _ => by simp [PySem.W.alike, PySem.W.alikeAll, kT]
    have hsk : PySem.W.Sortable (bs.map fun b => kT (k b)) := PySem.W.Sortable.tuples fun _ => ⟨_, _, rfl⟩
    have hdep : ∀ d, d ∈ (bs.map fun b => kT (k b)) → X.A.in1.in1.units + d.depth < cLine := fun d hd => by
      obtain ⟨b, _, rfl⟩ := List.mem_map.mp hd
      have e : (kT (k b)).depth = 1 := by simp [kT, PyData.depth, PyData.depthAll]
      have h2 := hr.in1.in1.units
      omega
    try dsimp only
    refine wpAny_bind (listItems_at hk rfl ?_)
    have h1get : ∀ b o, b ≠ kS → s'.heap.get? b = some o → (PySem.W.hideAll s'.heap [kS]).get? b = some o := fun b o hb e => PySem.W.hideAll_get [kS] e (by simpa using hb)
    refine PySem.W.keyH_end (κ := PySem.W.dataKind s'.heap (bs.map fun b => kT (k b))) (h₁ := PySem.W.hideAll s'.heap [kS]) (fun b o _ e => PySem.W.of_hideAll [kS] e) (PySem.W.hideAll_none [kS] (by simp)) hk ha' neaS.symm
      (PySem.W.SortsAt.data (s := s') hreads hal hsk hdep) (by rw [List.size_toArray]; exact lits) hzv fun h' tk c kp na => ?_
    have ko : PySem.W.KeyedOut false (bs.map fun b => kT (k b)) vs _ := ⟨s'.heap, its, hal, rfl, hreads⟩
    obtain ⟨ys, ry, pR⟩ := each_pair (PySem.W.keyedOut_each (R := fun u b => ∃ x, RelV x u ∧ Rx x b) _ ko (pair_each rv hR))
    have lys : ys.length ≤ sizeLine := by
      have l1 := ry.length
      have l2 := ko.length (by rw [List.length_map]; omega)
      omega
    refine ⟨rfl, .ref a, upd (fun b => if b = kS then Option.none else Hn b) a (.lst ys), ?_, rfl, q a _ ys freeA ?_ upd_same pR⟩
    · have old : ∀ b u, Hn b = some u → b ≠ kS → (upd (fun b => if b = kS then Option.none else Hn b) a (.lst ys) : Hp) b = some u := fun b u e hb => by
        rw [upd_ne (ne_of_none e Ha)]
        show (if b = kS then Option.none else Hn b) = some u
        rw [if_neg hb]
        exact e
      have kpt : ∀ b o, b ≠ a → b ≠ kS → s'.heap.get? b = some o → h'.get? b = some o := fun b o z1 z2 e => kp b o z1 (h1get b o z2 e)
      have nek : ∀ b u, Hn b = some u → u ≠ .lst kv → b ≠ kS := fun b u e h z => by
        rw [z, eS'] at e
        exact h (Option.some.inj e).symm
      have szA : X.s_0.heap.objs.size ≤ a := Nat.le_trans I.sz leA
      have szS : X.s_0.heap.objs.size ≤ kS := Nat.le_trans I.sz leS
      have cells : ∀ b, s.heap.objs.size ≤ b → ∀ x c, X.env.cells.lookup x = some c → c ≠ b := fun b hb x c e z => by
        obtain ⟨v, o, ho, _⟩ := I.cell x c e
        have : c < s.heap.objs.size := Heap.lt_size ho
        rw [z] at this
        exact absurd (Nat.lt_of_lt_of_le this hb) (Nat.lt_irrefl _)
      have pinsNe : ∀ b, s.heap.objs.size ≤ b → ∀ p ∈ X.pn ++ pins, p.1 ≠ b := fun b hb p hp z => by
        have : p.1 < s.heap.objs.size := Heap.lt_size (I.pin p hp).1
        rw [z] at this
        exact absurd (Nat.lt_of_lt_of_le this hb) (Nat.lt_irrefl _)
      refine I3.step (g' := s'.gens) (d' := s'.drawn) (ch := [a, kS]) (fun b hb => ?_) (fun b o _ _ hc e n => ?_) (fun b o _ _ hc e n => ?_) (fun b o hc e n => ?_) (fun b o hc e => ?_) (fun b xs e => ?_) (fun b o u e => ?_) (fun b ps e => ⟨#[], ?_⟩) (fun m hm => ?_) (fun b u e => ?_) I3.bare
      · rcases List.mem_cons.mp hb with z | z
        · subst z
          exact ⟨.inr szA, Nat.ne_of_gt (Nat.lt_of_lt_of_le I.lt leA), cells _ leA, pinsNe _ leA⟩
        · have z := List.mem_singleton.mp z
          rw [z]
          exact ⟨.inr szS, Nat.ne_of_gt (Nat.lt_of_lt_of_le I.lt leS), cells _ leS, pinsNe _ leS⟩
      · exact kpt b o (fun z => hc (by rw [z]; exact List.mem_cons_self)) (fun z => hc (by rw [z]; exact List.mem_cons_of_mem _ List.mem_cons_self)) e
      · exact ⟨o.slots, kpt b o (fun z => hc (by rw [z]; exact List.mem_cons_self)) (fun z => hc (by rw [z]; exact List.mem_cons_of_mem _ List.mem_cons_self)) e⟩
      · rw [upd_ne (fun z => hc (by rw [z]; exact List.mem_cons_self))]
        show (if b = kS then Option.none else Hn b) = Option.none
        rw [n]
        split <;> rfl
      · exact ⟨o, kpt b o (fun z => hc (by rw [z]; exact List.mem_cons_self)) (fun z => hc (by rw [z]; exact List.mem_cons_of_mem _ List.mem_cons_self)) e⟩
      · exact old b _ e (nek b _ e fun z => nomatch z)
      · exact old b _ e (nek b _ e fun z => nomatch z)
      · rw [old b _ e (nek b _ e fun z => nomatch z)]
        simp
      · obtain ⟨o, es, ep, ho, r⟩ := hm
        exact ⟨o, es, ep, kpt _ o (Nat.ne_of_lt (Nat.lt_of_lt_of_le I.lt leA)) (Nat.ne_of_lt (Nat.lt_of_lt_of_le I.lt leS)) ho, r⟩
      · by_cases hb : b = a
        · subst hb
          rw [upd_same] at e
          cases e
          exact ⟨lys, _, c, ry, na⟩
        · rw [upd_ne hb] at e
          have e' : (if b = kS then Option.none else Hn b) = some u := e
          have hbk : b ≠ kS := fun z => by
            rw [if_pos z] at e'
            cases e'
          rw [if_neg hbk] at e'
          refine (I3.hok b u e').stay (fun c' v hc z => ?_) (fun c' z => old c' _ z (nek c' _ z fun w => nomatch w)) fun c' xs z => old c' _ z (nek c' _ z fun w => nomatch w)
          rcases hc with w | w
          · rw [w] at z ⊢
            exact kpt b v hb hbk z
          · exact kpt c' v (ne_of_none w Ha) (nek c' _ w fun y => nomatch y) z
    · refine fun b u e => ?_
      have nb : b ≠ kS := ne_of_none e freeS
      rw [upd_ne (ne_of_none e freeA)]
      show (if b = kS then Option.none else Hn b) = some u
      rw [if_neg nb]
      exact en b u e
/-- sorted(xs, key=f) as a rule -/
def rSortedKey (K : PySem.W.Frag) (g : Addr) (sp : Sp) (Rx : Hp → V → γ → Prop) (k : γ → Int × Int) : List V → List V → Hp → VK → Prop := fun vs zs H Q => ∃ (l : Addr) (xs : List V) (bs : List γ), vs = [V.ref l] ∧ zs = [V.ref g] ∧ SqL K H l xs ∧ Paired (Rx H) xs bs ∧
  (∀ x b, Rx H x b → b ∈ bs → KeySp sp x (k b) H) ∧
  ∀ p H' ys, H p = none → Ex H H' → H' p = some (.lst ys) → Paired (Rx H) ys (bs.mergeSort (PySem.W.dataLe false fun b => kT (k b))) → Q (.ref p) H'
theorem cr_sortedFn {g n : Nat} {sp : Sp} {Rx : Hp → V → γ → Prop} (k : γ → Int × Int) (F : FnR X.prog X.w X.K X.mg X.base CX0 n g sp) (hr : Room (n + 2) X.A) : CallRK X (.builtin "sorted") [Str.ofString "key"] (rSortedKey X.K g sp Rx k) := by
  intro pins s σ H vs zs us ws Q I r rz h
  obtain ⟨l, xs, bs, rfl, rfl, hl, hR, turn, q⟩ := h
  obtain rfl := Vals.ref1 r
  obtain ⟨w1, rfl, e1⟩ := vals1 rz
  obtain rfl : w1 = Value.ref g := e1
  exact sorted_key k F hr I hl hR turn q
end
end K3K

/-! K3Lay: words of our own over the layer: calls, new objects, what stands where. -/
namespace K3
open PySem PySem.Spec PyProof.Rows L2 Evl SlX
def topS (i : Nat) : Stmt := PySem.Challenge.pw_keptbase_k03_whole_pieces_and_samples.main.body.getD i (.Pass ⟨0, 0, 0, 0⟩)

/-! ### defs and their calls -/
/-- a def of the top: where it stands, how it binds -/
def DefAt (K : PySem.W.Frag) (mg : Str → Option Value) (x : Str) (st : Stmt) (ps : List Str) : Prop := ∃ f fd, Fun K x x st f fd ∧ mg x = some (.ref f) ∧ Binds K fd ps []
/-- the module's name x holds a def that keeps the promise sp -/
def Cal (P : Program) (w : World) (K : PySem.W.Frag) (mg : Str → Option Value) (base : Heap) (k : Nat) (x : Str) (sp : Sp) : Prop := ∃ f, mg x = some (.ref f) ∧ PySem.W.keepIn K (.ref f) = true ∧ FnR P w K mg base CX0 k f sp
section
variable {P : Program} {w : World} {K : PySem.W.Frag} {mg : Str → Option Value} {base : Heap}
theorem DefAt.cal {x : Str} {st : Stmt} {ps N : List Str} {k : Nat} {sp : Sp} (D : DefAt K mg x st ps) (S : FnScope N ps (defScope st)) (len : ∀ vs H Q E, sp vs H Q E → vs.length = ps.length)
    (body : ∀ (cdv : Value) (f : Addr) (A : Around) (outer : List Env) (s : Shared) (H : Hp) (vs : List V) (Q : VK) (E : XK), Room k (A.deeper (envOfC x (defScope st) s.heap.objs.size f cdv)) → sp vs H Q E →
      ∃ t, PSs (cxOf CX0 P w K mg base N x (defScope st) f cdv A outer s H E).nox (defBody st) t ∧ t { nx := fun _ H' => Q .non H', rt := Q } (start N vs) H) : Cal P w K mg base (k + 1) x sp := by
  obtain ⟨f, fd, F, g, b⟩ := D
  have R := (F.ok (P := P) (w := w) (mg := mg) (base := base) (k := k) (sp := sp) S len (fun cdv A outer s H vs Q E hr h => body cdv f A outer s H vs Q E hr h)).raw b .nil
  refine ⟨f, g, F.kp, R.imp fun vs H Q E h => ?_⟩
  rw [List.append_nil]
  exact h
end
def tCl (sp : Sp) (t : TA) : TE := fun σ H Q => t σ H fun vs H1 => sp vs H1 Q E0
section
variable {X : Cx} {x : Str} {p pos : Pos} {e : Expr} {es : List Expr} {t : TA} {k j : Nat} {sp : Sp}
theorem pe_c (c : Cal X.prog X.w X.K X.mg X.base k x sp) (hr : Room j X.A) (hk : k ≤ j) (hg : Gl X x) (ha : PA X (e :: es) t) (hdb : (x == ("__debug__" : Str)) = false := by decide)
    (he : starEach (e :: es) X.env = (false, eval e X.env) :: starEach es X.env := by rfl) (hpl : (backTo pos (starEach es X.env)).any (·.1) = false := by rfl) : PE X (.Call (.Name x p) (e :: es) [] pos) (tCl sp t) := by
  obtain ⟨f, hm, kp, F⟩ := c
  refine ⟨fun pins s σ H Q I h => ?_⟩
  refine wpAny_Call_Name_kw (ld_glob I hg hm ?_ hdb)
  refine PySem.W.callWith_K (h₀ := X.base) I.ok.mod.kin kp (thn (ha.run pos pins s σ H _ I h) fun us s1 ⟨vs, H1, I1, r, q⟩ => ⟨I1.kIn, ?_⟩) he hpl
  exact wpAny_call (run_fnR F (hr.mono hk) pass0 I1 r q)
end

/-! ### rules whose reading names the written part itself (in comprehensions) -/
section
variable {X : Cx} {K : PySem.W.Frag}
theorem ixlK (h : X.K = K) : IxR X (rIxL K) := h ▸ ix_list
theorem ixtK (h : X.K = K) : IxR X (rIxT K) := h ▸ ix_tup
theorem lenK (h : X.K = K) : CallR X (.builtin "len") (fun xs H Q => ∃ p ys, xs = [.ref p] ∧ (SqL K H p ys ∨ SqT K H p ys) ∧ Q (.int ys.length) H) := h ▸ call_len_seq
theorem isiK (h : X.K = K) : CallR X (.builtin "isinstance") (rIsi K) := h ▸ call_isi
theorem pe_slK {e : Expr} {f : Str} {pos : Pos} {ta : TE} (h : X.K = K) (he : PE X e ta) (hb : attributeBase e f X.env (eval e X.env) = eval e X.env := by rfl) : PE X (.Attribute e f pos) (tSl K ta f) := h ▸ pe_sl he hb
theorem pi_listK {tg l : Expr} {tl : TE} (h : X.K = K) (hl : PE X l tl) : PI X tg l (iList K tl) := h ▸ pi_list hl
end

/-! ### heaps -/
def hide (p : Addr) (H : Hp) : Hp := fun b => if b = p then none else H b
theorem hide_self {p : Addr} {H : Hp} : hide p H p = none := if_pos rfl
theorem hide_ne {p b : Addr} {H : Hp} (h : b ≠ p) : hide p H b = H b := if_neg h
theorem hide_some {p b : Addr} {H : Hp} {o : HO} (h : hide p H b = some o) : b ≠ p ∧ H b = some o := by
  by_cases e : b = p
  · rw [e, hide_self] at h
    cases h
  · exact ⟨e, by rw [hide_ne e] at h; exact h⟩
theorem hide_ex (p : Addr) (H : Hp) : Ex (hide p H) H := fun b o h => (hide_some h).2
theorem hide_mono {p : Addr} {H H' : Hp} (e : Ex H H') : Ex (hide p H) (hide p H') := fun b o h => by
  obtain ⟨h1, h2⟩ := hide_some h
  rw [hide_ne h1]
  exact e b o h2
theorem hide_upd (p : Addr) (H : Hp) (o : HO) : hide p (upd H p o) = hide p H := by
  funext b
  by_cases e : b = p
  · rw [e, hide_self, hide_self]
  · rw [hide_ne e, hide_ne e, upd_ne e]
theorem ex_hide {p : Addr} {H H' : Hp} (h : H p = none) (e : Ex H H') : Ex H (hide p H') := fun b o hb => by
  rw [hide_ne (ne_of_none hb h)]
  exact e b o hb
theorem hide_free {p : Addr} {H : Hp} (h : H p = none) : hide p H = H := by
  funext b
  by_cases e : b = p
  · rw [e, hide_self, h]
  · rw [hide_ne e]

/-! ### new objects -/
def EvN (te : TE) (σ : L2.St) (H : Hp) (P : Addr → Hp → Prop) : Prop := ∀ H1, Ex H H1 → ∀ Q : VK, (∀ p H2, H1 p = none → Ex H1 H2 → P p H2 → Q (.ref p) H2) → te σ H1 Q
def RetN (P : Addr → Hp → Prop) (H : Hp) (Q : VK) : Prop := ∀ p H2, H p = none → Ex H H2 → P p H2 → Q (.ref p) H2
theorem RetN.go {P : Addr → Hp → Prop} {H H' H2 : Hp} {Q : VK} (k : RetN P H Q) (e : Ex H H') {p : Addr} (hp : H' p = none) (e2 : Ex H' H2) (h : P p H2) : Q (.ref p) H2 := k p H2 (fresh_back e hp) (e.trans e2) h
section
variable {σ : L2.St} {H H' : Hp} {te : TE} {ta : TA} {v : V} {vs : List V} {sp : Sp} {P P' : Addr → Hp → Prop} {D : Ends} {tz : TS} {xs : List V}
theorem EvN.mono (e : Ex H H') (h : EvN te σ H P) : EvN te σ H' P := fun H1 a Q q => h H1 (e.trans a) Q q
theorem en_l (h : EvL te σ H xs) : EvN te σ H (fun p H' => H' p = some (.lst xs)) := fun H1 e Q q => h H1 e Q q
theorem en_u (h : EvU te σ H xs) : EvN te σ H (fun p H' => H' p = some (.tup xs)) := fun H1 e Q q => h H1 e Q q
theorem ev_cl (h : EvA ta σ H vs) (hs : ∀ H1, Ex H H1 → ∀ Q : VK, RetV v H1 Q → sp vs H1 Q E0) : Ev (tCl sp ta) σ H v := fun H1 e Q q => h H1 e _ fun H2 e2 => hs H2 (e.trans e2) Q fun H3 e3 => q H3 (e2.trans e3)
theorem en_cl (h : EvA ta σ H vs) (hs : ∀ H1, Ex H H1 → ∀ Q : VK, RetN P H1 Q → sp vs H1 Q E0) : EvN (tCl sp ta) σ H P := fun H1 e Q q => h H1 e _ fun H2 e2 => hs H2 (e.trans e2) Q fun p H3 hp e3 h3 => q p H3 (fresh_back e2 hp) (e2.trans e3) h3
theorem s_asgN {i : Nat} (h : EvN te σ H P) (k : ∀ p H1, H p = none → Ex H H1 → P p H1 → D.nx (σ.set i (some (.ref p))) H1) : tAsg te (gName i) D σ H := h H (Ex.refl H) _ fun p H1 hp e h1 => k p H1 hp e h1
theorem q_asgN {i : Nat} (h : EvN te σ H P) (k : ∀ p H1, H p = none → Ex H H1 → P p H1 → tz D (σ.set i (some (.ref p))) H1) : tSeq (tAsg te (gName i)) tz D σ H := s_asgN (D := { D with nx := tz D }) h k
theorem s_retN (h : EvN te σ H P) (k : ∀ p H1, H p = none → Ex H H1 → P p H1 → D.rt (.ref p) H1) : tRet te D σ H := h H (Ex.refl H) _ k
theorem s_retNR (h : EvN te σ H P) (k : RetN P H D.rt) : tRet te D σ H := h H (Ex.refl H) _ k
theorem s_retR (h : Ev te σ H v) (k : RetV v H D.rt) : tRet te D σ H := h H (Ex.refl H) _ k
theorem q_ret (h : Ev te σ H v) (k : RetV v H D.rt) : tRet te D σ H := h H (Ex.refl H) _ k
end
section
variable {K : PySem.W.Frag} {σ : L2.St} {H H' : Hp} {ta tb te : TE} {t u : TT} {x y z v : V} {r : R2}
/-! ### single steps -/
abbrev rIsNo : R2 := fun x y H Q => y = .non ∧ Q (.bl (decide (x = .non))) H
abbrev rNotNo : R2 := fun x y H Q => y = .non ∧ Q (.bl (!decide (x = .non))) H
theorem rv_isN : RV rIsNo x .non H (.bl (decide (x = .non))) := fun H1 _ _ q => ⟨rfl, q H1 (Ex.refl H1)⟩
theorem rv_notN : RV rNotNo x .non H (.bl (!decide (x = .non))) := fun H1 _ _ q => ⟨rfl, q H1 (Ex.refl H1)⟩
theorem ev_isN (h : Ev ta σ H x) : Ev (tOp rIsNo ta (tC .non)) σ H (.bl (decide (x = .non))) := ev_op h ev_c rv_isN
theorem ev_notN (h : Ev ta σ H x) : Ev (tOp rNotNo ta (tC .non)) σ H (.bl (!decide (x = .non))) := ev_op h ev_c rv_notN
theorem ev_I {g : Int → Int → V} {i j : Int} (ha : Ev ta σ H (.int i)) (hb : Ev tb σ H (.int j)) : Ev (tOp (rI0 g) ta tb) σ H (g i j) := ev_op ha hb rv_I0
theorem ev_IC {C : Int → Int → Prop} {g : Int → Int → V} {i j : Int} (ha : Ev ta σ H (.int i)) (hb : Ev tb σ H (.int j)) (hc : C i j) : Ev (tOp (rI C g) ta tb) σ H (g i j) := ev_op ha hb (rv_I hc)
theorem ev_eq (ha : Ev ta σ H x) (hb : Ev tb σ H y) (h : scal x y = true) : Ev (tOp rEq ta tb) σ H (.bl (decide (x = y))) := ev_op ha hb (rv_eq h)
theorem ev_ne (ha : Ev ta σ H x) (hb : Ev tb σ H y) (h : scal x y = true) : Ev (tOp rNe ta tb) σ H (.bl (!decide (x = y))) := ev_op ha hb (rv_ne h)
theorem ev_neg {i : Int} (ha : Ev ta σ H (.int i)) : Ev (tUn (rU fun i => .int (-i)) ta) σ H (.int (-i)) := ev_un ha ru_neg
theorem ev_ixL {p : Addr} {xs : List V} {i : Int} (ha : Ev ta σ H (.ref p)) (hb : Ev tb σ H (.int i)) (h : H p = some (.lst xs)) (hi : atI xs i = some v) : Ev (tOp (rIxL K) ta tb) σ H v := ev_op ha hb (rv_ixL (SqL.of h) hi)
theorem ev_ixT {p : Addr} {xs : List V} {i : Int} (ha : Ev ta σ H (.ref p)) (hb : Ev tb σ H (.int i)) (h : H p = some (.tup xs)) (hi : atI xs i = some v) : Ev (tOp (rIxT K) ta tb) σ H v := ev_op ha hb (rv_ixT (SqT.of h) hi)
/-- len of a list or a tuple -/
abbrev rLenQ (K : PySem.W.Frag) : List V → Hp → VK → Prop := fun xs H Q => ∃ p ys, xs = [.ref p] ∧ (SqL K H p ys ∨ SqT K H p ys) ∧ Q (.int ys.length) H
theorem ev_lenL {p : Addr} {xs : List V} (ha : Ev ta σ H (.ref p)) (h : H p = some (.lst xs)) : Ev (tCB (rLenQ K) (tCons ta tNil)) σ H (.int (xs.length : Int)) := fun H1 e Q q => ha H1 e _ fun H2 e2 => ⟨p, xs, rfl, .inl (SqL.of ((e.trans e2) _ _ h)), q H2 e2⟩
theorem ev_lenT {p : Addr} {xs : List V} (ha : Ev ta σ H (.ref p)) (h : H p = some (.tup xs)) : Ev (tCB (rLenQ K) (tCons ta tNil)) σ H (.int (xs.length : Int)) := fun H1 e Q q => ha H1 e _ fun H2 e2 => ⟨p, xs, rfl, .inr (SqT.of ((e.trans e2) _ _ h)), q H2 e2⟩
theorem ev_abs {i : Int} (ha : Ev ta σ H (.int i)) : Ev (tCB (fun xs H Q => ∃ i : Int, xs = [.int i] ∧ Q (.int (if i < 0 then -i else i)) H) (tCons ta tNil)) σ H (.int (if i < 0 then -i else i)) := fun H1 e Q q => ha H1 e _ fun H2 e2 => ⟨i, rfl, q H2 e2⟩
abbrev rInt1 : List V → Hp → VK → Prop := fun xs H Q => (∃ i, xs = [.int i] ∧ Q (.int i) H) ∨ ∃ k, xs = [.bl k] ∧ Q (.int (if k then 1 else 0)) H
theorem ev_int {i : Int} (ha : Ev ta σ H (.int i)) : Ev (tCB rInt1 (tCons ta tNil)) σ H (.int i) := fun H1 e Q q => ha H1 e _ fun H2 e2 => .inl ⟨i, rfl, q H2 e2⟩
theorem ev_intB {b : Bool} (ha : Ev ta σ H (.bl b)) : Ev (tCB rInt1 (tCons ta tNil)) σ H (.int (if b then 1 else 0)) := fun H1 e Q q => ha H1 e _ fun H2 e2 => .inr ⟨b, rfl, q H2 e2⟩
/-- isinstance -/
theorem ev_isi {c : V} {t' u' : Value} {b : Bool} (ha : Ev ta σ H x) (hb : Ev tb σ H c) (hc : ClsV c u') (hk : PySem.W.kitOne K t' u' = some b) (ht : ∀ H1, Ex H H1 → TyX K H1 x t') : Ev (tCB (rIsi K) (tCons ta (tCons tb tNil))) σ H (.bl b) := fun H1 e Q q =>
  ha H1 e _ fun H2 e2 => hb H2 (e.trans e2) _ fun H3 e3 => ⟨x, c, t', u', b, rfl, hc, ht H3 ((e.trans e2).trans e3), hk, q H3 (e2.trans e3)⟩
/-- a slot of an object -/
theorem ev_sl {f : Str} {a C dx p : Addr} {vs : List (Option V)} {i : Nat} (ha : Ev ta σ H (.ref a)) (hs : H a = some (SlO a C dx vs) ∧ H dx = some (.xd [])) (hc : SCls K C) (h1 : Slot1 K C f p i) (hv : vs[i]? = some (some v)) : Ev (tSl K ta f) σ H v := fun H1 e Q q =>
  ha H1 e _ fun H2 e2 => ⟨a, C, dx, p, vs, i, v, rfl, .inr ⟨(e.trans e2) _ _ hs.1, (e.trans e2) _ _ hs.2⟩, hc, h1, hv, q H2 e2⟩
/-- truth of a list -/
theorem et_truL {p : Addr} {xs : List V} (ha : Ev ta σ H (.ref p)) (h : H p = some (.lst xs)) : EvT (fun σ H Q => ta σ H fun x H' => ∃ k, TruV K x H' k ∧ Q k H') σ H (!xs.isEmpty) := fun H1 e Q q => ha H1 e _ fun H2 e2 => ⟨_, .inl ⟨xs, SqL.of ((e.trans e2) _ _ h), rfl⟩, q H2 e2⟩
theorem et_T {b : Bool} (h : Ev te σ H (.bl b)) : EvT (tTest te) σ H b := et_test h
theorem et_V {b : Bool} (h : Ev te σ H (.bl b)) : EvT (tB te) σ H b := et_B h
end

/-! ### ends and stretches -/
def oV : Option Int → V
  | none => .non
  | some i => .int i
theorem oV_none {o : Option Int} : decide (oV o = .non) = o.isNone := by
  cases o with
  | none => rfl
  | some i => rfl
theorem oV_inj {a b : Option Int} (h : oV a = oV b) : a = b := by
  cases a <;> cases b <;> simp [oV] at h ⊢
  exact h
/-- a stretch at v -/
def Sv (H : Hp) (v : V) (p : Sx) : Prop := ∃ a, v = .ref a ∧ H a = some (.tup [oV p.1, oV p.2])
abbrev Svs (H : Hp) : List V → List Sx → Prop := Paired (Sv H)
theorem Sv.ex {H H' : Hp} {v : V} {p : Sx} (e : Ex H H') (h : Sv H v p) : Sv H' v p := by
  obtain ⟨a, h1, h2⟩ := h
  exact ⟨a, h1, e _ _ h2⟩
theorem Svs.ex {H H' : Hp} {vs : List V} {ps : List Sx} (e : Ex H H') (h : Svs H vs ps) : Svs H' vs ps := Paired.mapP h fun _ _ => Sv.ex e
theorem pget {α β : Type} {R : α → β → Prop} : ∀ {as : List α} {bs : List β}, Paired R as bs → ∀ {i : Nat} {a : α}, as[i]? = some a → ∃ b, bs[i]? = some b ∧ R a b
  | _, _, .nil, i, _, h => by simp at h
  | _, _, .cons r _, 0, _, h => by
    cases Option.some.inj h
    exact ⟨_, rfl, r⟩
  | _, _, .cons _ t, i + 1, _, h => pget t (i := i) h
theorem pget' {α β : Type} {R : α → β → Prop} : ∀ {as : List α} {bs : List β}, Paired R as bs → ∀ {i : Nat} {b : β}, bs[i]? = some b → ∃ a, as[i]? = some a ∧ R a b
  | _, _, .nil, i, _, h => by simp at h
  | _, _, .cons r _, 0, _, h => by
    cases Option.some.inj h
    exact ⟨_, rfl, r⟩
  | _, _, .cons _ t, i + 1, _, h => pget' t (i := i) h
theorem psnoc {α β : Type} {R : α → β → Prop} {x : α} {y : β} (h : R x y) {as : List α} {bs : List β} (p : Paired R as bs) : Paired R (as ++ [x]) (bs ++ [y]) := K3K.pair_snoc h p
theorem plen {α β : Type} {R : α → β → Prop} {as : List α} {bs : List β} (h : Paired R as bs) : as.length = bs.length := Paired.length h
/-- the script's part: nothing; a new list of known values -/
theorem take_get {α : Type} {xs : List α} {i : Nat} {x : α} (h : xs[i]? = some x) : xs.take (i + 1) = xs.take i ++ [x] := by
  rw [List.take_add_one, h]
  rfl
end K3

/-! K3Txt: the text by its places; what the top has left. -/
namespace K3
open PySem PySem.Spec PyProof.Rows L2 Evl SlX
abbrev s_iswhole : Stmt := topS 14
abbrev n_iswhole : List Str := ["value"]
abbrev p_iswhole : List Str := ["value"]
theorem sc_iswhole : FnScope n_iswhole p_iswhole (defScope s_iswhole) := ⟨rfl, rfl, rfl, by decide +kernel, rfl, by decide +kernel, by decide +kernel⟩
abbrev s_iscontent : Stmt := topS 15
abbrev n_iscontent : List Str := ["value"]
abbrev p_iscontent : List Str := ["value"]
theorem sc_iscontent : FnScope n_iscontent p_iscontent (defScope s_iscontent) := ⟨rfl, rfl, rfl, by decide +kernel, rfl, by decide +kernel, by decide +kernel⟩
abbrev s_rank : Stmt := topS 16
abbrev n_rank : List Str := ["content"]
abbrev p_rank : List Str := ["content"]
theorem sc_rank : FnScope n_rank p_rank (defScope s_rank) := ⟨rfl, rfl, rfl, by decide +kernel, rfl, by decide +kernel, by decide +kernel⟩
abbrev s_lowrank : Stmt := topS 17
abbrev n_lowrank : List Str := ["pair"]
abbrev p_lowrank : List Str := ["pair"]
theorem sc_lowrank : FnScope n_lowrank p_lowrank (defScope s_lowrank) := ⟨rfl, rfl, rfl, by decide +kernel, rfl, by decide +kernel, by decide +kernel⟩
abbrev s_isstretch : Stmt := topS 18
abbrev n_isstretch : List Str := ["value", "low", "high"]
abbrev p_isstretch : List Str := ["value"]
theorem sc_isstretch : FnScope n_isstretch p_isstretch (defScope s_isstretch) := ⟨rfl, rfl, rfl, by decide +kernel, rfl, by decide +kernel, by decide +kernel⟩
abbrev s_merged : Stmt := topS 19
abbrev n_merged : List Str := ["pairs", "result", "low", "high", "first", "last"]
abbrev p_merged : List Str := ["pairs"]
theorem sc_merged : FnScope n_merged p_merged (defScope s_merged) := ⟨rfl, rfl, rfl, by decide +kernel, rfl, by decide +kernel, by decide +kernel⟩
abbrev s_touches : Stmt := topS 20
abbrev n_touches : List Str := ["end", "low"]
abbrev p_touches : List Str := ["end", "low"]
theorem sc_touches : FnScope n_touches p_touches (defScope s_touches) := ⟨rfl, rfl, rfl, by decide +kernel, rfl, by decide +kernel, by decide +kernel⟩
abbrev s_countof : Stmt := topS 25
abbrev n_countof : List Str := ["stretches", "low", "high"]
abbrev p_countof : List Str := ["stretches"]
theorem sc_countof : FnScope n_countof p_countof (defScope s_countof) := ⟨rfl, rfl, rfl, by decide +kernel, rfl, by decide +kernel, by decide +kernel⟩
abbrev s_clamped : Stmt := topS 26
abbrev n_clamped : List Str := ["number", "low", "high"]
abbrev p_clamped : List Str := ["number", "low", "high"]
theorem sc_clamped : FnScope n_clamped p_clamped (defScope s_clamped) := ⟨rfl, rfl, rfl, by decide +kernel, rfl, by decide +kernel, by decide +kernel⟩
abbrev s_spaninit : Stmt := inClass (topS 27) 1
abbrev n_spaninit : List Str := ["self", "pairs", "has_none", "index", "pair"]
abbrev p_spaninit : List Str := ["self", "pairs", "has_none"]
theorem sc_spaninit : FnScope n_spaninit p_spaninit (defScope s_spaninit) := ⟨rfl, rfl, rfl, by decide +kernel, rfl, by decide +kernel, by decide +kernel⟩
abbrev s_spanof : Stmt := inClass (topS 27) 4
abbrev n_spanof : List Str := ["contents", "value"]
abbrev p_spanof : List Str := ["contents"]
theorem sc_spanof : FnScope n_spanof p_spanof (defScope s_spanof) := ⟨rfl, rfl, rfl, by decide +kernel, rfl, by decide +kernel, by decide +kernel⟩
abbrev s_spaneq : Stmt := inClass (topS 27) 7
abbrev n_spaneq : List Str := ["self", "other"]
abbrev p_spaneq : List Str := ["self", "other"]
theorem sc_spaneq : FnScope n_spaneq p_spaneq (defScope s_spaneq) := ⟨rfl, rfl, rfl, by decide +kernel, rfl, by decide +kernel, by decide +kernel⟩
abbrev s_spancontains : Stmt := inClass (topS 27) 9
abbrev n_spancontains : List Str := ["self", "content", "low", "high"]
abbrev p_spancontains : List Str := ["self", "content"]
theorem sc_spancontains : FnScope n_spancontains p_spancontains (defScope s_spancontains) := ⟨rfl, rfl, rfl, by decide +kernel, rfl, by decide +kernel, by decide +kernel⟩
abbrev s_spannearest : Stmt := inClass (topS 27) 15
abbrev n_spannearest : List Str := ["self", "number", "best", "low", "high", "found"]
abbrev p_spannearest : List Str := ["self", "number"]
theorem sc_spannearest : FnScope n_spannearest p_spannearest (defScope s_spannearest) := ⟨rfl, rfl, rfl, by decide +kernel, rfl, by decide +kernel, by decide +kernel⟩
abbrev s_pieceinit : Stmt := inClass (topS 29) 1
abbrev n_pieceinit : List Str := ["self", "span", "colour"]
abbrev p_pieceinit : List Str := ["self", "span", "colour"]
theorem sc_pieceinit : FnScope n_pieceinit p_pieceinit (defScope s_pieceinit) := ⟨rfl, rfl, rfl, by decide +kernel, rfl, by decide +kernel, by decide +kernel⟩
abbrev s_piecemembers : Stmt := inClass (topS 29) 2
abbrev n_piecemembers : List Str := ["self", "many", "below", "above", "result"]
abbrev p_piecemembers : List Str := ["self", "many"]
theorem sc_piecemembers : FnScope n_piecemembers p_piecemembers (defScope s_piecemembers) := ⟨rfl, rfl, rfl, by decide +kernel, rfl, by decide +kernel, by decide +kernel⟩
abbrev s_colourof : Stmt := topS 30
abbrev n_colourof : List Str := ["content", "spans", "span"]
abbrev p_colourof : List Str := ["content", "spans"]
theorem sc_colourof : FnScope n_colourof p_colourof (defScope s_colourof) := ⟨rfl, rfl, rfl, by decide +kernel, rfl, by decide +kernel, by decide +kernel⟩
abbrev s_startsof : Stmt := topS 31
abbrev n_startsof : List Str := ["spans", "found", "span", "low", "high"]
abbrev p_startsof : List Str := ["spans"]
theorem sc_startsof : FnScope n_startsof p_startsof (defScope s_startsof) := ⟨rfl, rfl, rfl, by decide +kernel, rfl, by decide +kernel, by decide +kernel⟩
abbrev s_pieces : Stmt := topS 32
abbrev n_pieces : List Str := ["domain", "spans", "result", "starts", "ends", "start", "low", "high", "number"]
abbrev p_pieces : List Str := ["domain", "spans"]
theorem sc_pieces : FnScope n_pieces p_pieces (defScope s_pieces) := ⟨rfl, rfl, rfl, by decide +kernel, rfl, by decide +kernel, by decide +kernel⟩
abbrev s_samples : Stmt := topS 33
abbrev n_samples : List Str := ["domain", "spans", "many", "piece", "content"]
abbrev p_samples : List Str := ["domain", "spans", "many"]
theorem sc_samples : FnScope n_samples p_samples (defScope s_samples) := ⟨rfl, rfl, rfl, by decide +kernel, rfl, by decide +kernel, by decide +kernel⟩
abbrev s_lpot : Stmt := topS 35
abbrev n_lpot : List Str := ["_law_script", "_law_k", "_law_number_here"]
abbrev p_lpot : List Str := ["_law_script", "_law_k"]
theorem sc_lpot : FnScope n_lpot p_lpot (defScope s_lpot) := ⟨rfl, rfl, rfl, by decide +kernel, rfl, by decide +kernel, by decide +kernel⟩
abbrev s_ldraw : Stmt := topS 36
abbrev n_ldraw : List Str := ["_law_pot_here", "_law_many", "_law_found"]
abbrev p_ldraw : List Str := ["_law_pot_here", "_law_many"]
theorem sc_ldraw : FnScope n_ldraw p_ldraw (defScope s_ldraw) := ⟨rfl, rfl, rfl, by decide +kernel, rfl, by decide +kernel, by decide +kernel⟩
abbrev s_lnumber : Stmt := topS 37
abbrev n_lnumber : List Str := ["_law_pot_here", "_law_kind", "_law_found"]
abbrev p_lnumber : List Str := ["_law_pot_here"]
theorem sc_lnumber : FnScope n_lnumber p_lnumber (defScope s_lnumber) := ⟨rfl, rfl, rfl, by decide +kernel, rfl, by decide +kernel, by decide +kernel⟩
abbrev s_ldrawnpairs : Stmt := topS 38
abbrev n_ldrawnpairs : List Str := ["_law_pot_here", "_law_found", "_law_k", "_law_kind", "_law_low", "_law_far", "_law_other"]
abbrev p_ldrawnpairs : List Str := ["_law_pot_here"]
theorem sc_ldrawnpairs : FnScope n_ldrawnpairs p_ldrawnpairs (defScope s_ldrawnpairs) := ⟨rfl, rfl, rfl, by decide +kernel, rfl, by decide +kernel, by decide +kernel⟩
abbrev s_lmember : Stmt := topS 39
abbrev n_lmember : List Str := ["_law_pot_here", "_law_span", "_law_pairs", "_law_none", "_law_at", "_law_low", "_law_high", "_law_kind", "_law_far"]
abbrev p_lmember : List Str := ["_law_pot_here", "_law_span"]
theorem sc_lmember : FnScope n_lmember p_lmember (defScope s_lmember) := ⟨rfl, rfl, rfl, by decide +kernel, rfl, by decide +kernel, by decide +kernel⟩
abbrev s_lhas : Stmt := topS 40
abbrev n_lhas : List Str := ["_law_span", "_law_content", "_law_low", "_law_high"]
abbrev p_lhas : List Str := ["_law_span", "_law_content"]
theorem sc_lhas : FnScope n_lhas p_lhas (defScope s_lhas) := ⟨rfl, rfl, rfl, by decide +kernel, rfl, by decide +kernel, by decide +kernel⟩
abbrev s_lstarts : Stmt := topS 41
abbrev n_lstarts : List Str := ["_law_spans", "_law_found", "_law_pairs", "_law_none", "_law_low", "_law_high"]
abbrev p_lstarts : List Str := ["_law_spans"]
theorem sc_lstarts : FnScope n_lstarts p_lstarts (defScope s_lstarts) := ⟨rfl, rfl, rfl, by decide +kernel, rfl, by decide +kernel, by decide +kernel⟩
abbrev s_lis : Stmt := topS 42
abbrev n_lis : List Str := ["_law_found", "_law_content"]
abbrev p_lis : List Str := ["_law_found", "_law_content"]
theorem sc_lis : FnScope n_lis p_lis (defScope s_lis) := ⟨rfl, rfl, rfl, by decide +kernel, rfl, by decide +kernel, by decide +kernel⟩
abbrev s_lislist : Stmt := topS 43
abbrev n_lislist : List Str := ["_law_found", "_law_due", "_law_k"]
abbrev p_lislist : List Str := ["_law_found", "_law_due"]
theorem sc_lislist : FnScope n_lislist p_lislist (defScope s_lislist) := ⟨rfl, rfl, rfl, by decide +kernel, rfl, by decide +kernel, by decide +kernel⟩
abbrev s_lcolour : Stmt := topS 44
abbrev n_lcolour : List Str := ["_law_cuts", "_law_content", "_law_cut"]
abbrev p_lcolour : List Str := ["_law_cuts", "_law_content"]
theorem sc_lcolour : FnScope n_lcolour p_lcolour (defScope s_lcolour) := ⟨rfl, rfl, rfl, by decide +kernel, rfl, by decide +kernel, by decide +kernel⟩
abbrev s_lduepieces : Stmt := topS 45
abbrev n_lduepieces : List Str := ["_law_domain", "_law_cuts", "_law_found", "_law_starts_here", "_law_k", "_law_low", "_law_high", "_law_number_here", "_law_colour_here"]
abbrev p_lduepieces : List Str := ["_law_domain", "_law_cuts"]
theorem sc_lduepieces : FnScope n_lduepieces p_lduepieces (defScope s_lduepieces) := ⟨rfl, rfl, rfl, by decide +kernel, rfl, by decide +kernel, by decide +kernel⟩
abbrev s_lfirstmembers : Stmt := topS 46
abbrev n_lfirstmembers : List Str := ["_law_low", "_law_high", "_law_many", "_law_found", "_law_near", "_law_far", "_law_numbers", "_law_number_here"]
abbrev p_lfirstmembers : List Str := ["_law_low", "_law_high", "_law_many"]
theorem sc_lfirstmembers : FnScope n_lfirstmembers p_lfirstmembers (defScope s_lfirstmembers) := ⟨rfl, rfl, rfl, by decide +kernel, rfl, by decide +kernel, by decide +kernel⟩
abbrev s_lpieceright : Stmt := topS 47
abbrev n_lpieceright : List Str := ["_law_piece", "_law_pairs", "_law_none", "_law_colour_here", "_law_k"]
abbrev p_lpieceright : List Str := ["_law_piece", "_law_pairs", "_law_none", "_law_colour_here"]
theorem sc_lpieceright : FnScope n_lpieceright p_lpieceright (defScope s_lpieceright) := ⟨rfl, rfl, rfl, by decide +kernel, rfl, by decide +kernel, by decide +kernel⟩
abbrev s_lpiecesright : Stmt := topS 48
abbrev n_lpiecesright : List Str := ["_law_found", "_law_domain", "_law_cuts", "_law_due", "_law_first", "_law_k", "_law_low", "_law_high", "_law_colour_here"]
abbrev p_lpiecesright : List Str := ["_law_found", "_law_domain", "_law_cuts", "_law_due"]
theorem sc_lpiecesright : FnScope n_lpiecesright p_lpiecesright (defScope s_lpiecesright) := ⟨rfl, rfl, rfl, by decide +kernel, rfl, by decide +kernel, by decide +kernel⟩
abbrev s_lmembersright : Stmt := topS 49
abbrev n_lmembersright : List Str := ["_law_found", "_law_domain", "_law_due", "_law_many", "_law_first", "_law_told", "_law_k", "_law_members", "_law_answer"]
abbrev p_lmembersright : List Str := ["_law_found", "_law_domain", "_law_due", "_law_many"]
theorem sc_lmembersright : FnScope n_lmembersright p_lmembersright (defScope s_lmembersright) := ⟨rfl, rfl, rfl, by decide +kernel, rfl, by decide +kernel, by decide +kernel⟩
abbrev s_lplace : Stmt := topS 50
abbrev n_lplace : List Str := ["_law_found", "_law_content", "_law_places", "_law_k"]
abbrev p_lplace : List Str := ["_law_found", "_law_content"]
theorem sc_lplace : FnScope n_lplace p_lplace (defScope s_lplace) := ⟨rfl, rfl, rfl, by decide +kernel, rfl, by decide +kernel, by decide +kernel⟩
abbrev s_lparted : Stmt := topS 51
abbrev n_lparted : List Str := ["_law_found", "_law_contents", "_law_cuts", "_law_few", "_law_one", "_law_two", "_law_here", "_law_there", "_law_alike", "_law_mine", "_law_content", "_law_others"]
abbrev p_lparted : List Str := ["_law_found", "_law_contents", "_law_cuts", "_law_few"]
theorem sc_lparted : FnScope n_lparted p_lparted (defScope s_lparted) := ⟨rfl, rfl, rfl, by decide +kernel, rfl, by decide +kernel, by decide +kernel⟩
abbrev s_law : Stmt := topS 52
abbrev n_law : List Str := ["_law_script", "_law_pot_here", "_law_domain", "_law_cuts", "_law_k", "_law_pairs", "_law_many", "_law_contents", "_law_whole", "_law_given", "_law_none", "_law_kept", "_law_found", "_law_due", "_law_number_here", "_law_told", "_law_few"]
abbrev p_law : List Str := ["_law_script"]
theorem sc_law : FnScope n_law p_law (defScope s_law) := ⟨rfl, rfl, rfl, by decide +kernel, rfl, by decide +kernel, by decide +kernel⟩

/-! ### methods -/
def MethAt (K : PySem.W.Frag) (C : Addr) (m qual : Str) (st : Stmt) (ps : List Str) : Prop := ∃ f fd, Fun K m qual st f fd ∧ Binds K fd ps [] ∧ Meth K C m f
def MCal (P : Program) (w : World) (K : PySem.W.Frag) (mg : Str → Option Value) (base : Heap) (k : Nat) (C : Addr) (m : Str) (sp : Sp) : Prop := ∃ f, Meth K C m f ∧ FnR P w K mg base CX0 k f sp
/-- Span's __init__ -/
structure SpanMk (K : PySem.W.Frag) (C f : Addr) (fd : FuncData) : Prop where
  F : ∃ dvs kws, FunD K "__init__" "Span.__init__" (defArgs s_spaninit) (defBody s_spaninit) (defScope s_spaninit) dvs kws f fd
  M : Mk K C f
  kb : KBn K fd p_spaninit 2 ["has_none"] (fun us ws => us ++ ws) (fun vs zs => vs ++ zs)
  bd : ∃ ds, Vals [V.bl false] ds ∧ Binds K fd p_spaninit ds
/-- Span's of -/
structure SpanOf (K : PySem.W.Frag) (C : Addr) (f : Addr) : Prop where
  fn : ∃ (oc : Value) (od : Option Addr) (dV kV doc pm : Value) (an : Option Addr) (cdv ct : Value) (osl : Array (Option Value)), K.lookup f = some ⟨oc, od, .func (PySem.W.fnOf "of" "Span.of" (defArgs s_spanof) (defBody s_spanof) (defScope s_spanof) dV kV doc pm an cdv ct), osl⟩ ∧ PySem.W.codeIn K cdv "Span.of" = true ∧
    ∀ us rest : List Value, us.length = ([] : List Str).length → bindArgs (PySem.W.fnOf "of" "Span.of" (defArgs s_spanof) (defBody s_spanof) (defScope s_spanof) dV kV doc pm an cdv ct) ⟨us ++ rest, []⟩ = (newTuple rest >>= fun t => pure (([] : List Str).zip us ++ [(("contents" : Str), t)]))
  sm : ∃ mc p, ClX.CRead K C mc ∧ K3R.SMet K C mc "of" p f
/-- a class with slots, what it has -/
structure SlC (K : PySem.W.Frag) (mg : Str → Option Value) (x : Str) (C : Addr) : Prop where
  g : mg x = some (.ref C)
  cl : SCls K C
  isi : SIsi K C
  kit : PySem.W.kitOne K (.ref C) (.ref C) = some true
/-- what the top has left -/
structure Txt (K : PySem.W.Frag) (mg : Str → Option Value) (CS CP : Addr) : Prop where
  len_ : mg "len" = none
  sorted_ : mg "sorted" = none
  isinstance_ : mg "isinstance" = none
  tuple_ : mg "tuple" = none
  int_ : mg "int" = none
  bool_ : mg "bool" = none
  any_ : mg "any" = none
  all_ : mg "all" = none
  sum_ : mg "sum" = none
  max_ : mg "max" = none
  min_ : mg "min" = none
  abs_ : mg "abs" = none
  set_ : mg "set" = none
  list_ : mg "list" = none
  range_ : mg "range" = none
  zip_ : mg "zip" = none
  enumerate_ : mg "enumerate" = none
  S : SlC K mg "Span" CS
  Pc : SlC K mg "Piece" CP
  s0 : ∃ p, Slot1 K CS "stretches" p 2
  s1 : ∃ p, Slot1 K CS "has_none" p 0
  s2 : ∃ p, Slot1 K CS "size" p 1
  p0 : ∃ p, Slot1 K CP "span" p 1
  p1 : ∃ p, Slot1 K CP "colour" p 0
  mkS : ∃ f fd, SpanMk K CS f fd
  of_ : ∃ f, SpanOf K CS f
  mEq : MethAt K CS "__eq__" "Span.__eq__" s_spaneq p_spaneq
  ne_ : PySem.W.findIn K (.ref CS) "__ne__" = some (some (.builtin "object.__ne__"))
  mCon : MethAt K CS "__contains__" "Span.__contains__" s_spancontains p_spancontains
  mNear : MethAt K CS "nearest" "Span.nearest" s_spannearest p_spannearest
  mkP : ∃ f fd, Fun K "__init__" "Piece.__init__" s_pieceinit f fd ∧ Binds K fd p_pieceinit [] ∧ Mk K CP f
  mMem : MethAt K CP "members" "Piece.members" s_piecemembers p_piecemembers
  d_is_whole : DefAt K mg "is_whole" s_iswhole p_iswhole
  d_is_content : DefAt K mg "is_content" s_iscontent p_iscontent
  d_rank : DefAt K mg "rank" s_rank p_rank
  d_low_rank : DefAt K mg "low_rank" s_lowrank p_lowrank
  d_is_stretch : DefAt K mg "is_stretch" s_isstretch p_isstretch
  d_merged : DefAt K mg "merged" s_merged p_merged
  d_touches : DefAt K mg "touches" s_touches p_touches
  d_count_of : DefAt K mg "count_of" s_countof p_countof
  d_clamped : DefAt K mg "clamped" s_clamped p_clamped
  d_colour_of : DefAt K mg "colour_of" s_colourof p_colourof
  d_starts_of : DefAt K mg "starts_of" s_startsof p_startsof
  d_pieces : DefAt K mg "pieces" s_pieces p_pieces
  d_samples : DefAt K mg "samples" s_samples p_samples
  d_pot : DefAt K mg "_law_pot" s_lpot p_lpot
  d_draw : DefAt K mg "_law_draw" s_ldraw p_ldraw
  d_number : DefAt K mg "_law_number" s_lnumber p_lnumber
  d_drawn_pairs : DefAt K mg "_law_drawn_pairs" s_ldrawnpairs p_ldrawnpairs
  d_member : DefAt K mg "_law_member" s_lmember p_lmember
  d_has : DefAt K mg "_law_has" s_lhas p_lhas
  d_starts : DefAt K mg "_law_starts" s_lstarts p_lstarts
  d_is : DefAt K mg "_law_is" s_lis p_lis
  d_is_list : DefAt K mg "_law_is_list" s_lislist p_lislist
  d_colour : DefAt K mg "_law_colour" s_lcolour p_lcolour
  d_due_pieces : DefAt K mg "_law_due_pieces" s_lduepieces p_lduepieces
  d_first_members : DefAt K mg "_law_first_members" s_lfirstmembers p_lfirstmembers
  d_piece_right : DefAt K mg "_law_piece_right" s_lpieceright p_lpieceright
  d_pieces_right : DefAt K mg "_law_pieces_right" s_lpiecesright p_lpiecesright
  d_members_right : DefAt K mg "_law_members_right" s_lmembersright p_lmembersright
  d_place : DefAt K mg "_law_place" s_lplace p_lplace
  d_parted : DefAt K mg "_law_parted" s_lparted p_lparted

section
variable {P : Program} {w : World} {K : PySem.W.Frag} {mg : Str → Option Value} {base : Heap} {C : Addr}
theorem MethAt.cal {m qual : Str} {st : Stmt} {ps N : List Str} {k : Nat} {sp : Sp} (D : MethAt K C m qual st ps) (S : FnScope N ps (defScope st)) (len : ∀ vs H Q E, sp vs H Q E → vs.length = ps.length)
    (body : ∀ (cdv : Value) (f : Addr) (A : Around) (outer : List Env) (s : Shared) (H : Hp) (vs : List V) (Q : VK) (E : XK), Room k (A.deeper (envOfC qual (defScope st) s.heap.objs.size f cdv)) → sp vs H Q E →
      ∃ t, PSs (cxOf CX0 P w K mg base N qual (defScope st) f cdv A outer s H E).nox (defBody st) t ∧ t { nx := fun _ H' => Q .non H', rt := Q } (start N vs) H) : MCal P w K mg base (k + 1) C m sp := by
  obtain ⟨f, fd, F, b, M⟩ := D
  have R := (F.ok (P := P) (w := w) (mg := mg) (base := base) (k := k) (sp := sp) S len (fun cdv A outer s H vs Q E hr h => body cdv f A outer s H vs Q E hr h)).raw b .nil
  refine ⟨f, M, R.imp fun vs H Q E h => ?_⟩
  rw [List.append_nil]
  exact h
end
section
variable {X : Cx} {C : Addr} {o e : Expr} {es : List Expr} {m : Str} {pos apos : Pos} {ta : TE} {t : TA} {k j : Nat} {sp : Sp} {pl : Sem Bool}
theorem pe_ms (he : PE X o ta) (c : SCls X.K C) (M : MCal X.prog X.w X.K X.mg X.base k C m sp) (hr : Room j X.A) (hk : k ≤ j) (ha : PA X (e :: es) t)
    (hst : starEach (e :: es) X.env = (false, eval e X.env) :: starEach es X.env := by rfl) (hpl : (backTo pos (starEach es X.env)).any (·.1) = false := by rfl)
    (ht : eval (.Call (.Attribute o m apos) (e :: es) [] pos) X.env = (do
      let ov ← eval o X.env
      standAt apos.atName
      let (f, first) ← holding [ov] (getMethod ov m pl)
      callWith pos f first (backTo pos (starEach (e :: es) X.env)) (backToKw pos (keywordEach [] X.env))) := by rfl) :
    PE X (.Call (.Attribute o m apos) (e :: es) [] pos) (tMethSl C sp E0 ta t) := by
  obtain ⟨f, hm, F⟩ := M
  exact pe_methSl he c hm F (hr.mono hk) pass0 ha hst hpl ht
theorem op_in (M : MCal X.prog X.w X.K X.mg X.base k C "__contains__" sp) (hr : Room j X.A) (hk : k ≤ j) : OpR X (compareOp .In) (K3R.rInOwn C false sp E0) := by
  obtain ⟨f, hm, F⟩ := M
  exact K3R.op_inOwn hm.at_ hm.fn F (hr.mono hk) pass0
theorem op_notin (M : MCal X.prog X.w X.K X.mg X.base k C "__contains__" sp) (hr : Room j X.A) (hk : k ≤ j) : OpR X (compareOp .NotIn) (K3R.rInOwn C true sp E0) := by
  obtain ⟨f, hm, F⟩ := M
  exact K3R.op_notInOwn hm.at_ hm.fn F (hr.mono hk) pass0
theorem op_neS (hI : SIsi X.K C) (hn : PySem.W.findIn X.K (.ref C) "__ne__" = some (some (.builtin "object.__ne__"))) (M : MCal X.prog X.w X.K X.mg X.base k C "__eq__" sp) (hr : Room j X.A) (hk : k + 1 ≤ j) : OpR X (compareOp .NotEq) (K3R.rNeOwn C sp E0) := by
  obtain ⟨f, hm, F⟩ := M
  exact K3R.op_neOwn hI.cm hn hm.at_ hm.fn F (hr.mono hk) pass0
end
end K3

/-! K3A: spans: the small defs. -/
namespace K3
open PySem PySem.Spec PyProof.Rows L2 Evl SlX
section
variable {P : Program} {w : World} {K : PySem.W.Frag} {mg : Str → Option Value} {base : Heap} {CS CP : Addr}
theorem kitNI : PySem.W.kitOne K (.type "NoneType") (.type "int") = some false := kit_ty (by decide +kernel)
theorem kitII : PySem.W.kitOne K (.type "int") (.type "int") = some true := kit_ty (by decide +kernel)
theorem kitIB : PySem.W.kitOne K (.type "int") (.type "bool") = some false := kit_ty (by decide +kernel)
theorem kitBB : PySem.W.kitOne K (.type "bool") (.type "bool") = some true := kit_ty (by decide +kernel)
theorem kitTT : PySem.W.kitOne K (.type "tuple") (.type "tuple") = some true := kit_ty (by decide +kernel)
theorem kitLL : PySem.W.kitOne K (.type "list") (.type "list") = some true := kit_ty (by decide +kernel)
theorem tyI {H : Hp} {i : Int} : TyX K H (.int i) (.type "int") := .base (.int i)
theorem tyN {H : Hp} : TyX K H .non (.type "NoneType") := .base .non

/-! ### is_whole, is_content -/
def sp_is_whole : Sp := fun vs H Q _ => ∃ o, vs = [oV o] ∧ RetV (.bl o.isSome) H Q
theorem ok_is_whole (T : Txt K mg CS CP) : Cal P w K mg base 1 "is_whole" sp_is_whole := by
  refine T.d_is_whole.cal sc_iswhole (fun vs H Q E h => ?_) (fun cdv f A outer s H vs Q E hr h => ?_)
  · obtain ⟨o, rfl, _⟩ := h
    rfl
  · obtain ⟨o, rfl, q⟩ := h
    refine ⟨_, (pss_one (ps_ret (pe_and (pe_callB call_isi (by rfl) T.isinstance_ (by decide +kernel) (pa_cons (pv 0) (pa_cons (pe_bltn (v := .ty "int") (by rfl) T.int_ (by decide +kernel) rfl) pa_nil))) (pe_one (pe_not (pe_callB call_isi (by rfl) T.isinstance_ (by decide +kernel) (pa_cons (pv 0) (pa_cons (pe_bltn (v := .ty "bool") (by rfl) T.bool_ (by decide +kernel) rfl) pa_nil)))))))), ?_⟩
    cases o with
    | none => exact s_retR (v := .bl (false && true)) (ev_andV (ev_isi (ev_var rfl) ev_c (.ty _) kitNI fun _ _ => tyN) (fun z => nomatch z)) q
    | some i => exact s_retR (v := .bl (true && !false)) (ev_andV (ev_isi (ev_var rfl) ev_c (.ty _) kitII fun _ _ => tyI) (fun _ => ev_notV (ev_isi (ev_var rfl) ev_c (.ty _) kitIB fun _ _ => tyI))) q
def sp_is_content : Sp := fun vs H Q _ => ∃ o, vs = [oV o] ∧ RetV (.bl true) H Q
theorem ok_is_content (T : Txt K mg CS CP) : Cal P w K mg base 2 "is_content" sp_is_content := by
  have c_is_whole : Cal P w K mg base 1 "is_whole" sp_is_whole := ok_is_whole T
  refine T.d_is_content.cal sc_iscontent (fun vs H Q E h => ?_) (fun cdv f A outer s H vs Q E hr h => ?_)
  · obtain ⟨o, rfl, _⟩ := h
    rfl
  · obtain ⟨o, rfl, q⟩ := h
    refine ⟨_, (pss_one (ps_ret (pe_or (pe_cmpR op_isN (pv 0) pe_non (nomark _)) (pe_one (pe_c c_is_whole hr (by decide) (by rfl) (pa_cons (pv 0) pa_nil)))))), ?_⟩
    have e : (decide (oV o = V.non) || o.isSome) = true := by cases o <;> rfl
    refine s_retR (v := .bl (decide (oV o = V.non) || o.isSome)) (ev_orV (ev_isN (ev_var rfl)) (fun _ => ev_cl (ea_cons (ev_var rfl) ea_nil) fun H1 _ Q q => ⟨o, rfl, q⟩)) ?_
    rw [e]
    exact q

/-! ### rank, low_rank -/
def rk (o : Option Int) : Int × Int := match o with
  | none => (0, 0)
  | some i => (1, i)
def sp_rank : Sp := fun vs H Q _ => ∃ o, vs = [oV o] ∧ RetN (fun p H' => H' p = some (.tup [.int (rk o).1, .int (rk o).2])) H Q
theorem ok_rank (T : Txt K mg CS CP) : Cal P w K mg base 1 "rank" sp_rank := by
  refine T.d_rank.cal sc_rank (fun vs H Q E h => ?_) (fun cdv f A outer s H vs Q E hr h => ?_)
  · obtain ⟨o, rfl, _⟩ := h
    rfl
  · obtain ⟨o, rfl, q⟩ := h
    refine ⟨_, (pss_cons (ps_if (pt_cmpR op_isN (pv 0) pe_non (nomark _)) (pss_one (ps_ret (pe_tup (pa_cons pe_int (pa_cons pe_int pa_nil))))) pss_nil)
      (pss_one (ps_ret (pe_tup (pa_cons pe_int (pa_cons (pv 0) pa_nil)))))), ?_⟩
    refine q_when (et_T (ev_isN (ev_var rfl))) (fun hb H1 e1 => ?_) (fun hb H1 e1 => ?_)
    · cases o with
      | some i => cases hb
      | none => exact s_retN (en_u (eu_tup (ea_cons ev_c (ea_cons ev_c ea_nil)) (Nat.le_of_ble_eq_true rfl))) fun p H2 hp e2 h2 => q.go e1 hp e2 h2
    · cases o with
      | none => cases hb
      | some i => exact s_retN (en_u (eu_tup (ea_cons ev_c (ea_cons (ev_var rfl) ea_nil)) (Nat.le_of_ble_eq_true rfl))) fun p H2 hp e2 h2 => q.go e1 hp e2 h2
def sp_low_rank : Sp := fun vs H Q _ => ∃ v s, vs = [v] ∧ Sv H v s ∧ RetN (fun p H' => H' p = some (.tup [.int (rk s.1).1, .int (rk s.1).2])) H Q
theorem ok_low_rank (T : Txt K mg CS CP) : Cal P w K mg base 2 "low_rank" sp_low_rank := by
  have c_rank : Cal P w K mg base 1 "rank" sp_rank := ok_rank T
  refine T.d_low_rank.cal sc_lowrank (fun vs H Q E h => ?_) (fun cdv f A outer s H vs Q E hr h => ?_)
  · obtain ⟨v, st, rfl, _⟩ := h
    rfl
  · obtain ⟨v, st, rfl, ⟨a, rfl, ha⟩, q⟩ := h
    refine ⟨_, (pss_one (ps_ret (pe_c c_rank hr (by decide) (by rfl) (pa_cons (pe_ix ix_tup (pv 0) pe_int (fun _ _ => rfl)) pa_nil)))), ?_⟩
    exact s_retNR (en_cl (ea_cons (ev_ixT (ev_var rfl) ev_c ha (atI_nat (j := 0) rfl)) ea_nil) fun H1 e Q q => ⟨st.1, rfl, q⟩) q

/-! ### touches, clamped -/
def sp_touches : Sp := fun vs H Q _ => ∃ e l, vs = [oV e, oV l] ∧ RetV (.bl (touch e l)) H Q
theorem ok_touches (T : Txt K mg CS CP) : Cal P w K mg base 1 "touches" sp_touches := by
  refine T.d_touches.cal sc_touches (fun vs H Q E h => ?_) (fun cdv f A outer s H vs Q E hr h => ?_)
  · obtain ⟨e, l, rfl, _⟩ := h
    rfl
  · obtain ⟨e, l, rfl, q⟩ := h
    refine ⟨_, (pss_one (ps_ret (pe_or (pe_cmpR op_isN (pv 0) pe_non (nomark _)) (pe_or (pe_cmpR op_isN (pv 1) pe_non (nomark _)) (pe_one (pe_cmpR op_le (pv 1) (pe_op op_add (pv 0) pe_int) (nomark _))))))), ?_⟩
    cases e with
    | none => exact s_retR (v := .bl (decide (V.non = V.non) || true)) (ev_orV (ev_isN (ev_var rfl)) (fun z => nomatch z)) q
    | some e => cases l with
      | none => exact s_retR (v := .bl (decide (V.int e = V.non) || (decide (V.non = V.non) || true))) (ev_orV (ev_isN (ev_var rfl)) (fun _ => ev_orV (ev_isN (ev_var rfl)) (fun z => nomatch z))) q
      | some l => exact s_retR (v := .bl (decide (V.int e = V.non) || (decide (V.int l = V.non) || decide (l ≤ e + 1)))) (ev_orV (ev_isN (ev_var rfl)) (fun _ => ev_orV (ev_isN (ev_var rfl)) (fun _ => ev_I (ev_var rfl) (ev_I (ev_var rfl) ev_c)))) q
def sp_clamped : Sp := fun vs H Q _ => ∃ n l h, vs = [.int n, oV l, oV h] ∧ RetV (.int (clampI n (l, h))) H Q
theorem clamp_1 {n l : Int} {h : Option Int} (z : n < l) : clampI n (some l, h) = l := by
  unfold clampI
  exact if_pos z
theorem clamp_2 {n h : Int} {l : Option Int} (z : ∀ a, l = some a → ¬ n < a) (z2 : n > h) : clampI n (l, some h) = h := by
  unfold clampI
  cases l with
  | none => exact if_pos z2
  | some l => exact (if_neg (z l rfl)).trans (if_pos z2)
theorem clamp_3 {n : Int} {l h : Option Int} (z : ∀ a, l = some a → ¬ n < a) (z2 : ∀ a, h = some a → ¬ n > a) : clampI n (l, h) = n := by
  unfold clampI
  cases l with
  | none => cases h with
    | none => rfl
    | some h => exact if_neg (z2 h rfl)
  | some l => cases h with
    | none => exact if_neg (z l rfl)
    | some h => exact (if_neg (z l rfl)).trans (if_neg (z2 h rfl))
theorem et_low {σ : L2.St} {H : Hp} {ta tb : TE} {l : Option Int} {n : Int} (ha : Ev ta σ H (oV l)) (hb : Ev tb σ H (.int n)) :
    EvT (tAnd (tTest (tOp rNotNo ta (tC .non))) (tTest (tOp (rI0 fun i j => .bl (decide (i < j))) tb ta))) σ H (l.any fun a => decide (n < a)) := by
  cases l with
  | none => exact et_and (a := !decide (V.non = V.non)) (b := true) (et_T (ev_notN ha)) (fun z => nomatch z)
  | some a => exact et_and (a := !decide (V.int a = V.non)) (et_T (ev_notN ha)) (fun _ => et_T (ev_I hb ha))
theorem et_high {σ : L2.St} {H : Hp} {ta tb : TE} {l : Option Int} {n : Int} (ha : Ev ta σ H (oV l)) (hb : Ev tb σ H (.int n)) :
    EvT (tAnd (tTest (tOp rNotNo ta (tC .non))) (tTest (tOp (rI0 fun i j => .bl (decide (j < i))) tb ta))) σ H (l.any fun a => decide (a < n)) := by
  cases l with
  | none => exact et_and (a := !decide (V.non = V.non)) (b := true) (et_T (ev_notN ha)) (fun z => nomatch z)
  | some a => exact et_and (a := !decide (V.int a = V.non)) (et_T (ev_notN ha)) (fun _ => et_T (ev_I hb ha))
theorem ok_clamped (T : Txt K mg CS CP) : Cal P w K mg base 1 "clamped" sp_clamped := by
  refine T.d_clamped.cal sc_clamped (fun vs H Q E h => ?_) (fun cdv f A outer s H vs Q E hr h => ?_)
  · obtain ⟨n, l, u, rfl, _⟩ := h
    rfl
  · obtain ⟨n, l, u, rfl, q⟩ := h
    refine ⟨_, (pss_cons (ps_if (PW.pt (pw_and (pt_cmpR op_notN (pv 1) pe_non (nomark _)) (pw_and1 (pt_cmpR op_lt (pv 0) (pv 1) (nomark _))))) (pss_one (ps_ret (pv 1))) pss_nil)
      (pss_cons (ps_if (PW.pt (pw_and (pt_cmpR op_notN (pv 2) pe_non (nomark _)) (pw_and1 (pt_cmpR op_gt (pv 0) (pv 2) (nomark _))))) (pss_one (ps_ret (pv 2))) pss_nil)
      (pss_one (ps_ret (pv 0))))), ?_⟩
    refine q_when (et_low (l := l) (n := n) (ev_var rfl) (ev_var rfl)) (fun hb H1 e1 => ?_) (fun hb H1 e1 => ?_)
    · cases l with
      | none => cases hb
      | some l =>
        refine s_retR (ev_var rfl) fun H2 e2 => ?_
        have := q H2 (e1.trans e2)
        rw [clamp_1 (of_decide_eq_true hb)] at this
        exact this
    · have z1 : ∀ a, l = some a → ¬ n < a := fun a ea => by
        subst ea
        exact of_decide_eq_false hb
      refine q_when (et_high (l := u) (n := n) (ev_var rfl) (ev_var rfl)) (fun hb2 H2 e2 => ?_) (fun hb2 H2 e2 => ?_)
      · cases u with
        | none => cases hb2
        | some u =>
          refine s_retR (ev_var rfl) fun H3 e3 => ?_
          have := q H3 ((e1.trans e2).trans e3)
          rw [clamp_2 z1 (of_decide_eq_true hb2)] at this
          exact this
      · have z2 : ∀ a, u = some a → ¬ n > a := fun a ea => by
          subst ea
          exact of_decide_eq_false hb2
        refine s_retR (ev_var rfl) fun H3 e3 => ?_
        have := q H3 ((e1.trans e2).trans e3)
        rw [clamp_3 z1 z2] at this
        exact this
end
end K3

/-! K3B: spans: is_stretch, count_of, merged. -/
namespace K3
open PySem PySem.Spec PyProof.Rows L2 Evl SlX
section
variable {K : PySem.W.Frag} {σ : L2.St} {H H' : Hp} {ta tb te tl : TE} {t u tt : TT} {x y z v : V} {D : Ends} {tz : TS} {g : TG}
/-! ### unpacking, comprehensions with any target -/
theorem s_unp2 {i j : Nat} {a : Addr} (h : Ev te σ H (.ref a)) (ht : H a = some (.tup [x, y])) (k : ∀ H1, Ex H H1 → D.nx ((σ.set i (some x)).set j (some y)) H1) : tAsg te (gTup K 2 (gCons (gName i) (gCons (gName j) gNil))) D σ H :=
  h H (Ex.refl H) _ fun H1 e => ⟨a, [x, y], rfl, SqT.of (e _ _ ht), rfl, x, [y], rfl, y, [], rfl, rfl, k H1 e⟩
theorem q_unp2 {i j : Nat} {a : Addr} (h : Ev te σ H (.ref a)) (ht : H a = some (.tup [x, y])) (k : ∀ H1, Ex H H1 → tz D ((σ.set i (some x)).set j (some y)) H1) : tSeq (tAsg te (gTup K 2 (gCons (gName i) (gCons (gName j) gNil)))) tz D σ H :=
  s_unp2 (D := { D with nx := tz D }) h ht k
theorem g_unp2 {i j : Nat} {a : Addr} {R : L2.St → Hp → Prop} (ht : H a = some (.tup [x, y])) (k : R ((σ.set i (some x)).set j (some y)) H) : gTup K 2 (gCons (gName i) (gCons (gName j) gNil)) (.ref a) σ H R :=
  ⟨a, [x, y], rfl, SqT.of ht, rfl, x, [y], rfl, y, [], rfl, rfl, k⟩
theorem et_yes : EvT tYes σ H true := fun H1 _ _ q => q H1 (Ex.refl H1)
theorem el_gT {a : Addr} {xs : List V} {vs : List Nat} (f : Nat → Bool) (v : Nat → V) (si : Nat → L2.St) (h : Ev tl σ H (.ref a)) (hx : H a = some (.tup xs)) (hz : xs.length ≤ 40000) (hw : ∀ i, wipe (si i) vs = wipe σ vs)
    (hg : ∀ i x H1 (R : L2.St → Hp → Prop), Ex H H1 → xs[i]? = some x → R (si i) H1 → g x (wipe σ vs) H1 R) (ht : ∀ i H1, Ex H H1 → i < xs.length → EvT tt (si i) H1 (f i)) (he : ∀ i H1, Ex H H1 → i < xs.length → f i = true → Ev te (si i) H1 (v i)) :
    EvL (tLc (iTup K tl) g tt te vs) σ H (given xs.length f v) := fun H0 e Q q => h H0 e _ fun H1 e1 => ⟨a, rfl, ⟨xs, SqT.of ((e.trans e1) _ _ hx)⟩, fun Dl hD =>
  lc_tup (xs := xs) (Cw H1 f v Dl) ⟨hD, Ex.new hD, upd_same⟩ (fun i H' _ p => SqT.of (((e.trans e1).trans p.2.1) _ _ hx)) (fun i x H' hi p => by
    have hl := (List.getElem?_eq_some_iff.mp hi).1
    exact hg i x H' _ ((e.trans e1).trans p.2.1) hi ⟨hw i, cw_turn p (by omega) (ht i H1 (e.trans e1) hl) (fun hf => he i H1 (e.trans e1) hl hf)⟩)
    (fun H' p => q Dl H' (fresh_back e1 p.1) (e1.trans p.2.1) p.2.2)⟩
theorem el_gL {a : Addr} {xs : List V} {vs : List Nat} (f : Nat → Bool) (v : Nat → V) (si : Nat → L2.St) (h : Ev tl σ H (.ref a)) (hx : H a = some (.lst xs)) (hz : xs.length ≤ 40000) (hw : ∀ i, wipe (si i) vs = wipe σ vs)
    (hg : ∀ i x H1 (R : L2.St → Hp → Prop), Ex H H1 → xs[i]? = some x → R (si i) H1 → g x (wipe σ vs) H1 R) (ht : ∀ i H1, Ex H H1 → i < xs.length → EvT tt (si i) H1 (f i)) (he : ∀ i H1, Ex H H1 → i < xs.length → f i = true → Ev te (si i) H1 (v i)) :
    EvL (tLc (iList K tl) g tt te vs) σ H (given xs.length f v) := fun H0 e Q q => h H0 e _ fun H1 e1 => ⟨a, rfl, ⟨xs, SqL.of ((e.trans e1) _ _ hx)⟩, fun Dl hD =>
  lc_list (xs := xs) (Cw H1 f v Dl) ⟨hD, Ex.new hD, upd_same⟩ (fun i H' _ p => SqL.of (((e.trans e1).trans p.2.1) _ _ hx)) (fun i x H' hi p => by
    have hl := (List.getElem?_eq_some_iff.mp hi).1
    exact hg i x H' _ ((e.trans e1).trans p.2.1) hi ⟨hw i, cw_turn p (by omega) (ht i H1 (e.trans e1) hl) (fun hf => he i H1 (e.trans e1) hl hf)⟩)
    (fun H' p => q Dl H' (fresh_back e1 p.1) (e1.trans p.2.1) p.2.2)⟩
theorem given_all (n : Nat) (v : Nat → V) : given n (fun _ => true) v = (List.range n).map v := by
  unfold given
  rw [List.filter_eq_self.mpr (fun _ _ => rfl)]
theorem map_range_get {α : Type} (f : α → V) (d : α) : ∀ ps : List α, (List.range ps.length).map (fun i => f (ps.getD i d)) = ps.map f := by
  intro ps
  apply List.ext_getElem?
  intro i
  by_cases h : i < ps.length
  · rw [List.getElem?_map, List.getElem?_range h, List.getElem?_map, List.getElem?_eq_getElem h]
    simp [h]
  · rw [List.getElem?_eq_none (by simpa using h), List.getElem?_eq_none (by simpa using h)]
theorem ev_any {bs : List Bool} (h : EvL te σ H (bs.map V.bl)) : Ev (tCB (rAny K) (tCons te tNil)) σ H (.bl (bs.any id)) := fun H1 e Q q => h H1 e _ fun p H2 _ e2 h2 => ⟨p, bs, rfl, SqL.of h2, q H2 e2⟩
theorem ev_all {bs : List Bool} (h : EvL te σ H (bs.map V.bl)) : Ev (tCB (rAll K) (tCons te tNil)) σ H (.bl (bs.all id)) := fun H1 e Q q => h H1 e _ fun p H2 _ e2 h2 => ⟨p, bs, rfl, SqL.of h2, q H2 e2⟩
theorem ev_sum {ns : List Int} (h : EvL te σ H (ns.map V.int)) : Ev (tCB (rSum K) (tCons te tNil)) σ H (.int ns.sum) := fun H1 e Q q => h H1 e _ fun p H2 _ e2 h2 => ⟨p, ns, rfl, SqL.of h2, q H2 e2⟩
end
section
variable {P : Program} {w : World} {K : PySem.W.Frag} {mg : Str → Option Value} {base : Heap} {CS CP : Addr}
/-! ### is_stretch -/
def sp_is_stretch : Sp := fun vs H Q _ => ∃ v p, vs = [v] ∧ Sv H v p ∧ okS p ∧ RetV (.bl true) H Q
theorem ok_is_stretch (T : Txt K mg CS CP) : Cal P w K mg base 3 "is_stretch" sp_is_stretch := by
  have c_is_content : Cal P w K mg base 2 "is_content" sp_is_content := ok_is_content T
  refine T.d_is_stretch.cal sc_isstretch (fun vs H Q E h => ?_) (fun cdv f A outer s H vs Q E hr h => ?_)
  · obtain ⟨v, p, rfl, _⟩ := h
    rfl
  · obtain ⟨v, ⟨l, u⟩, rfl, ⟨a, rfl, ha⟩, ho, q⟩ := h
    refine ⟨_, (pss_cons (ps_if (PW.pt (pw_or (pt_not (pt_val (pe_callB call_isi (by rfl) T.isinstance_ (by decide +kernel) (pa_cons (pv 0) (pa_cons (pe_bltn (v := .ty "tuple") (by rfl) T.tuple_ (by decide +kernel) rfl) pa_nil))))) (pw_or1 (pt_cmpR op_ne (pe_callB call_len_seq (by rfl) T.len_ PySem.boot_len (pa_cons (pv 0) pa_nil)) pe_int (nomark _))))) (pss_one (ps_ret pe_bl)) pss_nil)
      (pss_cons (ps_asg (pv 0) (pg_tup rfl (pgs_cons (pg_name (i := 1) sc_isstretch.nd rfl (by first | exact Or.inl rfl | exact Or.inr rfl)) (pgs_cons (pg_name (i := 2) sc_isstretch.nd rfl (by first | exact Or.inl rfl | exact Or.inr rfl)) pgs_nil))))
      (pss_cons (ps_if (PW.pt (pw_or (pt_not (pt_val (pe_c c_is_content hr (by decide) (by rfl) (pa_cons (pv 1) pa_nil)))) (pw_or1 (pt_not (pt_val (pe_c c_is_content hr (by decide) (by rfl) (pa_cons (pv 2) pa_nil))))))) (pss_one (ps_ret pe_bl)) pss_nil)
      (pss_one (ps_ret (pe_or (pe_cmpR op_isN (pv 1) pe_non (nomark _)) (pe_or (pe_cmpR op_isN (pv 2) pe_non (nomark _)) (pe_one (pe_cmpR op_le (pv 1) (pv 2) (nomark _)))))))))), ?_⟩
    refine q_when (b := !true || !decide (V.int 2 = V.int 2)) (et_or (et_not (et_V (ev_isi (ev_var rfl) ev_c (.ty _) kitTT fun H1 e => .base (.tup (e _ _ ha))))) (fun _ => et_T (ev_ne (ev_lenT (ev_var rfl) ha) ev_c rfl))) (fun hb => nomatch hb) (fun _ H1 e1 => ?_)
    refine q_unp2 (ev_var rfl) (e1 _ _ ha) fun H2 e2 => ?_
    refine q_when (b := !true || !true) (et_or (et_not (et_V (ev_cl (ea_cons (ev_var rfl) ea_nil) fun H1 e Q q => ⟨l, rfl, q⟩))) (fun _ => et_not (et_V (ev_cl (ea_cons (ev_var rfl) ea_nil) fun H1 e Q q => ⟨u, rfl, q⟩)))) (fun hb => nomatch hb) (fun _ H3 e3 => ?_)
    have fin : RetV (.bl true) H3 Q := fun H4 e4 => q H4 (((e1.trans e2).trans e3).trans e4)
    cases l with
    | none => exact s_retR (v := .bl (decide (V.non = V.non) || true)) (ev_orV (ev_isN (ev_var rfl)) (fun z => nomatch z)) fin
    | some l => cases u with
      | none => exact s_retR (v := .bl (decide (V.int l = V.non) || (decide (V.non = V.non) || true))) (ev_orV (ev_isN (ev_var rfl)) (fun _ => ev_orV (ev_isN (ev_var rfl)) (fun z => nomatch z))) fin
      | some u =>
        refine s_retR (v := .bl (decide (V.int l = V.non) || (decide (V.int u = V.non) || decide (l ≤ u)))) (ev_orV (ev_isN (ev_var rfl)) (fun _ => ev_orV (ev_isN (ev_var rfl)) (fun _ => ev_I (ev_var rfl) (ev_var rfl)))) ?_
        rw [decide_eq_true (ho l u rfl rfl)]
        exact fin

/-! ### count_of -/
def noS : Sx := (none, none)
def sp_count_of : Sp := fun vs H Q _ => ∃ t ts ps, vs = [.ref t] ∧ H t = some (.tup ts) ∧ Svs H ts ps ∧ ps.length ≤ 1000 ∧ ∀ o : Option Int, RetV (oV o) H Q
theorem ok_count_of (T : Txt K mg CS CP) : Cal P w K mg base 1 "count_of" sp_count_of := by
  refine T.d_count_of.cal sc_countof (fun vs H Q E h => ?_) (fun cdv f A outer s H vs Q E hr h => ?_)
  · obtain ⟨t, ts, ps, rfl, _⟩ := h
    rfl
  · obtain ⟨t, ts, ps, rfl, ht, hs, hl, q⟩ := h
    refine ⟨_, (pss_cons (ps_if (pt_val (pe_callB (cr_any rfl) (by rfl) T.any_ (by decide +kernel) (pa_cons (pe_lc (own := [("low", 1), ("high", 2)]) (g := gTup K 2 (gCons (gName 1) (gCons (gName 2) gNil))) rfl sc_countof.nd (pi_tup (pv 0)) (blkOk_by (own := [("low", 1), ("high", 2)]) (N := n_countof) (sc := defScope s_countof) (by decide +kernel)) (fun _ _ _ _ _ => pg_tup rfl (pgs_cons (pg_name (i := 1) sc_countof.nd rfl (by first | exact Or.inl rfl | exact Or.inr rfl)) (pgs_cons (pg_name (i := 2) sc_countof.nd rfl (by first | exact Or.inl rfl | exact Or.inr rfl)) pgs_nil))) (fun _ _ _ _ _ => pts_nil) (fun _ _ _ _ _ => (pe_or (pe_cmpR op_isN (pv 1) pe_non (nomark _)) (pe_one (pe_cmpR op_isN (pv 2) pe_non (nomark _)))))) pa_nil))) (pss_one (ps_ret pe_non)) pss_nil)
      (pss_one (ps_ret (pe_callB (cr_sum rfl) (by rfl) T.sum_ (by decide +kernel) (pa_cons (pe_lc (own := [("low", 1), ("high", 2)]) (g := gTup K 2 (gCons (gName 1) (gCons (gName 2) gNil))) rfl sc_countof.nd (pi_tup (pv 0)) (blkOk_by (own := [("low", 1), ("high", 2)]) (N := n_countof) (sc := defScope s_countof) (by decide +kernel)) (fun _ _ _ _ _ => pg_tup rfl (pgs_cons (pg_name (i := 1) sc_countof.nd rfl (by first | exact Or.inl rfl | exact Or.inr rfl)) (pgs_cons (pg_name (i := 2) sc_countof.nd rfl (by first | exact Or.inl rfl | exact Or.inr rfl)) pgs_nil))) (fun _ _ _ _ _ => pts_nil) (fun _ _ _ _ _ => (pe_op op_add (pe_op op_sub (pv 2) (pv 1)) pe_int))) pa_nil))))), ?_⟩
    have el : ts.length = ps.length := plen hs
    have hgo : ∀ (R : L2.St → Hp → Prop) i x H1, Ex H H1 → ts[i]? = some x → R [some (.ref t), some (oV (ps.getD i noS).1), some (oV (ps.getD i noS).2)] H1 → gTup K 2 (gCons (gName 1) (gCons (gName 2) gNil)) x [some (.ref t), none, none] H1 R := fun R i x H1 e hi k => by
      obtain ⟨p, hp, a, rfl, ha⟩ := pget hs hi
      refine g_unp2 (e _ _ ha) ?_
      have ed : ps.getD i noS = p := by rw [List.getD_eq_getElem?_getD, hp]; rfl
      rw [ed] at k
      exact k
    refine q_when (b := (ps.map fun p => p.1.isNone || p.2.isNone).any id) (et_V (ev_any ?_)) (fun hb H1 e1 => ?_) (fun hb H1 e1 => ?_)
    · have ex : given ts.length (fun _ => true) (fun i => V.bl (decide (oV (ps.getD i noS).1 = .non) || decide (oV (ps.getD i noS).2 = .non))) = (ps.map fun p => p.1.isNone || p.2.isNone).map V.bl := by
        rw [given_all, el, map_range_get (fun p : Sx => V.bl (decide (oV p.1 = .non) || decide (oV p.2 = .non))) noS ps, List.map_map]
        refine List.map_congr_left fun p _ => ?_
        show V.bl (decide (oV p.1 = .non) || decide (oV p.2 = .non)) = V.bl (p.1.isNone || p.2.isNone)
        rw [oV_none, oV_none]
      rw [← ex]
      exact el_gT (fun _ => true) _ (fun i => [some (.ref t), some (oV (ps.getD i noS).1), some (oV (ps.getD i noS).2)]) (ev_var rfl) ht (by omega) (fun _ => rfl) (fun i x H1 R e hi k => hgo R i x H1 e hi k) (fun _ _ _ _ => et_yes)
        (fun i H1 e hi _ => ev_orV (ev_isN (ev_var rfl)) (fun _ => ev_isN (ev_var rfl)))
    · exact s_retR (v := oV none) ev_c fun H2 e2 => q none H2 (e1.trans e2)
    · have hsome : ∀ p ∈ ps, ∃ a b, p.1 = some a ∧ p.2 = some b := fun p hp => by
        have hn : ¬ ((p.1.isNone || p.2.isNone) = true) := fun z => by
          rw [List.any_map] at hb
          have := List.any_eq_false.mp hb p hp
          exact this z
        obtain ⟨a, b⟩ := p
        cases a with
        | none => exact absurd rfl hn
        | some a => cases b with
          | none => exact absurd rfl hn
          | some b => exact ⟨a, b, rfl, rfl⟩
      have ex : given ts.length (fun _ => true) (fun i => V.int (((ps.getD i noS).2.getD 0) - ((ps.getD i noS).1.getD 0) + 1)) = (ps.map fun p => (p.2.getD 0) - (p.1.getD 0) + 1).map V.int := by
        rw [given_all, el, map_range_get (fun p : Sx => V.int ((p.2.getD 0) - (p.1.getD 0) + 1)) noS ps, List.map_map]
        rfl
      refine s_retR (v := oV (some _)) (ev_sum (ns := ps.map fun p => (p.2.getD 0) - (p.1.getD 0) + 1) ?_) fun H2 e2 => q _ H2 (e1.trans e2)
      rw [← ex]
      refine el_gT (fun _ => true) _ (fun i => [some (.ref t), some (oV (ps.getD i noS).1), some (oV (ps.getD i noS).2)]) (ev_var rfl) (e1 _ _ ht) (by omega) (fun _ => rfl) (fun i x H2 R e hi k => hgo R i x H2 (e1.trans e) hi k) (fun _ _ _ _ => et_yes) (fun i H2 e hi _ => ?_)
      have hi' : i < ps.length := by omega
      have ed : ps.getD i noS = ps[i] := by rw [List.getD_eq_getElem?_getD, List.getElem?_eq_getElem hi']; rfl
      obtain ⟨a, b, ha, hb'⟩ := hsome ps[i] (List.getElem_mem hi')
      rw [ed, ha, hb']
      exact ev_I (ev_I (ev_var rfl) (ev_var rfl)) ev_c
end
end K3

/-! K3C: spans: merged. -/
namespace K3
open PySem PySem.Spec PyProof.Rows L2 Evl SlX
theorem rank_order : (PySem.W.dataLe false fun b : Sx => K3K.kT (rk b.1)) = fun a b => lowLe a.1 b.1 := by
  show (PySem.W.dataLe false fun b : Sx => PyData.tuple [.int (rk b.1).1, .int (rk b.1).2]) = _
  rw [PySem.W.dataLe_ii (β := Sx) (fun b => (rk b.1).1) (fun b => (rk b.1).2)]
  funext a b
  obtain ⟨l1, h1⟩ := a
  obtain ⟨l2, h2⟩ := b
  cases l1 <;> cases l2 <;> simp [rk, lowLe]
/-- what the loop has made of the first i -/
def MI (qs : List Sx) (i : Nat) (bs : List Sx) : Prop := (i = 0 ∧ bs = []) ∨ ∃ base q, bs = base ++ [q] ∧ base ++ mgo q (qs.drop i) = mergeL qs
theorem MI.first {qs : List Sx} {p : Sx} (h : qs[0]? = some p) : MI qs 1 [p] := by
  cases qs with
  | nil => cases h
  | cons x r =>
    cases Option.some.inj h
    exact .inr ⟨[], p, rfl, rfl⟩
theorem drop_at {α : Type} {qs : List α} {i : Nat} {p : α} (h : qs[i]? = some p) : qs.drop i = p :: qs.drop (i + 1) := by
  obtain ⟨hl, e⟩ := List.getElem?_eq_some_iff.mp h
  rw [List.drop_eq_getElem_cons hl, e]
theorem MI.next {qs base : List Sx} {q p : Sx} {i : Nat} (m : MI qs i (base ++ [q])) (h : qs[i]? = some p) :
    (touch q.2 p.1 = true → MI qs (i + 1) (base ++ [(q.1, maxE q.2 p.2)])) ∧ (touch q.2 p.1 = false → MI qs (i + 1) ((base ++ [q]) ++ [p])) := by
  rcases m with ⟨_, e⟩ | ⟨b, q', e, m⟩
  · simp at e
  · have e1 := (List.append_inj' e rfl).1
    have e2 := (List.append_inj' e rfl).2
    subst e1
    cases e2
    rw [drop_at h] at m
    unfold mgo at m
    constructor
    · intro ht
      rw [if_pos ht] at m
      exact .inr ⟨base, _, rfl, m⟩
    · intro ht
      rw [if_neg (by rw [ht]; decide)] at m
      exact .inr ⟨base ++ [q], p, rfl, by rw [List.append_assoc]; exact m⟩
theorem MI.done {qs bs : List Sx} (m : MI qs qs.length bs) : bs = mergeL qs := by
  rcases m with ⟨e, h⟩ | ⟨base, q, e, m⟩
  · have : qs = [] := List.length_eq_zero_iff.mp e
    subst this
    exact h
  · rw [List.drop_length] at m
    rw [e, ← m]
    rfl
theorem p_last {α β : Type} {R : α → β → Prop} {as : List α} {a : α} {bs : List β} (h : Paired R (as ++ [a]) bs) : ∃ bs' b, bs = bs' ++ [b] ∧ Paired R as bs' ∧ R a b := by
  induction as generalizing bs with
  | nil =>
    cases h with
    | cons r t =>
      cases t
      exact ⟨[], _, rfl, .nil, r⟩
  | cons x as ih =>
    cases h with
    | cons r t =>
      obtain ⟨bs', b, e, t', r'⟩ := ih t
      exact ⟨_ :: bs', b, by rw [e]; rfl, .cons r t', r'⟩
theorem concat_cases {α : Type} (l : List α) : l = [] ∨ ∃ l' x, l = l' ++ [x] := by
  cases l with
  | nil => exact .inl rfl
  | cons a r =>
    right
    exact ⟨(a :: r).dropLast, (a :: r).getLast (by simp), (List.dropLast_concat_getLast _).symm⟩
theorem ev_maxE {σ : L2.St} {H : Hp} {ta tb : TE} {x y : Option Int} (ha : Ev ta σ H (oV x)) (hb : Ev tb σ H (oV y)) :
    Ev (tIf (tOr (tTest (tOp rIsNo ta (tC .non))) (tTest (tOp rIsNo tb (tC .non)))) (tC .non) (tCB rMax2 (tCons ta (tCons tb tNil)))) σ H (oV (maxE x y)) := by
  cases x with
  | none => exact ev_if (b := decide (V.non = V.non) || true) (et_or (et_T (ev_isN ha)) (fun z => nomatch z)) (fun _ => ev_c) (fun z => nomatch z)
  | some x => cases y with
    | none => exact ev_if (b := decide (V.int x = V.non) || decide (V.non = V.non)) (et_or (et_T (ev_isN ha)) (fun _ => et_T (ev_isN hb))) (fun _ => ev_c) (fun z => nomatch z)
    | some y => exact ev_if (b := decide (V.int x = V.non) || decide (V.int y = V.non)) (et_or (et_T (ev_isN ha)) (fun _ => et_T (ev_isN hb))) (fun z => nomatch z) (fun _ => ev_max2 ha hb)
section
variable {P : Program} {w : World} {K : PySem.W.Frag} {mg : Str → Option Value} {base : Heap} {CS CP : Addr}
def sp_merged : Sp := fun vs H Q _ => ∃ l xs ps, vs = [.ref l] ∧ H l = some (.lst xs) ∧ Svs H xs ps ∧ ps.length ≤ 1000 ∧ RetN (fun t H' => ∃ ts, H' t = some (.tup ts) ∧ Svs H' ts (normal ps)) H Q
theorem ok_merged (T : Txt K mg CS CP) : Cal P w K mg base 5 "merged" sp_merged := by
  obtain ⟨fLR, gLR, kpLR, FLR⟩ : Cal P w K mg base 2 "low_rank" sp_low_rank := ok_low_rank T
  have c_touches : Cal P w K mg base 1 "touches" sp_touches := ok_touches T
  refine T.d_merged.cal sc_merged (fun vs H Q E h => ?_) (fun cdv f A outer s H vs Q E hr h => ?_)
  · obtain ⟨l, xs, ps, rfl, _⟩ := h
    rfl
  · obtain ⟨l, xs, ps, rfl, hl, hs, hz, q⟩ := h
    refine ⟨_, (pss_cons (ps_set (i := 1) sc_merged.nd rfl (by first | exact Or.inl rfl | exact Or.inr rfl) (pe_lst pa_nil))
      (pss_cons (ps_for PassesOwn.never rfl (pi_list (pe_callBK (K3K.cr_sortedFn (γ := Sx) (Rx := fun _ => Sv H) (fun p => rk p.1) FLR hr) (by rfl) T.sorted_ (by decide +kernel) (pa_cons (pv 0) pa_nil) (pk_cons (pe_glob (v := .ref fLR) (by rfl) gLR rfl) pk_nil))) (pg_tup rfl (pgs_cons (pg_name (i := 2) sc_merged.nd rfl (by first | exact Or.inl rfl | exact Or.inr rfl)) (pgs_cons (pg_name (i := 3) sc_merged.nd rfl (by first | exact Or.inl rfl | exact Or.inr rfl)) pgs_nil))) (pss_one (ps_if (PW.pt (pw_and (pt_truth (pv 1) (by intro _; rfl)) (pw_and1 (pt_val (pe_c c_touches hr (by decide) (by rfl) (pa_cons (pe_ix ix_tup (pe_ix ix_list (pv 1) (pe_un un_neg pe_int) (fun _ _ => rfl)) pe_int (fun _ _ => rfl)) (pa_cons (pv 2) pa_nil))))))) (pss_cons (ps_asg (pe_bm0 PySem.F.plainAttrs_list PySem.F.slot_list_pop PySem.F.type_list_pop mt_pop (pv 1)) (pg_tup rfl (pgs_cons (pg_name (i := 4) sc_merged.nd rfl (by first | exact Or.inl rfl | exact Or.inr rfl)) (pgs_cons (pg_name (i := 5) sc_merged.nd rfl (by first | exact Or.inl rfl | exact Or.inr rfl)) pgs_nil))))
      (pss_one (ps_expr (pe_bm PySem.F.plainAttrs_list PySem.F.slot_list_append PySem.F.type_list_append mt_append (pv 1) (pa_cons (pe_tup (pa_cons (pv 4) (pa_cons (pe_ifExp (PW.pt (pw_or (pt_cmpR op_isN (pv 5) pe_non (nomark _)) (pw_or1 (pt_cmpR op_isN (pv 3) pe_non (nomark _))))) pe_non (pe_callB (call_max2 rfl) (by rfl) T.max_ (by decide +kernel) (pa_cons (pv 5) (pa_cons (pv 3) pa_nil)))) pa_nil))) pa_nil))))) (pss_one (ps_expr (pe_bm PySem.F.plainAttrs_list PySem.F.slot_list_append PySem.F.type_list_append mt_append (pv 1) (pa_cons (pe_tup (pa_cons (pv 2) (pa_cons (pv 3) pa_nil))) pa_nil)))))))
      (pss_one (ps_ret (pe_callTy call_tuple_of (by rfl) T.tuple_ (by decide +kernel) (pa_cons (pv 1) pa_nil)))))), ?_⟩
    refine q_asgN (en_l (el_lst ea_nil (Nat.zero_le _))) fun res H1 hres e1 hr1 => ?_
    -- sorted(pairs, key=low_rank)
    refine ⟨_, rfl, l, xs, ps, rfl, rfl, SqL.of (e1 _ _ hl), hs, fun x b hx hb H2 e2 Q2 E2 k => ⟨x, b, rfl, hx.ex (e1.trans e2), fun t H3 ht e3 h3 => k t H3 ht e3 h3⟩, fun p H2 ys hp e2 hy pR => ?_⟩
    rw [rank_order] at pR
    have ly : ys.length = ps.length := by
      have := plen pR
      rw [this]
      exact (sortL_perm ps).length_eq
    have npr : p ≠ res := fun z => by
      rw [z, hr1] at hp
      cases hp
    refine ⟨p, rfl, ⟨ys, SqL.of hy⟩, for_list (K := K) (a := p) (xs := ys) (fun i σ' H' => ∃ o2 o3 o4 o5 acc bs, σ' = [some (.ref l), some (.ref res), o2, o3, o4, o5] ∧ Ex H H' ∧ H' p = some (.lst ys) ∧ H' res = some (.lst acc) ∧ Svs (hide res H') acc bs ∧ MI (sortL ps) i bs ∧ bs.length ≤ i)
      ⟨none, none, none, none, [], [], rfl, e1.trans e2, hy, e2 _ _ hr1, .nil, .inl ⟨rfl, rfl⟩, Nat.le_refl _⟩ (fun i σ' H' _ ⟨_, _, _, _, _, _, _, _, h, _⟩ => SqL.of h) ?_ ?_⟩
    · rintro i x σ' H' hi ⟨o2, o3, o4, o5, acc, bs, rfl, eH, hyp, hac, hA, hM, hL⟩
      obtain ⟨⟨lo, hi'⟩, hq, a, rfl, ha⟩ := pget pR hi
      have hi2 : i < ys.length := (List.getElem?_eq_some_iff.mp hi).1
      refine g_unp2 (eH _ _ ha) ?_
      have fin : ∀ (o4 o5 : Option V) (acc' : List V) (bs' : List Sx) H3, Ex H H3 → H3 p = some (.lst ys) → H3 res = some (.lst acc') → Svs (hide res H3) acc' bs' → MI (sortL ps) (i + 1) bs' → bs'.length ≤ i + 1 →
          ∃ p2 p3 p4 p5 acc bs, [some (V.ref l), some (.ref res), some (oV lo), some (oV hi'), o4, o5] = [some (V.ref l), some (.ref res), p2, p3, p4, p5] ∧ Ex H H3 ∧ H3 p = some (.lst ys) ∧ H3 res = some (.lst acc) ∧ Svs (hide res H3) acc bs ∧ MI (sortL ps) (i + 1) bs ∧ bs.length ≤ i + 1 :=
        fun o4 o5 acc' bs' H3 a1 a2 a3 a4 a5 a6 => ⟨_, _, _, _, acc', bs', rfl, a1, a2, a3, a4, a5, a6⟩
      rcases concat_cases acc with rfl | ⟨acc0, v0, rfl⟩
      · -- nothing there yet
        cases hA
        refine s_if (b := !([] : List V).isEmpty && true) (et_and (et_truL (ev_var rfl) hac) (fun z => nomatch z)) (fun hb => nomatch hb) (fun _ H3 e3 => ?_)
        refine s_appU (e3 _ _ hac) (ev_var rfl) (eu_tup (ea_cons (ev_var rfl) (ea_cons (ev_var rfl) ea_nil)) (Nat.le_of_ble_eq_true rfl)) (by simp) fun t H4 ht e4 h4 => ?_
        have h0 : i = 0 := by
          rcases hM with ⟨z, _⟩ | ⟨b, q, z, _⟩
          · exact z
          · simp at z
        subst h0
        have ntr : t ≠ res := fun z => by
          rw [z, e3 _ _ hac] at ht
          cases ht
        refine fin _ _ [.ref t] [(lo, hi')] _ (Ex.mut (eH.trans (e3.trans e4)) hres) (by rw [upd_ne npr]; exact (e3.trans e4) _ _ hyp) upd_same ?_ (MI.first hq) (Nat.le_refl _)
        rw [hide_upd]
        exact .cons ⟨t, rfl, by rw [hide_ne ntr]; exact h4⟩ .nil
      · obtain ⟨bs0, q0, rfl, hA0, b, rfl, hb⟩ := p_last hA
        obtain ⟨nbr, hb'⟩ := hide_some hb
        rw [List.length_append] at hL
        have hL' : bs0.length + 1 ≤ i := hL
        have la : acc0.length = bs0.length := plen hA0
        refine s_if (b := !(acc0 ++ [V.ref b]).isEmpty && touch q0.2 lo) (et_and (et_truL (ev_var rfl) hac) (fun _ => et_V (ev_cl (ea_cons (ev_ixT (ev_ixL (ev_var rfl) (ev_neg ev_c) hac (atI_last _ _)) ev_c hb' (atI_nat (j := 1) rfl)) (ea_cons (ev_var rfl) ea_nil)) fun H1 e Q q => ⟨q0.2, lo, rfl, q⟩))) (fun hb2 H3 e3 => ?_) (fun hb2 H3 e3 => ?_)
        · have ht : touch q0.2 lo = true := (Bool.and_eq_true_iff.mp hb2).2
          refine ⟨_, rfl, .inl ⟨rfl, _, SqL.of (e3 _ _ hac)⟩, res, _, .ref b, rfl, rfl, e3 _ _ hac, by simp, ?_⟩
          rw [List.dropLast_concat]
          refine g_unp2 (x := oV q0.1) (y := oV q0.2) (by rw [upd_ne nbr]; exact e3 _ _ hb') ?_
          refine s_appU upd_same (ev_var rfl) (eu_tup (ea_cons (ev_var rfl) (ea_cons (ev_maxE (x := q0.2) (y := hi') (ev_var rfl) (ev_var rfl)) ea_nil)) (Nat.le_of_ble_eq_true rfl)) (by omega) fun t H4 ht4 e4 h4 => ?_
          have ntr : t ≠ res := fun z => by
            rw [z, upd_same] at ht4
            cases ht4
          have e5 : Ex (hide res H') (hide res H4) := by
            have := hide_mono (p := res) e4
            rw [hide_upd] at this
            exact (hide_mono e3).trans this
          refine fin _ _ (acc0 ++ [.ref t]) (bs0 ++ [(q0.1, maxE q0.2 hi')]) _ (Ex.mut ?_ hres) ?_ upd_same ?_ ((MI.next hM hq).1 ht) (by rw [List.length_append]; show bs0.length + 1 ≤ i + 1; omega)
          · exact (Ex.mut (eH.trans e3) hres).trans e4
          · rw [upd_ne npr]
            refine e4 _ _ ?_
            rw [upd_ne npr]
            exact e3 _ _ hyp
          · rw [hide_upd]
            exact psnoc ⟨t, rfl, by rw [hide_ne ntr]; exact h4⟩ (Svs.ex e5 hA0)
        · have ht : touch q0.2 lo = false := by
            cases h : touch q0.2 lo with
            | false => rfl
            | true =>
              rw [h] at hb2
              simp at hb2
          refine s_appU (e3 _ _ hac) (ev_var rfl) (eu_tup (ea_cons (ev_var rfl) (ea_cons (ev_var rfl) ea_nil)) (Nat.le_of_ble_eq_true rfl)) (by rw [List.length_append]; show acc0.length + 1 < 100000; omega) fun t H4 ht4 e4 h4 => ?_
          have ntr : t ≠ res := fun z => by
            rw [z, e3 _ _ hac] at ht4
            cases ht4
          refine fin _ _ ((acc0 ++ [.ref b]) ++ [.ref t]) ((bs0 ++ [q0]) ++ [(lo, hi')]) _ (Ex.mut (eH.trans (e3.trans e4)) hres) (by rw [upd_ne npr]; exact (e3.trans e4) _ _ hyp) upd_same ?_ ((MI.next hM hq).2 ht) (by rw [List.length_append, List.length_append]; show bs0.length + 1 + 1 ≤ i + 1; omega)
          rw [hide_upd]
          exact psnoc ⟨t, rfl, by rw [hide_ne ntr]; exact h4⟩ (hA.ex (hide_mono (e3.trans e4)))
    · rintro σ' H' ⟨o2, o3, o4, o5, acc, bs, rfl, eH, hyp, hac, hA, hM, hL⟩
      have eb : bs = normal ps := by
        have ln : ys.length = (sortL ps).length := plen pR
        rw [ln] at hM
        exact hM.done
      subst eb
      refine ⟨_, rfl, res, acc, rfl, .inl ⟨SqL.of hac, fun t ht => ?_⟩⟩
      exact q t _ (fresh_back eH ht) (eH.trans (Ex.new ht)) ⟨acc, upd_same, (hA.ex (hide_ex _ _)).ex (Ex.new ht)⟩
end
end K3

/-! K3D: the class Span. -/
namespace K3
open PySem PySem.Spec PyProof.Rows L2 Evl SlX
/-- a Span at v: its stretches ns, whether it has None -/
def SpAt (C : Addr) (H : Hp) (v : V) (ns : List Sx) (b : Bool) : Prop := ∃ a dx t ts o, v = .ref a ∧ (H a = some (SlO a C dx [some (.bl b), some (oV o), some (.ref t)]) ∧ H dx = some (.xd [])) ∧ H t = some (.tup ts) ∧ Svs H ts ns
theorem SpAt.ex {C : Addr} {H H' : Hp} {v : V} {ns : List Sx} {b : Bool} (e : Ex H H') (h : SpAt C H v ns b) : SpAt C H' v ns b := by
  obtain ⟨a, dx, t, ts, o, h1, ⟨h2, h3⟩, h4, h5⟩ := h
  exact ⟨a, dx, t, ts, o, h1, ⟨e _ _ h2, e _ _ h3⟩, e _ _ h4, h5.ex e⟩
/-- a list of stretches at l -/
def LsAt (H : Hp) (l : Addr) (ps : List Sx) : Prop := ∃ xs, H l = some (.lst xs) ∧ Svs H xs ps
theorem LsAt.ex {H H' : Hp} {l : Addr} {ps : List Sx} (e : Ex H H') (h : LsAt H l ps) : LsAt H' l ps := by
  obtain ⟨xs, h1, h2⟩ := h
  exact ⟨xs, e _ _ h1, h2.ex e⟩
/-- a loop over enumerate -/
theorem for_en {K : PySem.W.Frag} {a : Addr} {xs : List V} {g : TG} {tb : TS} {D : Ends} {σ : L2.St} {H : Hp} (Pv : Nat → L2.St → Hp → Prop) (h0 : Pv 0 σ H) (hq : ∀ i σ H, Pv i σ H → SqL K H a xs)
    (hs : ∀ (i : Nat) (x : V) (t : Addr) (σ : L2.St) (H : Hp), xs[i]? = some x → Pv i σ H → H t = none → g (.ref t) σ (upd H t (.tup [.int (i : Nat), x])) fun σ2 H2 => tb { D with nx := Pv (i + 1), ct := Pv (i + 1), bk := D.nx } σ2 H2) (hd : ∀ σ H, Pv xs.length σ H → D.nx σ H) :
    ∃ W : Nat → Nat → L2.St → Hp → Prop, (∃ m, W 0 m σ H) ∧ ∀ i m σ H, W i m σ H →
      ((Ite K a).stop i H ∧ D.nx σ H) ∨ ((Ite K a).go i H ∧ ∃ N : L2.St → Hp → Prop, (∀ σ' H', N σ' H' → ∃ m', m' < m ∧ W (i + 1) m' σ' H') ∧ ∀ v H', (Ite K a).yld i H v H' → g v σ H' fun σ2 H2 => tb { D with nx := N, ct := N, bk := D.nx } σ2 H2) := by
  refine ⟨fun i m σ H => m = xs.length - i ∧ i ≤ xs.length ∧ Pv i σ H, ⟨xs.length, rfl, Nat.zero_le _, h0⟩, fun i m σ H ⟨em, hi, p⟩ => ?_⟩
  have qx := hq i σ H p
  by_cases hlt : i < xs.length
  · refine .inr ⟨⟨xs, _, qx, List.getElem?_eq_getElem hlt⟩, Pv (i + 1), fun σ' H' p' => ⟨xs.length - (i + 1), by omega, rfl, hlt, p'⟩, fun v H' y => ?_⟩
    obtain ⟨t, x, e1, ht, e2, f1⟩ := y
    subst e1 e2
    exact hs i x t σ H (f1 xs qx) p ht
  · have e : i = xs.length := by omega
    subst e
    exact .inl ⟨⟨xs, qx, Nat.le_refl _⟩, hd σ H p⟩
section
variable {P : Program} {w : World} {K : PySem.W.Frag} {mg : Str → Option Value} {base : Heap} {CS CP : Addr}
def sp_init (C : Addr) : Sp := fun vs H Q _ => ∃ x dx l b ps, vs = [.ref x, .ref l, .bl b] ∧ H x = some (.ins C dx []) ∧ H dx = some (.own x) ∧ LsAt H l ps ∧ (∀ p ∈ ps, okS p) ∧ ps.length ≤ 1000 ∧
  ∀ H', SpAt C H' (.ref x) (normal ps) b → (∀ c o, H c = some o → c ≠ x → c ≠ dx → H' c = some o) → Q .non H'
theorem ok_init (T : Txt K mg CS CP) {f : Addr} {fd : FuncData} (M : SpanMk K CS f fd) : FnOk P w K mg base CX0 6 f fd p_spaninit (sp_init CS) := by
  have c_is_stretch : Cal P w K mg base 3 "is_stretch" sp_is_stretch := ok_is_stretch T
  have c_merged : Cal P w K mg base 5 "merged" sp_merged := ok_merged T
  have c_count_of : Cal P w K mg base 1 "count_of" sp_count_of := ok_count_of T
  obtain ⟨dvs, kws, F⟩ := M.F
  obtain ⟨q0, hq0⟩ := T.s0
  obtain ⟨q1, hq1⟩ := T.s1
  obtain ⟨q2, hq2⟩ := T.s2
  refine F.ok sc_spaninit (fun vs H Q E h => ?_) (fun cdv A outer s H vs Q E hr h => ?_)
  · obtain ⟨x, dx, l, b, ps, rfl, _⟩ := h
    rfl
  · obtain ⟨x, dx, l, b, ps, rfl, hx, hdx, ⟨xs, hl, hs⟩, ho, hz, q⟩ := h
    refine ⟨_, PSs.nox (pss_cons (ps_for PassesOwn.never rfl (pi_enum (by rfl) T.enumerate_ (pa_cons (pv 1) pa_nil)) (pg_tup rfl (pgs_cons (pg_name (i := 3) sc_spaninit.nd rfl (by first | exact Or.inl rfl | exact Or.inr rfl)) (pgs_cons (pg_name (i := 4) sc_spaninit.nd rfl (by first | exact Or.inl rfl | exact Or.inr rfl)) pgs_nil))) (pss_one (ps_if (pt_not (pt_val (pe_c c_is_stretch hr (by decide) (by rfl) (pa_cons (pv 4) pa_nil)))) (pss_one ps_never) pss_nil)))
      (pss_cons (SlX.ps_sl (pv 0) (pe_c c_merged hr (by decide) (by rfl) (pa_cons (pv 1) pa_nil)))
      (pss_cons (SlX.ps_sl (pv 0) (pv 2))
      (pss_one (SlX.ps_sl (pv 0) (pe_c c_count_of hr (by decide) (by rfl) (pa_cons (SlX.pe_sl (pv 0)) pa_nil))))))), ?_⟩
    have ndx : dx ≠ x := fun z => by
      rw [z, hx] at hdx
      cases hdx
    refine ⟨_, rfl, l, xs, rfl, SqL.of hl, for_en (K := K) (a := l) (xs := xs) (fun i σ' H' => ∃ o3 o4, σ' = [some (.ref x), some (.ref l), some (.bl b), o3, o4] ∧ Ex H H') ⟨none, none, rfl, Ex.refl H⟩ (fun i σ' H' ⟨_, _, _, e⟩ => SqL.of (e _ _ hl)) ?_ ?_⟩
    · rintro i y t σ' H' hi ⟨o3, o4, rfl, eH⟩ ht
      obtain ⟨p, hp, hv⟩ := pget hs hi
      have e1 : Ex H' (upd H' t (.tup [.int (i : Nat), y])) := Ex.new ht
      refine g_unp2 (x := .int (i : Nat)) (y := y) upd_same ?_
      refine s_when (b := !true) (et_not (et_V (ev_cl (ea_cons (ev_var rfl) ea_nil) fun H1 e Q q => ⟨y, p, rfl, hv.ex ((eH.trans e1).trans e), ho p (List.mem_of_getElem? hp), q⟩))) (fun hb => nomatch hb) (fun _ H1 e2 => ?_)
      exact ⟨_, _, rfl, (eH.trans e1).trans e2⟩
    · rintro σ' H1 ⟨o3, o4, rfl, e1⟩
      -- self.stretches = merged(pairs)
      refine (en_cl (P := fun t H' => ∃ ts, H' t = some (.tup ts) ∧ Svs H' ts (normal ps)) (ea_cons (ev_var rfl) ea_nil) fun H2 e Q q => ⟨l, xs, ps, rfl, (e1.trans e) _ _ hl, hs.ex (e1.trans e), hz, q⟩) H1 (Ex.refl H1) _ fun t H2 ht e2 ⟨ts, h2, hs2⟩ => ?_
      refine ⟨_, rfl, x, CS, dx, q0, [], 2, rfl, .inl ⟨(e1.trans e2) _ _ hx, rfl⟩, T.S.cl, hq0, ?_⟩
      -- self.has_none = has_none
      refine ⟨_, rfl, _, rfl, x, CS, dx, q1, _, 0, rfl, slH_slt ndx, T.S.cl, hq1, ?_⟩
      rw [slH_twice ndx]
      -- self.size = count_of(self.stretches)
      have hx2 : H2 x = some (.ins CS dx []) := (e1.trans e2) _ _ hx
      have hdx2 : H2 dx = some (.own x) := (e1.trans e2) _ _ hdx
      have nt : t ≠ x ∧ t ≠ dx := ⟨ne_of h2 hx2 (fun z => nomatch z), ne_of h2 hdx2 (fun z => nomatch z)⟩
      have ks : ∀ {vs : List (Option V)} {H2' : Hp}, (∀ c o, H2 c = some o → c ≠ x → c ≠ dx → H2' c = some o) → Svs (slH H2' x CS dx vs) ts (normal ps) := fun {vs H2'} kk => Paired.mapP hs2 fun v p ⟨c, ev, hc⟩ => ⟨c, ev, by
        have n1 : c ≠ x := ne_of hc hx2 (fun z => nomatch z)
        have n2 : c ≠ dx := ne_of hc hdx2 (fun z => nomatch z)
        rw [slH_ne n1 n2]
        exact kk _ _ hc n1 n2⟩
      have h3t : slH H2 x CS dx [some (V.bl b), Option.none, some (V.ref t)] t = some (.tup ts) := by
        rw [slH_ne nt.1 nt.2]
        exact h2
      refine (ev_sl (K := K) (σ := [some (.ref x), some (.ref l), some (.bl b), o3, o4]) (ta := tVar 0) (v := V.ref t) (vs := [some (V.bl b), Option.none, some (V.ref t)]) (ev_var rfl) ⟨upd_same, by show slH H2 x CS dx _ dx = _; unfold slH; rw [upd_ne ndx, upd_same]⟩ T.S.cl hq0 rfl) _ (Ex.refl _) _ fun H4 e4 => ?_
      refine ⟨t, ts, normal ps, rfl, e4 _ _ h3t, Svs.ex e4 (ks fun c o h _ _ => h), Nat.le_trans (normal_len ps) hz, fun o H5 e5 => ?_⟩
      have e6 := e4.trans e5
      have hx5 : H5 x = some (SlO x CS dx [some (.bl b), Option.none, some (.ref t)]) := e6 _ _ upd_same
      have hdx5 : H5 dx = some (.xd []) := e6 _ _ (by show slH H2 x CS dx _ dx = _; unfold slH; rw [upd_ne ndx, upd_same])
      refine ⟨_, rfl, x, CS, dx, q2, _, 1, rfl, .inr ⟨hx5, hdx5⟩, T.S.cl, hq2, ?_⟩
      have old : ∀ c o, H2 c = some o → c ≠ x → c ≠ dx → H5 c = some o := fun c o h n1 n2 => e6 _ _ (by rw [upd_ne n1, upd_ne n2]; exact h)
      refine q _ ⟨x, dx, t, ts, o, rfl, ⟨upd_same, ?_⟩, ?_, ks old⟩ fun c u hc n1 n2 => ?_
      · show slH H5 x CS dx _ dx = _
        unfold slH
        rw [upd_ne ndx, upd_same]
      · rw [slH_ne nt.1 nt.2]
        exact old _ _ h2 nt.1 nt.2
      · rw [slH_ne n1 n2]
        exact old _ _ ((e1.trans e2) _ _ hc) n1 n2
/-! ### Span(..) -/
def SpanC (P : Program) (w : World) (K : PySem.W.Frag) (mg : Str → Option Value) (base : Heap) (CS : Addr) : Prop := ∃ f fd ds, Mk K CS f ∧ FnOk P w K mg base CX0 6 f fd p_spaninit (sp_init CS) ∧ KBn K fd p_spaninit 2 ["has_none"] (fun us ws => us ++ ws) (fun vs zs => vs ++ zs) ∧ Vals [V.bl false] ds ∧ Binds K fd p_spaninit ds
theorem ok_Span (T : Txt K mg CS CP) : SpanC P w K mg base CS := by
  obtain ⟨f, fd, M⟩ := T.mkS
  obtain ⟨ds, h1, h2⟩ := M.bd
  exact ⟨f, fd, ds, M.M, ok_init T M, M.kb, h1, h2⟩
section
variable {X : Cx} {p pos : Pos} {e : Expr} {es : List Expr} {kws : List Keyword} {t tk : TA} {j : Nat}
theorem pe_sp1 (S : SpanC X.prog X.w X.K X.mg X.base CS) (g : X.mg "Span" = some (.ref CS)) (hr : Room j X.A) (hk : 7 ≤ j) (hg : Gl X "Span") (ha : PA X (e :: es) t)
    (he : starEach (e :: es) X.env = (false, eval e X.env) :: starEach es X.env := by rfl) (hpl : (backTo pos (starEach es X.env)).any (·.1) = false := by rfl) : PE X (.Call (.Name "Span" p) (e :: es) [] pos) (tMake CS (sp_init CS) [.bl false] E0 t) := by
  obtain ⟨f, fd, ds, M, F, _, h1, h2⟩ := S
  exact pe_make M F (hr.mono hk) hg g h2 h1 pass0 ha (by decide) he hpl
theorem pe_spK (S : SpanC X.prog X.w X.K X.mg X.base CS) (g : X.mg "Span" = some (.ref CS)) (hr : Room j X.A) (hk : 7 ≤ j) (hg : Gl X "Span") (ha : PA X (e :: es) t) (hkw : PK X kws tk)
    (hall : (backToKw pos (keywordEach kws X.env)).all (·.1.isSome) = true := by rfl) (hks : (backToKw pos (keywordEach kws X.env)).filterMap (·.1) = (["has_none"] : List Str) := by rfl)
    (he : starEach (e :: es) X.env = (false, eval e X.env) :: starEach es X.env := by rfl) (hpl : ((backTo pos (starEach (e :: es) X.env)).any (·.1) || (backToKw pos (keywordEach kws X.env)).any (·.1.isNone)) = false := by rfl) :
    PE X (.Call (.Name "Span" p) (e :: es) kws pos) (tMakeK CS 1 1 (sp_init CS) (fun vs zs => vs ++ zs) E0 t tk) := by
  obtain ⟨f, fd, ds, M, F, kb, h1, h2⟩ := S
  exact pe_makeK (n := 1) M F (hr.mono hk) hg g kb pass0 ha hkw hall hks (by decide) he hpl
end
section
variable {σ : L2.St} {H : Hp} {t tk : TA} {ps : List Sx} {b : Bool}
theorem made_ex {C : Addr} {H1 H' : Hp} {x dx : Addr} (hx : H1 x = none) (hdx : H1 dx = none) (k : ∀ c o, (upd (upd H1 dx (.own x)) x (.ins C dx []) : Hp) c = some o → c ≠ x → c ≠ dx → H' c = some o) : Ex H1 H' := fun c o h => by
  have n1 := ne_of_none h hx
  have n2 := ne_of_none h hdx
  exact k c o (by rw [upd_ne n1, upd_ne n2]; exact h) n1 n2
/-- an argument list of one list of stretches -/
def EvLs (t : TA) (σ : L2.St) (H : Hp) (ps : List Sx) : Prop := ∀ H1, Ex H H1 → ∀ Q : List V → Hp → Prop, (∀ l H2, Ex H1 H2 → LsAt H2 l ps → Q [.ref l] H2) → t σ H1 Q
theorem en_sp1 (C : Addr) (h : EvLs t σ H ps) (ho : ∀ p ∈ ps, okS p) (hz : ps.length ≤ 1000) : EvN (tMake C (sp_init C) [.bl false] E0 t) σ H (fun p H' => SpAt C H' (.ref p) (normal ps) false) := fun H1 e Q q =>
  h H1 e _ fun l H2 e2 hl => fun x dx hx hdx ne => by
    have k0 : ∀ {c o}, H2 c = some o → (upd (upd H2 dx (.own x)) x (.ins C dx []) : Hp) c = some o := fun {c o} hc => by rw [upd_ne (ne_of_none hc hx), upd_ne (ne_of_none hc hdx)]; exact hc
    refine ⟨x, dx, l, false, ps, rfl, upd_same, by rw [upd_ne ne, upd_same], hl.ex fun c o hc => k0 hc, ho, hz, fun H' hS k => ⟨rfl, ?_⟩⟩
    exact q x H' (fresh_back e2 hx) (e2.trans (made_ex hx hdx k)) hS
theorem en_spK (C : Addr) (h : EvLs t σ H ps) (hk : ∀ H1, Ex H H1 → EvA tk σ H1 [.bl b]) (ho : ∀ p ∈ ps, okS p) (hz : ps.length ≤ 1000) : EvN (tMakeK C 1 1 (sp_init C) (fun vs zs => vs ++ zs) E0 t tk) σ H (fun p H' => SpAt C H' (.ref p) (normal ps) b) := fun H1 e Q q =>
  h H1 e _ fun l H2 e2 hl => hk H2 (e.trans e2) H2 (Ex.refl H2) _ fun H3 e3 => ⟨rfl, rfl, fun x dx hx hdx ne => by
    have k0 : ∀ {c o}, H3 c = some o → (upd (upd H3 dx (.own x)) x (.ins C dx []) : Hp) c = some o := fun {c o} hc => by rw [upd_ne (ne_of_none hc hx), upd_ne (ne_of_none hc hdx)]; exact hc
    refine ⟨x, dx, l, b, ps, rfl, upd_same, by rw [upd_ne ne, upd_same], (hl.ex e3).ex fun c o hc => k0 hc, ho, hz, fun H' hS k => ⟨rfl, ?_⟩⟩
    exact q x H' (fresh_back (e2.trans e3) hx) ((e2.trans e3).trans (made_ex hx hdx k)) hS⟩
end

/-! ### __contains__ -/
def inC (ns : List Sx) (b : Bool) (c : Option Int) : Bool := match c with
  | none => b
  | some x => inL ns x
def sp_con (C : Addr) : Sp := fun vs H Q _ => ∃ v c ns b, vs = [v, oV c] ∧ SpAt C H v ns b ∧ RetV (.bl (inC ns b c)) H Q
theorem inL_take {ns : List Sx} {i : Nat} {p : Sx} {x : Int} (h : ns[i]? = some p) : inL (ns.take (i + 1)) x = (inL (ns.take i) x || inS p x) := by
  rw [take_get h]
  unfold inL
  rw [List.any_append]
  simp
theorem ok_con (T : Txt K mg CS CP) : MCal P w K mg base 2 CS "__contains__" (sp_con CS) := by
  have c_is_whole : Cal P w K mg base 1 "is_whole" sp_is_whole := ok_is_whole T
  have c_clamped : Cal P w K mg base 1 "clamped" sp_clamped := ok_clamped T
  obtain ⟨q0, hq0⟩ := T.s0
  obtain ⟨q1, hq1⟩ := T.s1
  refine T.mCon.cal sc_spancontains (fun vs H Q E h => ?_) (fun cdv f A outer s H vs Q E hr h => ?_)
  · obtain ⟨v, c, ns, b, rfl, _⟩ := h
    rfl
  · obtain ⟨v, c, ns, b, rfl, ⟨a, dx, t, ts, o, rfl, hA, ht, hs⟩, q⟩ := h
    refine ⟨_, (pss_cons (ps_if (pt_cmpR op_isN (pv 1) pe_non (nomark _)) (pss_one (ps_ret (SlX.pe_sl (pv 0)))) pss_nil)
      (pss_cons (ps_if (pt_not (pt_val (pe_c c_is_whole hr (by decide) (by rfl) (pa_cons (pv 1) pa_nil)))) (pss_one (ps_ret pe_bl)) pss_nil)
      (pss_cons (ps_for PassesOwn.never rfl (pi_tup (SlX.pe_sl (pv 0))) (pg_tup rfl (pgs_cons (pg_name (i := 2) sc_spancontains.nd rfl (by first | exact Or.inl rfl | exact Or.inr rfl)) (pgs_cons (pg_name (i := 3) sc_spancontains.nd rfl (by first | exact Or.inl rfl | exact Or.inr rfl)) pgs_nil))) (pss_one (ps_if (pt_cmpR op_eq (pe_c c_clamped hr (by decide) (by rfl) (pa_cons (pv 1) (pa_cons (pv 2) (pa_cons (pv 3) pa_nil)))) (pv 1) (nomark _)) (pss_one (ps_ret pe_bl)) pss_nil)))
      (pss_one (ps_ret pe_bl))))), ?_⟩
    cases c with
    | none =>
      refine q_when (b := decide (V.non = V.non)) (et_T (ev_isN (ev_var rfl))) (fun _ H1 e1 => ?_) (fun hb => nomatch hb)
      exact s_retR (ev_sl (ev_var rfl) ⟨e1 _ _ hA.1, e1 _ _ hA.2⟩ T.S.cl hq1 rfl) fun H2 e2 => q H2 (e1.trans e2)
    | some x =>
      refine q_when (b := decide (V.int x = V.non)) (et_T (ev_isN (ev_var rfl))) (fun hb => nomatch hb) (fun _ H1 e1 => ?_)
      refine q_when (b := !true) (et_not (et_V (ev_cl (ea_cons (ev_var rfl) ea_nil) fun H2 e Q q => ⟨some x, rfl, q⟩))) (fun hb => nomatch hb) (fun _ H2 e2 => ?_)
      refine q_forT (ev_sl (v := V.ref t) (ev_var (i := 0) rfl) ⟨(e1.trans e2) _ _ hA.1, (e1.trans e2) _ _ hA.2⟩ T.S.cl hq0 rfl) (SqT.of ((e1.trans e2) _ _ ht)) (fun i σ' H' => ∃ o2 o3, σ' = [some (.ref a), some (.int x), o2, o3] ∧ Ex H H' ∧ inL (ns.take i) x = false)
        (fun H3 e3 => ⟨none, none, rfl, (e1.trans e2).trans e3, rfl⟩) (fun i σ' H' _ ⟨_, _, _, e, _⟩ => SqT.of (e _ _ ht)) ?_ ?_
      · rintro i y σ' H' hi ⟨o2, o3, rfl, eH, hno⟩
        obtain ⟨⟨lo, hi'⟩, hp, c, rfl, hc⟩ := pget hs hi
        refine g_unp2 (eH _ _ hc) ?_
        refine s_when (b := decide (V.int (clampI x (lo, hi')) = V.int x)) (et_T (ev_eq (ev_cl (ea_cons (ev_var rfl) (ea_cons (ev_var rfl) (ea_cons (ev_var rfl) ea_nil))) fun H4 e Q q => ⟨x, lo, hi', rfl, q⟩) (ev_var rfl) rfl)) (fun hb H4 e4 => ?_) (fun hb H4 e4 => ?_)
        · have h1 : inS (lo, hi') x = true := by
            rw [← clamp_eq]
            exact decide_eq_true (V.int.inj (of_decide_eq_true hb))
          refine s_retR ev_c fun H5 e5 => ?_
          have := q H5 ((eH.trans e4).trans e5)
          rw [show inC ns b (some x) = true from List.any_eq_true.mpr ⟨_, List.mem_of_getElem? hp, h1⟩] at this
          exact this
        · refine ⟨_, _, rfl, eH.trans e4, ?_⟩
          rw [inL_take hp, hno, ← clamp_eq]
          have : ¬ (clampI x (lo, hi') = x) := fun z => of_decide_eq_false hb (by rw [z])
          rw [decide_eq_false this]
          rfl
      · rintro σ' H' ⟨o2, o3, rfl, eH, hno⟩
        refine s_retR ev_c fun H5 e5 => ?_
        have := q H5 (eH.trans e5)
        rw [plen hs, List.take_length] at hno
        rw [show inC ns b (some x) = false from hno] at this
        exact this
end
end K3

/-! K3E: Span's ==, nearest, of. -/
namespace K3
open PySem PySem.Spec PyProof.Rows L2 Evl SlX
/-! ### ends and stretches as data -/
def dO : Option Int → PyData
  | none => .none
  | some i => .int i
def dS (p : Sx) : PyData := .tuple [dO p.1, dO p.2]
def dN (ns : List Sx) : PyData := .tuple (ns.map dS)
theorem dp_o {K : PySem.W.Frag} {H : Hp} (o : Option Int) : Dp K H (oV o) (dO o) := by
  cases o with
  | none => exact .non
  | some i => exact .int i
theorem dp_s {K : PySem.W.Frag} {H : Hp} {v : V} {p : Sx} (h : Sv H v p) : Dp K H v (dS p) := by
  obtain ⟨a, rfl, ha⟩ := h
  exact .tup (SqT.of ha) (.cons (dp_o _) (.cons (dp_o _) .nil))
theorem dp_ss {K : PySem.W.Frag} {H : Hp} : ∀ {vs : List V} {ps : List Sx}, Svs H vs ps → DpAll K H vs (ps.map dS)
  | _, _, .nil => .nil
  | _, _, .cons h t => .cons (dp_s h) (dp_ss t)
theorem dp_n {K : PySem.W.Frag} {H : Hp} {t : Addr} {vs : List V} {ps : List Sx} (ht : H t = some (.tup vs)) (h : Svs H vs ps) : Dp K H (.ref t) (dN ps) := .tup (SqT.of ht) (dp_ss h)
theorem lay_s (p : Sx) : (dS p).canLay0 = true := by
  obtain ⟨l, h⟩ := p
  cases l <;> cases h <;> simp [dS, dO, PyData.canLay0, PyData.canLayAll0]
theorem lay_n : ∀ ps : List Sx, PyData.canLayAll0 (ps.map dS) = true
  | [] => by simp [PyData.canLayAll0]
  | p :: r => by
    rw [List.map_cons]
    simp only [PyData.canLayAll0]
    rw [lay_s, lay_n r]
    rfl
theorem dep_s (p : Sx) : (dS p).depth = 1 := by
  obtain ⟨l, h⟩ := p
  cases l <;> cases h <;> simp [dS, dO, PyData.depth, PyData.depthAll]
theorem dep_n : ∀ ps : List Sx, PyData.depthAll (ps.map dS) ≤ 1
  | [] => by simp [PyData.depthAll]
  | p :: r => by
    rw [List.map_cons]
    simp only [PyData.depthAll]
    rw [dep_s]
    have := dep_n r
    omega
theorem lay_dn (ps : List Sx) : (dN ps).canLay0 = true := by
  unfold dN
  simp only [PyData.canLay0]
  exact lay_n ps
theorem shaped_n (ps : List Sx) : SeqAt.shaped (dN ps) = true := by
  unfold SeqAt.shaped
  rw [lay_dn]
  have h : (dN ps).depth ≤ 2 := by
    unfold dN
    simp only [PyData.depth]
    have := dep_n ps
    omega
  rw [decide_eq_true (by omega)]
  rfl
section
variable {K : PySem.W.Frag} {σ : L2.St} {H H' : Hp} {ta tb te tl : TE} {x y z v : V}
theorem ev_eqD {d e : PyData} (ha : Ev ta σ H x) (hb : Ev tb σ H y) (hd : ∀ H1, Ex H H1 → Dp K H1 x d) (he : ∀ H1, Ex H H1 → Dp K H1 y e) (sd : SeqAt.shaped d = true) (se : SeqAt.shaped e = true) : Ev (tOp (rEqD K) ta tb) σ H (.bl (PyData.eqv d e)) :=
  ev_op ha hb fun H1 e1 Q q => ⟨d, e, hd H1 e1, he H1 e1, sd, se, q H1 (Ex.refl H1)⟩
theorem ev_neD {d e : PyData} (ha : Ev ta σ H x) (hb : Ev tb σ H y) (hd : ∀ H1, Ex H H1 → Dp K H1 x d) (he : ∀ H1, Ex H H1 → Dp K H1 y e) (sd : SeqAt.shaped d = true) (se : SeqAt.shaped e = true) : Ev (tOp (rNeD K) ta tb) σ H (.bl (!PyData.eqv d e)) :=
  ev_op ha hb fun H1 e1 Q q => ⟨d, e, hd H1 e1, he H1 e1, sd, se, q H1 (Ex.refl H1)⟩
theorem ev_isiSl {a C dx : Addr} {vs : List (Option V)} {b : Bool} (D : Addr) (ha : Ev ta σ H (.ref a)) (hb : Ev tb σ H (.ref D)) (hs : H a = some (SlO a C dx vs) ∧ H dx = some (.xd [])) (hc : SCls K C) (hi : SIsi K C) (hk : PySem.W.kitOne K (.ref C) (.ref D) = some b) :
    Ev (tCB (rIsiSl K (.ref D)) (tCons ta (tCons tb tNil))) σ H (.bl b) := fun H1 e Q q =>
  ha H1 e _ fun H2 e2 => hb H2 (e.trans e2) _ fun H3 e3 => ⟨a, C, dx, vs, .ref D, b, rfl, rfl, fun w h => h, .inr ⟨((e.trans e2).trans e3) _ _ hs.1, ((e.trans e2).trans e3) _ _ hs.2⟩, hc, hi, hk, q H3 (e2.trans e3)⟩
end
section
variable {P : Program} {w : World} {K : PySem.W.Frag} {mg : Str → Option Value} {base : Heap} {CS CP : Addr}
def sp_eq (C : Addr) : Sp := fun vs H Q _ => ∃ v1 v2 ns b, vs = [v1, v2] ∧ SpAt C H v1 ns b ∧ SpAt C H v2 ns b ∧ RetV (.bl true) H Q
theorem ok_eq (T : Txt K mg CS CP) : MCal P w K mg base 1 CS "__eq__" (sp_eq CS) := by
  obtain ⟨q0, hq0⟩ := T.s0
  obtain ⟨q1, hq1⟩ := T.s1
  refine T.mEq.cal sc_spaneq (fun vs H Q E h => ?_) (fun cdv f A outer s H vs Q E hr h => ?_)
  · obtain ⟨v1, v2, ns, b, rfl, _⟩ := h
    rfl
  · obtain ⟨v1, v2, ns, b, rfl, ⟨a, dx, t, ts, o, rfl, hA, ht, hs⟩, ⟨a', dx', t', ts', o', rfl, hA', ht', hs'⟩, q⟩ := h
    refine ⟨_, (pss_one (ps_ret (pe_and (pe_callB (call_isiSl (.ref CS)) (by rfl) T.isinstance_ (by decide +kernel) (pa_cons (pv 1) (pa_cons (pe_glob (v := .ref CS) (by rfl) T.S.g rfl) pa_nil))) (pe_and (pe_cmpR (op_eqD hr.units) (SlX.pe_sl (pv 0)) (SlX.pe_sl (pv 1)) (nomark _)) (pe_one (pe_cmpR op_eq (SlX.pe_sl (pv 0)) (SlX.pe_sl (pv 1)) (nomark _))))))), ?_⟩
    have e1 : PyData.eqv (dN ns) (dN ns) = true := SeqAt.eqv_refl _ (lay_dn ns)
    have e2 : decide (V.bl b = V.bl b) = true := decide_eq_true rfl
    refine s_retR (v := .bl (true && (PyData.eqv (dN ns) (dN ns) && decide (V.bl b = V.bl b)))) (ev_andV (ev_isiSl CS (ev_var rfl) ev_c hA' T.S.cl T.S.isi T.S.kit) (fun _ => ev_andV (ev_eqD (ev_sl (v := V.ref t) (ev_var (i := 0) rfl) hA T.S.cl hq0 rfl) (ev_sl (v := V.ref t') (ev_var (i := 1) rfl) hA' T.S.cl hq0 rfl) (fun H1 e => dp_n (e _ _ ht) (hs.ex e)) (fun H1 e => dp_n (e _ _ ht') (hs'.ex e)) (shaped_n ns) (shaped_n ns))
      (fun _ => ev_eq (ev_sl (v := V.bl b) (ev_var (i := 0) rfl) hA T.S.cl hq1 rfl) (ev_sl (v := V.bl b) (ev_var (i := 1) rfl) hA' T.S.cl hq1 rfl) rfl))) ?_
    rw [e1, e2]
    exact q

/-! ### nearest -/
def nearV (n : Int) : List Sx → V
  | [] => .non
  | p :: _ => .int (clampI n p)
def sp_near (C : Addr) : Sp := fun vs H Q _ => ∃ v n ns b, vs = [v, .int n] ∧ SpAt C H v ns b ∧ ns.length ≤ 1 ∧ RetV (nearV n ns) H Q
theorem ok_near (T : Txt K mg CS CP) : MCal P w K mg base 2 CS "nearest" (sp_near CS) := by
  have c_clamped : Cal P w K mg base 1 "clamped" sp_clamped := ok_clamped T
  obtain ⟨q0, hq0⟩ := T.s0
  refine T.mNear.cal sc_spannearest (fun vs H Q E h => ?_) (fun cdv f A outer s H vs Q E hr h => ?_)
  · obtain ⟨v, n, ns, b, rfl, _⟩ := h
    rfl
  · obtain ⟨v, n, ns, b, rfl, ⟨a, dx, t, ts, o, rfl, hA, ht, hs⟩, hl, q⟩ := h
    refine ⟨_, (pss_cons (ps_set (i := 2) sc_spannearest.nd rfl (by first | exact Or.inl rfl | exact Or.inr rfl) pe_non)
      (pss_cons (ps_for PassesOwn.never rfl (pi_tup (SlX.pe_sl (pv 0))) (pg_tup rfl (pgs_cons (pg_name (i := 3) sc_spannearest.nd rfl (by first | exact Or.inl rfl | exact Or.inr rfl)) (pgs_cons (pg_name (i := 4) sc_spannearest.nd rfl (by first | exact Or.inl rfl | exact Or.inr rfl)) pgs_nil))) (pss_cons (ps_set (i := 5) sc_spannearest.nd rfl (by first | exact Or.inl rfl | exact Or.inr rfl) (pe_c c_clamped hr (by decide) (by rfl) (pa_cons (pv 1) (pa_cons (pv 3) (pa_cons (pv 4) pa_nil)))))
      (pss_one (ps_if (PW.pt (pw_or (pt_cmpR op_isN (pv 2) pe_non (nomark _)) (pw_or1 (pt_cmpR op_lt (pe_callB call_abs (by rfl) T.abs_ (by decide +kernel) (pa_cons (pe_op op_sub (pv 5) (pv 1)) pa_nil)) (pe_callB call_abs (by rfl) T.abs_ (by decide +kernel) (pa_cons (pe_op op_sub (pv 2) (pv 1)) pa_nil)) (nomark _))))) (pss_one (ps_set (i := 2) sc_spannearest.nd rfl (by first | exact Or.inl rfl | exact Or.inr rfl) (pv 5))) pss_nil))))
      (pss_one (ps_ret (pv 2))))), ?_⟩
    refine q_asg ev_c fun H1 e1 => ?_
    refine q_forT (ev_sl (v := V.ref t) (ev_var (i := 0) rfl) ⟨e1 _ _ hA.1, e1 _ _ hA.2⟩ T.S.cl hq0 rfl) (SqT.of (e1 _ _ ht)) (fun i σ' H' => ∃ o3 o4 o5, σ' = [some (.ref a), some (.int n), some (nearV n (ns.take i)), o3, o4, o5] ∧ Ex H H')
      (fun H2 e2 => ⟨none, none, none, rfl, e1.trans e2⟩) (fun i σ' H' _ ⟨_, _, _, _, e⟩ => SqT.of (e _ _ ht)) ?_ ?_
    · rintro i y σ' H' hi ⟨o3, o4, o5, rfl, eH⟩
      obtain ⟨⟨lo, hi'⟩, hp, c, rfl, hc⟩ := pget hs hi
      have h0 : i = 0 := by
        have := (List.getElem?_eq_some_iff.mp hp).1
        omega
      subst h0
      obtain ⟨r, rfl⟩ : ∃ r, ns = (lo, hi') :: r := by
        cases ns with
        | nil => cases hp
        | cons x r =>
          cases Option.some.inj hp
          exact ⟨r, rfl⟩
      refine g_unp2 (eH _ _ hc) ?_
      refine q_asg (ev_cl (v := .int (clampI n (lo, hi'))) (ea_cons (ev_var rfl) (ea_cons (ev_var rfl) (ea_cons (ev_var rfl) ea_nil))) fun H4 e Q q => ⟨n, lo, hi', rfl, q⟩) fun H4 e4 => ?_
      refine s_when (b := decide (V.non = V.non) || true) (et_or (et_T (ev_isN (ev_var rfl))) (fun z => nomatch z)) (fun _ H5 e5 => ?_) (fun hb => nomatch hb)
      exact s_asg (ev_var rfl) fun H6 e6 => ⟨_, _, _, rfl, eH.trans (e4.trans (e5.trans e6))⟩
    · rintro σ' H' ⟨o3, o4, o5, rfl, eH⟩
      refine s_retR (ev_var rfl) fun H5 e5 => ?_
      rw [plen hs, List.take_length]
      exact q H5 (eH.trans e5)

/-! ### of(None) -/
def sp_of (C : Addr) : Sp := fun vs H Q _ => ∃ p, vs = [.ref p] ∧ H p = some (.tup [.non]) ∧ RetN (fun q H' => SpAt C H' (.ref q) [] true) H Q
def sp_ofR (C : Addr) : Sp := fun vs H Q _ => vs = [.non] ∧ RetN (fun q H' => SpAt C H' (.ref q) [] true) H Q
def OfC (P : Program) (w : World) (K : PySem.W.Frag) (mg : Str → Option Value) (base : Heap) (CS : Addr) : Prop := ∃ f mc p, FnR P w K mg base CX0 8 f (sp_ofR CS) ∧ ClX.CRead K CS mc ∧ K3R.SMet K CS mc "of" p f
theorem ok_of (T : Txt K mg CS CP) : OfC P w K mg base CS := by
  have cS : SpanC P w K mg base CS := ok_Span T
  have c_is_content : Cal P w K mg base 2 "is_content" sp_is_content := ok_is_content T
  obtain ⟨f, O⟩ := T.of_
  obtain ⟨mc, p, r, sm⟩ := O.sm
  obtain ⟨oc, od, dV, kV, doc, pm, an, cdv, ct, osl, lk, hcd, hb⟩ := O.fn
  refine ⟨f, mc, p, FnR.imp (StX.fn_star (k := 7) (sp := sp_of CS) (ps := []) (pv := "contents") lk hcd sc_spanof (fun _ _ _ _ _ _ _ _ _ _ _ z => z) hb fun A outer s H vs Q E hr h => ?_) fun vs H Q E h => ?_, r, sm⟩
  · obtain ⟨t, rfl, ht, q⟩ := h
    refine ⟨_, PSs.nox (pss_cons (ps_for PassesOwn.never rfl (pi_tup (pv 0)) (pg_name (i := 1) sc_spanof.nd rfl (by first | exact Or.inl rfl | exact Or.inr rfl)) (pss_one (ps_if (pt_not (pt_val (pe_c c_is_content hr (by decide) (by rfl) (pa_cons (pv 1) pa_nil)))) (pss_one ps_never) pss_nil)))
      (pss_one (ps_ret (pe_spK cS T.S.g hr (by decide) (by rfl) (pa_cons (pe_lc (own := [("value", 1)]) (g := gName 1) rfl sc_spanof.nd (pi_tup (pv 0)) (blkOk_by (own := [("value", 1)]) (N := n_spanof) (sc := defScope s_spanof) (by decide +kernel)) (fun _ _ _ _ _ => pg_name (i := 1) sc_spanof.nd rfl (by first | exact Or.inl rfl | exact Or.inr rfl)) (fun _ _ _ _ _ => (pts_one (pt_cmpR op_notN (pv 1) pe_non (nomark _)))) (fun _ _ _ _ _ => (pe_tup (pa_cons (pv 1) (pa_cons (pv 1) pa_nil))))) pa_nil) (pk_cons (pe_cmpR op_in_seq pe_non (pv 0) (by rfl)) pk_nil))))), ?_⟩
    refine q_forT (ev_var (i := 0) rfl) (SqT.of ht) (fun i σ' H' => ∃ o1, σ' = [some (.ref t), o1] ∧ Ex H H') (fun H1 e1 => ⟨none, rfl, e1⟩) (fun i σ' H' _ ⟨_, _, e⟩ => SqT.of (e _ _ ht)) ?_ ?_
    · rintro i y σ' H' hi ⟨o1, rfl, eH⟩
      have ey : y = oV none := by
        cases i with
        | zero => exact (Option.some.inj hi).symm
        | succ i => cases hi
      subst ey
      refine s_when (b := !true) (et_not (et_V (ev_cl (ea_cons (ev_var rfl) ea_nil) fun H4 e Q q => ⟨none, rfl, q⟩))) (fun hb => nomatch hb) (fun _ H4 e4 => ⟨_, rfl, eH.trans e4⟩)
    · rintro σ' H' ⟨o1, rfl, eH⟩
      have ht' := eH _ _ ht
      have lc : EvL (tLc (iTup K (tVar 0)) (gName 1) (tTest (tOp rNotNo (tVar 1) (tC .non))) (tTup (tCons (tVar 1) (tCons (tVar 1) tNil))) [1]) [some (.ref t), o1] H' [] :=
        el_gT (K := K) (fun _ => false) (fun _ => .non) (fun _ => [some (.ref t), some .non]) (ev_var rfl) ht' (by decide) (fun _ => rfl) (fun i x H1 R e hi k => by
          have ey : x = .non := by
            cases i with
            | zero => exact (Option.some.inj hi).symm
            | succ i => cases hi
          subst ey
          exact k) (fun i H1 e hi => et_T (ev_notN (x := .non) (ev_var rfl))) (fun _ _ _ _ z => nomatch z)
      refine s_retN (en_spK CS (ps := []) (b := true) (fun H1 e Q k => lc H1 e _ fun l H2 _ e2 hl => k l H2 e2 ⟨[], hl, .nil⟩) (fun H1 e => ea_cons (ev_op (z := .bl true) ev_c (ev_var rfl) (rv_isT (SqT.of (e _ _ ht')) rfl rfl)) ea_nil) (fun _ h => nomatch h) (Nat.zero_le _)) fun p H2 hp e2 h2 => ?_
      rw [normal_nil] at h2
      exact q p H2 (fresh_back eH hp) (eH.trans e2) h2
  · obtain ⟨rfl, q⟩ := h
    refine ⟨[], [.non], rfl, rfl, (by rw [sizeLine_eq]; decide), fun t ht => ⟨t, rfl, upd_same, fun p H2 hp e2 h2 => ?_⟩⟩
    exact q p H2 (fresh_back (Ex.new ht) hp) ((Ex.new ht).trans e2) h2
end
end K3

/-! K3F: the class Piece. -/
namespace K3
open PySem PySem.Spec PyProof.Rows L2 Evl SlX
/-- a Piece at v: its span's stretches and None, its colour -/
def PcAt (CS CP : Addr) (H : Hp) (v : V) (ns : List Sx) (b : Bool) (cols : List Bool) : Prop := ∃ a dx s c, v = .ref a ∧ (H a = some (SlO a CP dx [some (.ref c), some s]) ∧ H dx = some (.xd [])) ∧ SpAt CS H s ns b ∧ H c = some (.tup (cols.map V.bl))
theorem PcAt.ex {CS CP : Addr} {H H' : Hp} {v : V} {ns : List Sx} {b : Bool} {cols : List Bool} (e : Ex H H') (h : PcAt CS CP H v ns b cols) : PcAt CS CP H' v ns b cols := by
  obtain ⟨a, dx, s, c, h1, ⟨h2, h3⟩, h4, h5⟩ := h
  exact ⟨a, dx, s, c, h1, ⟨e _ _ h2, e _ _ h3⟩, h4.ex e, e _ _ h5⟩
theorem cut_take (xs : List V) (m : Nat) : cutV xs none (some (m : Int)) = xs.take m := by
  unfold cutV
  rw [show HT.sIx xs.length 0 none = 0 from HT.sIx_none _ _, HT.sIx_nat]
  show (xs.take (min m xs.length - 0)) = xs.take m
  rw [Nat.sub_zero]
  rcases Nat.le_total m xs.length with h | h
  · rw [Nat.min_eq_left h]
  · rw [Nat.min_eq_right h, List.take_length, List.take_of_length_le h]
section
variable {σ : L2.St} {H : Hp} {ta tb : TE} {K : PySem.W.Frag}
theorem ev_in {C : Addr} {c : Option Int} {s : V} {ns : List Sx} {b : Bool} (ha : Ev ta σ H (oV c)) (hb : Ev tb σ H s) (h : SpAt C H s ns b) : Ev (tOp (K3R.rInOwn C false (sp_con C) E0) ta tb) σ H (.bl (inC ns b c)) :=
  ev_op ha hb fun H1 e1 Q q => by
    have h1 := h.ex e1
    obtain ⟨a, dx, t, ts, o, rfl, hA, _⟩ := id h1
    exact ⟨a, dx, _, rfl, .inr hA, _, c, ns, b, rfl, h1, fun H2 e2 => ⟨_, rfl, q H2 e2⟩⟩
theorem ev_notin {C : Addr} {c : Option Int} {s : V} {ns : List Sx} {b : Bool} (ha : Ev ta σ H (oV c)) (hb : Ev tb σ H s) (h : SpAt C H s ns b) : Ev (tOp (K3R.rInOwn C true (sp_con C) E0) ta tb) σ H (.bl (!inC ns b c)) :=
  ev_op ha hb fun H1 e1 Q q => by
    have h1 := h.ex e1
    obtain ⟨a, dx, t, ts, o, rfl, hA, _⟩ := id h1
    exact ⟨a, dx, _, rfl, .inr hA, _, c, ns, b, rfl, h1, fun H2 e2 => ⟨_, rfl, q H2 e2⟩⟩
theorem abs_nat (i : Int) : (if i < 0 then -i else i) = (i.natAbs : Int) := by
  split <;> omega
end
section
variable {P : Program} {w : World} {K : PySem.W.Frag} {mg : Str → Option Value} {base : Heap} {CS CP : Addr}
def sp_pinit (C : Addr) : Sp := fun vs H Q _ => ∃ x dx s c, vs = [.ref x, s, c] ∧ H x = some (.ins C dx []) ∧ dx ≠ x ∧ Q .non (slH H x C dx [some c, some s])
theorem ok_pinit (T : Txt K mg CS CP) {f : Addr} {fd : FuncData} (F : Fun K "__init__" "Piece.__init__" s_pieceinit f fd) : FnOk P w K mg base CX0 1 f fd p_pieceinit (sp_pinit CP) := by
  obtain ⟨q0, hq0⟩ := T.p0
  obtain ⟨q1, hq1⟩ := T.p1
  refine F.ok sc_pieceinit (fun vs H Q E h => ?_) (fun cdv A outer s H vs Q E hr h => ?_)
  · obtain ⟨x, dx, s, c, rfl, _⟩ := h
    rfl
  · obtain ⟨x, dx, s, c, rfl, hx, ndx, q⟩ := h
    refine ⟨_, (pss_cons (SlX.ps_sl (pv 0) (pv 1))
      (pss_one (SlX.ps_sl (pv 0) (pv 2)))), ?_⟩
    refine ⟨_, rfl, _, rfl, x, CP, dx, q0, [], 1, rfl, .inl ⟨hx, rfl⟩, T.Pc.cl, hq0, ?_⟩
    refine ⟨_, rfl, _, rfl, x, CP, dx, q1, _, 0, rfl, slH_slt ndx, T.Pc.cl, hq1, ?_⟩
    rw [slH_twice ndx]
    exact q
def PieceC (P : Program) (w : World) (K : PySem.W.Frag) (mg : Str → Option Value) (base : Heap) (CP : Addr) : Prop := ∃ f fd, Mk K CP f ∧ FnOk P w K mg base CX0 1 f fd p_pieceinit (sp_pinit CP) ∧ Binds K fd p_pieceinit []
theorem ok_Piece (T : Txt K mg CS CP) : PieceC P w K mg base CP := by
  obtain ⟨f, fd, F, b, M⟩ := T.mkP
  exact ⟨f, fd, M, ok_pinit T F, b⟩
section
variable {X : Cx} {p pos : Pos} {e : Expr} {es : List Expr} {t : TA} {j : Nat}
theorem pe_pc (S : PieceC X.prog X.w X.K X.mg X.base CP) (g : X.mg "Piece" = some (.ref CP)) (hr : Room j X.A) (hk : 2 ≤ j) (hg : Gl X "Piece") (ha : PA X (e :: es) t)
    (he : starEach (e :: es) X.env = (false, eval e X.env) :: starEach es X.env := by rfl) (hpl : (backTo pos (starEach es X.env)).any (·.1) = false := by rfl) : PE X (.Call (.Name "Piece" p) (e :: es) [] pos) (tMake CP (sp_pinit CP) [] E0 t) := by
  obtain ⟨f, fd, M, F, b⟩ := S
  exact pe_make M F (hr.mono hk) hg g b .nil pass0 ha (by decide) he hpl
end
/-- Piece(a span, a colour) -/
theorem en_pc {σ : L2.St} {H : Hp} {ta tb : TE} {ns : List Sx} {b : Bool} {cols : List Bool} (ha : EvN ta σ H (fun p H' => SpAt CS H' (.ref p) ns b)) (hb : EvN tb σ H (fun p H' => H' p = some (.tup (cols.map V.bl)))) :
    EvN (tMake CP (sp_pinit CP) [] E0 (tCons ta (tCons tb tNil))) σ H (fun p H' => PcAt CS CP H' (.ref p) ns b cols) := fun H1 e Q q =>
  ha H1 e _ fun sp H2 hsp e2 hS => hb H2 (e.trans e2) _ fun c H3 hc e3 hC => fun x dx hx hdx ne => by
    have k0 : Ex H3 (upd (upd H3 dx (.own x)) x (.ins CP dx [])) := fun c o h => by rw [upd_ne (ne_of_none h hx), upd_ne (ne_of_none h hdx)]; exact h
    refine ⟨x, dx, .ref sp, .ref c, rfl, upd_same, ne, rfl, ?_⟩
    have k1 : Ex H3 (slH (upd (upd H3 dx (.own x)) x (.ins CP dx [])) x CP dx [some (.ref c), some (.ref sp)]) := fun c o h => by
      rw [slH_ne (ne_of_none h hx) (ne_of_none h hdx)]
      exact k0 c o h
    refine q x _ (fresh_back (e2.trans e3) hx) ((e2.trans e3).trans k1) ⟨x, dx, .ref sp, c, rfl, ⟨upd_same, ?_⟩, (hS.ex e3).ex k1, k1 _ _ hC⟩
    show slH _ x CP dx _ dx = _
    unfold slH
    rw [upd_ne ne, upd_same]

/-! ### members -/
def mL (ns : List Sx) (m : Nat) : List V := match ns with
  | [] => [V.non].take m
  | p :: _ => (members p m).map V.int
/-- a piece is None alone, or a stretch alone -/
def OkP (ns : List Sx) (b : Bool) : Prop := (ns = [] ∧ b = true) ∨ ∃ p, ns = [p] ∧ b = false ∧ okS p
def sp_mem (CS CP : Addr) : Sp := fun vs H Q _ => ∃ (v : V) (m : Nat) (ns : List Sx) (b : Bool) (cols : List Bool), vs = [v, .int (m : Int)] ∧ PcAt CS CP H v ns b cols ∧ OkP ns b ∧ m ≤ 1000 ∧ RetN (fun l H' => H' l = some (.lst (mL ns m))) H Q
theorem ok_mem (T : Txt K mg CS CP) : MCal P w K mg base 3 CP "members" (sp_mem CS CP) := by
  have cCon : MCal P w K mg base 2 CS "__contains__" (sp_con CS) := ok_con T
  have cNear : MCal P w K mg base 2 CS "nearest" (sp_near CS) := ok_near T
  obtain ⟨q0, hq0⟩ := T.p0
  refine T.mMem.cal sc_piecemembers (fun vs H Q E h => ?_) (fun cdv f A outer s H vs Q E hr h => ?_)
  · obtain ⟨v, m, ns, b, cols, rfl, _⟩ := h
    rfl
  · obtain ⟨v, m, ns, b, cols, rfl, ⟨a, dx, sv, c, rfl, hA, hS, hC⟩, hP, hm, q⟩ := h
    refine ⟨_, (pss_cons (ps_set (i := 2) sc_piecemembers.nd rfl (by first | exact Or.inl rfl | exact Or.inr rfl) (pe_ms (SlX.pe_sl (pv 0)) T.S.cl cNear hr (by decide) (pa_cons pe_int pa_nil)))
      (pss_cons (ps_if (pt_cmpR op_isN (pv 2) pe_non (nomark _)) (pss_one (ps_ret (pe_slice sl_list (pe_lst (pa_cons pe_non pa_nil)) po_none (po_some (pv 1))))) pss_nil)
      (pss_cons (ps_set (i := 3) sc_piecemembers.nd rfl (by first | exact Or.inl rfl | exact Or.inr rfl) (pe_op op_add (pv 2) pe_int))
      (pss_cons (ps_set (i := 4) sc_piecemembers.nd rfl (by first | exact Or.inl rfl | exact Or.inr rfl) (pe_lst pa_nil))
      (pss_cons (ps_while PassesOwn.never (PW.pt (pw_and (pt_cmpR op_lt (pe_callB call_len_seq (by rfl) T.len_ PySem.boot_len (pa_cons (pv 4) pa_nil)) (pv 1) (nomark _)) (pw_and1 (PW.pt (pw_or (pt_cmpR (op_in cCon hr (by decide)) (pv 2) (SlX.pe_sl (pv 0)) (by rfl)) (pw_or1 (pt_cmpR (op_in cCon hr (by decide)) (pv 3) (SlX.pe_sl (pv 0)) (by rfl)))))))) (pss_one (ps_if (PW.pt (pw_and (pt_cmpR (op_in cCon hr (by decide)) (pv 2) (SlX.pe_sl (pv 0)) (by rfl)) (pw_and1 (PW.pt (pw_or (pt_cmpR (op_notin cCon hr (by decide)) (pv 3) (SlX.pe_sl (pv 0)) (by rfl)) (pw_or1 (pt_cmpR op_le (pe_callB call_abs (by rfl) T.abs_ (by decide +kernel) (pa_cons (pv 2) pa_nil)) (pe_callB call_abs (by rfl) T.abs_ (by decide +kernel) (pa_cons (pv 3) pa_nil)) (nomark _)))))))) (pss_cons (ps_expr (pe_bm PySem.F.plainAttrs_list PySem.F.slot_list_append PySem.F.type_list_append mt_append (pv 4) (pa_cons (pv 2) pa_nil)))
      (pss_one (ps_aug (i := 2) sc_piecemembers.nd rfl (by first | exact Or.inl rfl | exact Or.inr rfl) pe_int ip_sub))) (pss_cons (ps_expr (pe_bm PySem.F.plainAttrs_list PySem.F.slot_list_append PySem.F.type_list_append mt_append (pv 4) (pa_cons (pv 3) pa_nil)))
      (pss_one (ps_aug (i := 3) sc_piecemembers.nd rfl (by first | exact Or.inl rfl | exact Or.inr rfl) pe_int ip_add))))))
      (pss_one (ps_ret (pv 4)))))))), ?_⟩
    have spn : ∀ {σ : L2.St} {H1 : Hp}, σ[0]? = some (some (.ref a)) → Ex H H1 → Ev (tSl K (tVar 0) "span") σ H1 sv := fun h e => ev_sl (ev_var h) ⟨e _ _ hA.1, e _ _ hA.2⟩ T.Pc.cl hq0 rfl
    have nr : Ev (tMethSl CS (sp_near CS) E0 (tSl K (tVar 0) "span") (tCons (tC (.int 0)) tNil)) (L2.start n_piecemembers [.ref a, .int (m : Int)]) H (nearV 0 ns) := fun H1 e Q q => spn rfl e H1 (Ex.refl H1) _ fun H2 e2 => by
      have hS2 := hS.ex (e.trans e2)
      obtain ⟨sa, sdx, t, ts, o, rfl, hB, _⟩ := id hS2
      refine ⟨sa, sdx, _, rfl, .inr hB, _, 0, ns, b, rfl, hS2, ?_, fun H3 e3 => q H3 (e2.trans e3)⟩
      rcases hP with ⟨rfl, _⟩ | ⟨p, rfl, _⟩
      · exact Nat.zero_le _
      · exact Nat.le_refl _
    refine q_asg nr fun H1 e1 => ?_
    rcases hP with ⟨rfl, rfl⟩ | ⟨p, rfl, rfl, ho⟩
    · refine q_when (b := decide (V.non = V.non)) (et_T (ev_isN (ev_var rfl))) (fun _ H2 e2 => ?_) (fun hb => nomatch hb)
      refine ⟨by rw [sizeLine_eq]; decide, fun l hl => ?_⟩
      refine ⟨_, rfl, (m : Int), rfl, l, [.non], rfl, SqL.of upd_same, fun l2 hl2 => ?_⟩
      rw [cut_take]
      have e3 : Ex H (upd H2 l (.lst [.non])) := (e1.trans e2).trans (Ex.new hl)
      exact q l2 _ (fresh_back e3 hl2) (e3.trans (Ex.new hl2)) upd_same
    · refine q_when (b := decide (V.int (clampI 0 p) = V.non)) (et_T (ev_isN (ev_var rfl))) (fun hb => nomatch hb) (fun _ H2 e2 => ?_)
      refine q_asg (ev_I (i := clampI 0 p) (j := 1) (ev_var rfl) ev_c) fun H3 e3 => ?_
      refine q_asgN (en_l (el_lst ea_nil (Nat.zero_le _))) fun res H4 hres e4 hr4 => ?_
      have e14 : Ex H H4 := e1.trans (e2.trans (e3.trans e4))
      have hres0 : H res = none := fresh_back (e1.trans (e2.trans e3)) hres
      refine q_while (fun k σ' H' => ∃ b a' acc, σ' = [some (.ref a), some (.int (m : Int)), some (.int b), some (.int a'), some (.ref res)] ∧ Ex H H' ∧ H' res = some (.lst (acc.map V.int)) ∧ acc ++ memP p k b a' = members p m ∧ k + acc.length = m) m
        ⟨clampI 0 p, clampI 0 p + 1, [], rfl, e14, hr4, rfl, rfl⟩ ?_
      rintro k σ' H' ⟨b, a', acc, rfl, eH, hac, hM, hk⟩
      have lenE : Ev (tCB (rLenQ K) (tCons (tVar 4) tNil)) [some (.ref a), some (.int (m : Int)), some (.int b), some (.int a'), some (.ref res)] H' (.int (acc.length : Int)) := by
        have := ev_lenL (K := K) (σ := [some (.ref a), some (.int (m : Int)), some (.int b), some (.int a'), some (.ref res)]) (ta := tVar 4) (ev_var rfl) hac
        rw [List.length_map] at this
        exact this
      have inB : ∀ {H1 : Hp}, Ex H H1 → Ev (tOp (K3R.rInOwn CS false (sp_con CS) E0) (tVar 2) (tSl K (tVar 0) "span")) [some (.ref a), some (.int (m : Int)), some (.int b), some (.int a'), some (.ref res)] H1 (.bl (inS p b)) := fun e => by
        have := ev_in (C := CS) (c := some b) (s := sv) (σ := [some (.ref a), some (.int (m : Int)), some (.int b), some (.int a'), some (.ref res)]) (ta := tVar 2) (tb := tSl K (tVar 0) "span") (ev_var rfl) (spn rfl e) (hS.ex e)
        rw [show inC [p] false (some b) = inS p b from by show inL [p] b = _; rw [inL_cons, inL_nil, Bool.or_false]] at this
        exact this
      have inA : ∀ {H1 : Hp}, Ex H H1 → Ev (tOp (K3R.rInOwn CS false (sp_con CS) E0) (tVar 3) (tSl K (tVar 0) "span")) [some (.ref a), some (.int (m : Int)), some (.int b), some (.int a'), some (.ref res)] H1 (.bl (inS p a')) := fun e => by
        have := ev_in (C := CS) (c := some a') (s := sv) (σ := [some (.ref a), some (.int (m : Int)), some (.int b), some (.int a'), some (.ref res)]) (ta := tVar 3) (tb := tSl K (tVar 0) "span") (ev_var rfl) (spn rfl e) (hS.ex e)
        rw [show inC [p] false (some a') = inS p a' from by show inL [p] a' = _; rw [inL_cons, inL_nil, Bool.or_false]] at this
        exact this
      have noA : ∀ {H1 : Hp}, Ex H H1 → Ev (tOp (K3R.rInOwn CS true (sp_con CS) E0) (tVar 3) (tSl K (tVar 0) "span")) [some (.ref a), some (.int (m : Int)), some (.int b), some (.int a'), some (.ref res)] H1 (.bl (!inS p a')) := fun e => by
        have := ev_notin (C := CS) (c := some a') (s := sv) (σ := [some (.ref a), some (.int (m : Int)), some (.int b), some (.int a'), some (.ref res)]) (ta := tVar 3) (tb := tSl K (tVar 0) "span") (ev_var rfl) (spn rfl e) (hS.ex e)
        rw [show inC [p] false (some a') = inS p a' from by show inL [p] a' = _; rw [inL_cons, inL_nil, Bool.or_false]] at this
        exact this
      refine ⟨decide ((acc.length : Int) < (m : Int)) && (inS p b || inS p a'), et_and (et_T (ev_I lenE (ev_var rfl))) (fun _ => et_or (et_T (inB eH)) (fun _ => et_T (inA eH))), fun hb H5 e5 => ?_, fun hb H5 e5 => ?_⟩
      · obtain ⟨hlt, hor⟩ := Bool.and_eq_true_iff.mp hb
        have hlt' : acc.length < m := by have := of_decide_eq_true hlt; omega
        obtain ⟨k, rfl⟩ : ∃ k', k = k' + 1 := ⟨k - 1, by omega⟩
        have e15 := eH.trans e5
        refine ⟨fun σ2 H2 => ∃ b a' acc, σ2 = [some (.ref a), some (.int (m : Int)), some (.int b), some (.int a'), some (.ref res)] ∧ Ex H H2 ∧ H2 res = some (.lst (acc.map V.int)) ∧ acc ++ memP p k b a' = members p m ∧ k + acc.length = m, fun σ2 H2 h => ⟨k, Nat.lt_succ_self _, h⟩, ?_⟩
        unfold memP at hM
        refine s_if (b := inS p b && (!inS p a' || decide (b.natAbs ≤ a'.natAbs))) (et_and (et_T (inB e15)) (fun _ => et_or (et_T (noA e15)) (fun _ => ?_))) (fun hc H6 e6 => ?_) (fun hc H6 e6 => ?_)
        · have := et_T (ev_I (g := fun i j => .bl (decide (i ≤ j))) (ev_abs (σ := [some (.ref a), some (.int (m : Int)), some (.int b), some (.int a'), some (.ref res)]) (H := H5) (ta := tVar 2) (i := b) (ev_var rfl)) (ev_abs (ta := tVar 3) (i := a') (ev_var rfl)))
          rw [abs_nat, abs_nat] at this
          rw [show decide (b.natAbs ≤ a'.natAbs) = decide ((b.natAbs : Int) ≤ (a'.natAbs : Int)) from by rw [Bool.eq_iff_iff]; simp]
          exact this
        · rw [if_pos hc] at hM
          refine q_app ((e5.trans e6) _ _ hac) (ev_var rfl) (ev_var rfl) (by rw [List.length_map]; omega) fun H7 e7 => ?_
          refine s_aug (a := b) (b := 1) rfl ev_c fun H8 e8 => ?_
          refine ⟨b - 1, a', acc ++ [b], rfl, (Ex.mut (e15.trans (e6.trans e7)) hres0).trans e8, ?_, ?_, by rw [List.length_append]; show k + (acc.length + 1) = m; omega⟩
          · refine e8 _ _ ?_
            rw [upd_same, List.map_append]
            rfl
          · rw [List.append_assoc]
            exact hM
        · rw [if_neg (by rw [hc]; decide)] at hM
          have hA1 : inS p a' = true := by
            cases h1 : inS p b <;> cases h2 : inS p a' <;> rw [h1, h2] at hor hc <;> simp at hor hc ⊢
          rw [if_pos hA1] at hM
          refine q_app ((e5.trans e6) _ _ hac) (ev_var rfl) (ev_var rfl) (by rw [List.length_map]; omega) fun H7 e7 => ?_
          refine s_aug (a := a') (b := 1) rfl ev_c fun H8 e8 => ?_
          refine ⟨b, a' + 1, acc ++ [a'], rfl, (Ex.mut (e15.trans (e6.trans e7)) hres0).trans e8, ?_, ?_, by rw [List.length_append]; show k + (acc.length + 1) = m; omega⟩
          · refine e8 _ _ ?_
            rw [upd_same, List.map_append]
            rfl
          · rw [List.append_assoc]
            exact hM
      · have hE : acc = members p m := by
          rw [← hM]
          have hnil : memP p k b a' = [] := by
            cases k with
            | zero => rfl
            | succ k =>
              have h1 : decide ((acc.length : Int) < (m : Int)) = true := decide_eq_true (by omega)
              rw [h1, Bool.true_and] at hb
              have h2 := Bool.or_eq_false_iff.mp hb
              unfold memP
              rw [h2.1, h2.2]
              rfl
          rw [hnil, List.append_nil]
        refine s_retR (ev_var rfl) fun H6 e6 => ?_
        have := q res H6 hres0 (eH.trans (e5.trans e6)) ((e5.trans e6) _ _ (by rw [hac, hE]; rfl))
        exact this
end
end K3

/-! K3G: colour_of, starts_of. -/
namespace K3
open PySem PySem.Spec PyProof.Rows L2 Evl SlX
section
variable {X : Cx}
/-- for x in e, e a list or a tuple -/
def iEither (K : PySem.W.Frag) (tl : TE) : TI := fun σ H R => iList K tl σ H R ∨ iTup K tl σ H R
theorem pi_either {tg l : Expr} {tl : TE} (hl : PE X l tl) : PI X tg l (iEither X.K tl) := ⟨fun pins s σ H R I h => by
  rcases h with h | h
  · exact (pi_list hl).run pins s σ H R I h
  · exact (pi_tup hl).run pins s σ H R I h⟩
end
/-- the stretches of a list of spans -/
abbrev Rs := List Sx × Bool
abbrev Sps (C : Addr) (H : Hp) : List V → List Rs → Prop := Paired fun v c => SpAt C H v c.1 c.2
theorem Sps.ex {C : Addr} {H H' : Hp} {vs : List V} {cs : List Rs} (e : Ex H H') (h : Sps C H vs cs) : Sps C H' vs cs := Paired.mapP h fun _ _ => SpAt.ex e
/-- a list or a tuple of spans at v -/
def SqAt (C : Addr) (H : Hp) (v : V) (cs : List Rs) : Prop := ∃ a svs, v = .ref a ∧ (H a = some (.lst svs) ∨ H a = some (.tup svs)) ∧ Sps C H svs cs
theorem SqAt.ex {C : Addr} {H H' : Hp} {v : V} {cs : List Rs} (e : Ex H H') (h : SqAt C H v cs) : SqAt C H' v cs := by
  obtain ⟨a, svs, h1, h2, h3⟩ := h
  exact ⟨a, svs, h1, h2.imp (e _ _) (e _ _), h3.ex e⟩
def colC (cs : List Rs) (c : Option Int) : List Bool := cs.map fun s => inC s.1 s.2 c
section
variable {σ : L2.St} {H H' : Hp} {te : TE} {K : PySem.W.Frag} {xs : List V}
theorem eu_tupOf (h : EvL te σ H xs) : EvU (tCB (fun xs H Q => ∃ p ys, xs = [.ref p] ∧ ((SqL K H p ys ∧ ∀ l, H l = none → Q (.ref l) (upd H l (.tup ys))) ∨ (SqT K H p ys ∧ Q (.ref p) H))) (tCons te tNil)) σ H xs := fun H1 e Q q =>
  h H1 e _ fun p H2 hp e2 h2 => ⟨p, xs, rfl, .inl ⟨SqL.of h2, fun l hl => q l _ (fresh_back e2 hl) (e2.trans (Ex.new hl)) upd_same⟩⟩
theorem given_true {n : Nat} {v : Nat → V} {ys : List V} (hl : n = ys.length) (h : ∀ i y, ys[i]? = some y → v i = y) : given n (fun _ => true) v = ys := by
  rw [given_all]
  subst hl
  apply List.ext_getElem?
  intro i
  by_cases hi : i < ys.length
  · rw [List.getElem?_map, List.getElem?_range hi, List.getElem?_eq_getElem hi]
    exact congrArg some (h i _ (List.getElem?_eq_getElem hi))
  · rw [List.getElem?_eq_none (by simpa using hi), List.getElem?_eq_none (by simpa using hi)]
end
section
variable {P : Program} {w : World} {K : PySem.W.Frag} {mg : Str → Option Value} {base : Heap} {CS CP : Addr}
def sp_colour_of (C : Addr) : Sp := fun vs H Q _ => ∃ c sv cs, vs = [oV c, sv] ∧ SqAt C H sv cs ∧ cs.length ≤ 1000 ∧ RetN (fun t H' => H' t = some (.tup ((colC cs c).map V.bl))) H Q
theorem ok_colour_of (T : Txt K mg CS CP) : Cal P w K mg base 3 "colour_of" (sp_colour_of CS) := by
  have cCon : MCal P w K mg base 2 CS "__contains__" (sp_con CS) := ok_con T
  refine T.d_colour_of.cal sc_colourof (fun vs H Q E h => ?_) (fun cdv f A outer s H vs Q E hr h => ?_)
  · obtain ⟨c, sv, cs, rfl, _⟩ := h
    rfl
  · obtain ⟨c, sv, cs, rfl, ⟨a, svs, rfl, hA, hS⟩, hl, q⟩ := h
    refine ⟨_, (pss_one (ps_ret (pe_callTy call_tuple_of (by rfl) T.tuple_ (by decide +kernel) (pa_cons (pe_lc (own := [("span", 2)]) (g := gName 2) rfl sc_colourof.nd (pi_either (pv 1)) (blkOk_by (own := [("span", 2)]) (N := n_colourof) (sc := defScope s_colourof) (by decide +kernel)) (fun _ _ _ _ _ => pg_name (i := 2) sc_colourof.nd rfl (by first | exact Or.inl rfl | exact Or.inr rfl)) (fun _ _ _ _ _ => pts_nil) (fun _ _ _ _ _ => (pe_cmpR (op_in cCon hr (by decide)) (pv 0) (pv 2) (by rfl)))) pa_nil)))), ?_⟩
    have ls : svs.length = cs.length := plen hS
    have ex : given svs.length (fun _ => true) (fun i => V.bl (inC (cs.getD i ([], false)).1 (cs.getD i ([], false)).2 c)) = (colC cs c).map V.bl := by
      rw [given_all, ls, map_range_get (fun s : Rs => V.bl (inC s.1 s.2 c)) ([], false) cs]
      unfold colC
      rw [List.map_map]
      rfl
    refine s_retNR (en_u (eu_tupOf (xs := (colC cs c).map V.bl) ?_)) q
    rw [← ex]
    have hg : ∀ i x H1 (R : L2.St → Hp → Prop), Ex H H1 → svs[i]? = some x → R [some (oV c), some (.ref a), some (svs.getD i .non)] H1 → gName 2 x (wipe [some (oV c), some (.ref a), none] [2]) H1 R := fun i x H1 R e hi k => by
      have : svs.getD i .non = x := by rw [List.getD_eq_getElem?_getD, hi]; rfl
      rw [this] at k
      exact k
    have he : ∀ i H1, Ex H H1 → i < svs.length → Ev (tOp (K3R.rInOwn CS false (sp_con CS) E0) (tVar 0) (tVar 2)) [some (oV c), some (.ref a), some (svs.getD i .non)] H1 (V.bl (inC (cs.getD i ([], false)).1 (cs.getD i ([], false)).2 c)) := fun i H1 e hi => by
      have hx : svs[i]? = some svs[i] := List.getElem?_eq_getElem hi
      obtain ⟨s, hs, hp⟩ := pget hS hx
      have e1 : svs.getD i .non = svs[i] := by rw [List.getD_eq_getElem?_getD, hx]; rfl
      have e2 : cs.getD i ([], false) = s := by rw [List.getD_eq_getElem?_getD, hs]; rfl
      rw [e1, e2]
      exact ev_in (ev_var rfl) (ev_var rfl) (hp.ex e)
    rcases hA with hA | hA
    · exact fun H1 e Q q => .inl (el_gL (K := K) (σ := [some (oV c), some (.ref a), none]) (g := gName 2) (tt := tYes) (tl := tVar 1) (vs := [2]) (fun _ => true) _ (fun i => [some (oV c), some (.ref a), some (svs.getD i .non)]) (ev_var rfl) hA (by omega) (fun _ => rfl) hg (fun _ _ _ _ => et_yes) (fun i H1 e hi _ => he i H1 e hi) H1 e Q q)
    · exact fun H1 e Q q => .inr (el_gT (K := K) (σ := [some (oV c), some (.ref a), none]) (g := gName 2) (tt := tYes) (tl := tVar 1) (vs := [2]) (fun _ => true) _ (fun i => [some (oV c), some (.ref a), some (svs.getD i .non)]) (ev_var rfl) hA (by omega) (fun _ => rfl) hg (fun _ _ _ _ => et_yes) (fun i H1 e hi _ => he i H1 e hi) H1 e Q q)

/-! ### if x is not None: found.append(e) -/
theorem ex_via {l : Addr} {H0 H H1 : Hp} (h0 : H0 l = none) (e : Ex H0 H) (h : Ex (hide l H) (hide l H1)) : Ex H0 H1 := ((ex_hide h0 e).trans h).trans (hide_ex l H1)
section
variable {σ : L2.St} {H : Hp} {ta te tx : TE} {D : Ends} {tz : TS}
theorem s_appO {l : Addr} {o : Option Int} (f : Int → Int) {xs : List Int} (h : Ev tx σ H (oV o)) (ha : Ev ta σ H (.ref l)) (he : ∀ i, o = some i → Ev te σ H (.int (f i))) (hl : H l = some (.lst (xs.map V.int))) (hz : xs.length < 100000)
    (k : ∀ H1, Ex (hide l H) (hide l H1) → H1 l = some (.lst ((xs ++ (o.map f).toList).map V.int)) → D.nx σ H1) : tIfS (tTest (tOp rNotNo tx (tC .non))) (tDrop (tBM K "list" rAppend ta (tCons te tNil))) tNext D σ H := by
  refine s_when (b := !decide (oV o = V.non)) (et_T (ev_notN h)) (fun hb H4 e4 => ?_) (fun hb H4 e4 => ?_)
  · cases o with
    | none => cases hb
    | some i =>
      refine s_app (e4 _ _ hl) (ha.mono e4) ((he i rfl).mono e4) (by rw [List.length_map]; exact hz) fun H5 e5 => k _ ?_ ?_
      · rw [hide_upd]
        exact hide_mono (e4.trans e5)
      · rw [upd_same]
        simp
  · cases o with
    | some i => cases hb
    | none =>
      refine k H4 (hide_mono e4) ?_
      rw [e4 _ _ hl]
      simp
theorem q_appO {l : Addr} {o : Option Int} (f : Int → Int) {xs : List Int} (h : Ev tx σ H (oV o)) (ha : Ev ta σ H (.ref l)) (he : ∀ i, o = some i → Ev te σ H (.int (f i))) (hl : H l = some (.lst (xs.map V.int))) (hz : xs.length < 100000)
    (k : ∀ H1, Ex (hide l H) (hide l H1) → H1 l = some (.lst ((xs ++ (o.map f).toList).map V.int)) → tz D σ H1) : tSeq (tIfS (tTest (tOp rNotNo tx (tC .non))) (tDrop (tBM K "list" rAppend ta (tCons te tNil))) tNext) tz D σ H :=
  s_appO (D := { D with nx := tz D }) f h ha he hl hz k
end

/-! ### starts_of -/
def allStarts (cs : List Rs) : List Int := cs.flatMap fun s => startsOf s.1
/-- S lists the starts of the spans, ascending -/
def IsStarts (cs : List Rs) (S : List Int) : Prop := S.Pairwise (· < ·) ∧ ∀ x, x ∈ S ↔ x ∈ allStarts cs
theorem starts_take {ns : List Sx} {i : Nat} {p : Sx} (h : ns[i]? = some p) : startsOf (ns.take (i + 1)) = startsOf (ns.take i) ++ (p.1.toList ++ (p.2.map (· + 1)).toList) := by
  rw [take_get h]
  unfold startsOf
  rw [List.flatMap_append]
  simp
theorem all_take {cs : List Rs} {i : Nat} {s : Rs} (h : cs[i]? = some s) : allStarts (cs.take (i + 1)) = allStarts (cs.take i) ++ startsOf s.1 := by
  rw [take_get h]
  unfold allStarts
  rw [List.flatMap_append]
  simp
theorem pre_len {cs : List Rs} (i : Nat) : (allStarts (cs.take i)).length ≤ (allStarts cs).length := by
  conv => rhs; rw [← List.take_append_drop i cs]
  unfold allStarts
  rw [List.flatMap_append, List.length_append]
  exact Nat.le_add_right _ _
theorem pre_len2 {ns : List Sx} (i : Nat) : (startsOf (ns.take i)).length ≤ (startsOf ns).length := by
  conv => rhs; rw [← List.take_append_drop i ns]
  unfold startsOf
  rw [List.flatMap_append, List.length_append]
  exact Nat.le_add_right _ _
def sp_starts_of (C : Addr) : Sp := fun vs H Q _ => ∃ l svs cs, vs = [.ref l] ∧ H l = some (.lst svs) ∧ Sps C H svs cs ∧ (allStarts cs).length < 63 ∧ RetN (fun p H' => ∃ S, IsStarts cs S ∧ S.length < 63 ∧ H' p = some (.lst (S.map V.int))) H Q
theorem ok_starts_of (T : Txt K mg CS CP) : Cal P w K mg base 1 "starts_of" (sp_starts_of CS) := by
  obtain ⟨q0, hq0⟩ := T.s0
  refine T.d_starts_of.cal sc_startsof (fun vs H Q E h => ?_) (fun cdv f A outer s H vs Q E hr h => ?_)
  · obtain ⟨l, svs, cs, rfl, _⟩ := h
    rfl
  · obtain ⟨l, svs, cs, rfl, hl, hS, h63, q⟩ := h
    refine ⟨_, (pss_cons (ps_set (i := 1) sc_startsof.nd rfl (by first | exact Or.inl rfl | exact Or.inr rfl) (pe_lst pa_nil))
      (pss_cons (ps_for PassesOwn.never rfl (pi_list (pv 0)) (pg_name (i := 2) sc_startsof.nd rfl (by first | exact Or.inl rfl | exact Or.inr rfl)) (pss_one (ps_for PassesOwn.never rfl (pi_tup (SlX.pe_sl (pv 2))) (pg_tup rfl (pgs_cons (pg_name (i := 3) sc_startsof.nd rfl (by first | exact Or.inl rfl | exact Or.inr rfl)) (pgs_cons (pg_name (i := 4) sc_startsof.nd rfl (by first | exact Or.inl rfl | exact Or.inr rfl)) pgs_nil))) (pss_cons (ps_if (pt_cmpR op_notN (pv 3) pe_non (nomark _)) (pss_one (ps_expr (pe_bm PySem.F.plainAttrs_list PySem.F.slot_list_append PySem.F.type_list_append mt_append (pv 1) (pa_cons (pv 3) pa_nil)))) pss_nil)
      (pss_one (ps_if (pt_cmpR op_notN (pv 4) pe_non (nomark _)) (pss_one (ps_expr (pe_bm PySem.F.plainAttrs_list PySem.F.slot_list_append PySem.F.type_list_append mt_append (pv 1) (pa_cons (pe_op op_add (pv 4) pe_int) pa_nil)))) pss_nil))))))
      (pss_one (ps_ret (pe_callB (cr_sortedSet rfl) (by rfl) T.sorted_ (by decide +kernel) (pa_cons (pe_callTy (K3S.cr_setI rfl) (by rfl) T.set_ (by decide +kernel) (pa_cons (pv 1) pa_nil)) pa_nil)))))), ?_⟩
    refine q_asgN (en_l (el_lst ea_nil (Nat.zero_le _))) fun res H1 hres e1 hr1 => ?_
    refine q_forL (ev_var (i := 0) rfl) (SqL.of (e1 _ _ hl)) (fun i σ' H' => ∃ o2 o3 o4, σ' = [some (.ref l), some (.ref res), o2, o3, o4] ∧ Ex H H' ∧ H' res = some (.lst ((allStarts (cs.take i)).map V.int)))
      (fun H2 e2 => ⟨none, none, none, rfl, e1.trans e2, e2 _ _ hr1⟩) (fun i σ' H' _ ⟨_, _, _, _, e, _⟩ => SqL.of (e _ _ hl)) ?_ ?_
    · rintro i y σ' H' hi ⟨o2, o3, o4, rfl, eH, hac⟩
      obtain ⟨⟨ns, b⟩, hs, hy⟩ := pget hS hi
      obtain ⟨a, dx, t, ts, o, rfl, hA, ht, hts⟩ := id hy
      have hpl := pre_len (cs := cs) (i + 1)
      rw [all_take hs, List.length_append] at hpl
      dsimp only at hpl
      refine s_forT (ev_sl (v := V.ref t) (ev_var (i := 2) rfl) ⟨eH _ _ hA.1, eH _ _ hA.2⟩ T.S.cl hq0 rfl) (SqT.of (eH _ _ ht)) (fun j σ' H' => ∃ o3 o4, σ' = [some (.ref l), some (.ref res), some (.ref a), o3, o4] ∧ Ex H H' ∧ H' res = some (.lst ((allStarts (cs.take i) ++ startsOf (ns.take j)).map V.int)))
        (fun H2 e2 => ⟨o3, o4, rfl, eH.trans e2, by rw [show startsOf (ns.take 0) = [] from rfl, List.append_nil]; exact e2 _ _ hac⟩) (fun i σ' H' _ ⟨_, _, _, e, _⟩ => SqT.of (e _ _ ht)) ?_ ?_
      · rintro j z σ' H2 hj ⟨o3, o4, rfl, eH2, hac2⟩
        obtain ⟨⟨lo, hi'⟩, hp, c, rfl, hc⟩ := pget hts hj
        have hp2 := pre_len2 (ns := ns) (j + 1)
        rw [starts_take hp, List.length_append] at hp2
        dsimp only at hp2
        refine g_unp2 (eH2 _ _ hc) ?_
        have l1 : lo.toList.length ≤ 1 := by cases lo <;> simp
        refine q_appO (o := lo) (fun i => i) (ev_var rfl) (ev_var rfl) (fun i e => by subst e; exact ev_var rfl) hac2 (by rw [List.length_append]; omega) fun H3 e3 h3 => ?_
        have eH3 : Ex H H3 := ex_via hres eH2 e3
        refine s_appO (o := hi') (fun i => i + 1) (ev_var rfl) (ev_var rfl) (fun i e => by subst e; exact ev_I (i := i) (j := 1) (ev_var rfl) ev_c) h3 (by rw [List.length_append, List.length_append]; have : (lo.map fun i => i).toList.length ≤ 1 := by { cases lo <;> simp }; omega) fun H4 e4 h4 => ?_
        refine ⟨_, _, rfl, ex_via hres eH3 e4, ?_⟩
        rw [h4, starts_take hp]
        simp
      · rintro σ' H2 ⟨o3, o4, rfl, eH2, hac2⟩
        refine ⟨_, _, _, rfl, eH2, ?_⟩
        rw [hac2, plen hts, List.take_length, all_take hs]
    · rintro σ' H' ⟨o2, o3, o4, rfl, eH, hac⟩
      rw [plen hS, List.take_length] at hac
      -- sorted(set(found))
      refine ⟨_, rfl, res, allStarts cs, rfl, SqL.of hac, Nat.lt_of_le_of_lt (Nat.succ_le_succ (Nat.le_of_lt h63)) (by decide), fun p n hn hp => ?_⟩
      refine ⟨p, _, n, rfl, upd_same, by omega, fun S p2 a1 a2 a3 hp2 => ?_⟩
      have e2 : Ex H' (upd H' p (SetO w p (fun j => decide (j ∈ allStarts cs)) n)) := Ex.new hp
      exact q p2 _ (fresh_back (eH.trans e2) hp2) ((eH.trans e2).trans (Ex.new hp2)) ⟨S, ⟨a1, fun x => by rw [a2 x, decide_eq_true_eq]⟩, by omega, upd_same⟩
end
end K3

/-! K3H: pieces. -/
namespace K3
open PySem PySem.Spec PyProof.Rows L2 Evl SlX
abbrev Pd := List Sx × Bool × List Bool
abbrev Pcs (CS CP : Addr) (H : Hp) : List V → List Pd → Prop := Paired fun v d => PcAt CS CP H v d.1 d.2.1 d.2.2
theorem Pcs.ex {CS CP : Addr} {H H' : Hp} {vs : List V} {ds : List Pd} (e : Ex H H') (h : Pcs CS CP H vs ds) : Pcs CS CP H' vs ds := Paired.mapP h fun _ _ => PcAt.ex e
def fD (dn : List Sx) (cs : List Rs) (x : Int) : Bool × List Bool := (inL dn x, colC cs (some x))
def itP (t : It (List Bool)) : Pd := ([(t.1, t.2.1)], false, t.2.2)
def nonP (db : Bool) (cs : List Rs) : List Pd := if db = true then [([], true, colC cs none)] else []
def pcs (dn : List Sx) (db : Bool) (cs : List Rs) (S : List Int) : List Pd := nonP db cs ++ ((segsFrom none S).filterMap (pick (fD dn cs) (clampI 0))).map itP
def IsPcs (dn : List Sx) (db : Bool) (cs : List Rs) (ds : List Pd) : Prop := ∃ S, IsStarts ((dn, db) :: cs) S ∧ S.length < 63 ∧ ds = pcs dn db cs S
theorem IsPcs.one {dn : List Sx} {db : Bool} {cs : List Rs} {ds es : List Pd} (h : IsPcs dn db cs ds) (h' : IsPcs dn db cs es) : ds = es := by
  obtain ⟨S, ⟨a1, a2⟩, _, e⟩ := h
  obtain ⟨S', ⟨b1, b2⟩, _, e'⟩ := h'
  have : S = S' := asc_unique a1 b1 fun x => (a2 x).trans (b2 x).symm
  rw [e, e', this]
/-! ### the ends of the segments -/
theorem segA {S : List Int} {k : Nat} {x : V} (hk : k ≤ S.length) (h : (V.non :: S.map V.int)[k]? = some x) : x = oV (segAt S k).1 := by
  unfold segAt
  cases k with
  | zero => exact (Option.some.inj h).symm
  | succ k =>
    rw [List.getElem?_cons_succ, List.getElem?_map, List.getElem?_eq_getElem (show k < S.length by omega)] at h
    show x = oV (S[k]?)
    rw [List.getElem?_eq_getElem (show k < S.length by omega)]
    exact (Option.some.inj h).symm
theorem segB {S : List Int} {k : Nat} {x : V} (hk : k ≤ S.length) (h : ((S.map (· - 1)).map V.int ++ [V.non])[k]? = some x) : x = oV (segAt S k).2 := by
  unfold segAt
  show x = oV (S[k]?.map (· - 1))
  by_cases hl : k < S.length
  · rw [List.getElem?_append_left (by simpa using hl), List.getElem?_map, List.getElem?_map, List.getElem?_eq_getElem hl] at h
    rw [List.getElem?_eq_getElem hl]
    exact (Option.some.inj h).symm
  · have e : k = S.length := by omega
    subst e
    rw [List.getElem?_append_right (by simp)] at h
    simp at h
    rw [List.getElem?_eq_none (Nat.le_refl _)]
    exact h.symm
theorem seg_ok {S : List Int} (hS : S.Pairwise (· < ·)) (k : Nat) : okS (segAt S k) := by
  intro l h hl hh
  unfold segAt at hl hh
  dsimp only at hl hh
  cases k with
  | zero => cases hl
  | succ k =>
    rw [if_neg (by omega)] at hl
    cases e : S[k + 1]? with
    | none =>
      rw [e] at hh
      cases hh
    | some y =>
      rw [e] at hh
      have hh' : y - 1 = h := Option.some.inj hh
      obtain ⟨i1, e1⟩ := List.getElem?_eq_some_iff.mp hl
      obtain ⟨i2, e2⟩ := List.getElem?_eq_some_iff.mp e
      have := List.pairwise_iff_getElem.mp hS k (k + 1) i1 i2 (Nat.lt_succ_self k)
      simp only [Nat.add_sub_cancel] at e1
      omega
/-! ### a list stands apart from the rest -/
theorem hide_of {H : Hp} {a l : Addr} {o : HO} {xs : List V} (h : H a = some o) (hl : H l = some (.lst xs)) (d : o ≠ .lst xs) : hide l H a = some o := by
  rw [hide_ne (ne_of h hl d)]
  exact h
theorem Sv.hide {H : Hp} {l : Addr} {xs : List V} {v : V} {p : Sx} (hl : H l = some (.lst xs)) (h : Sv H v p) : Sv (hide l H) v p := by
  obtain ⟨a, h1, h2⟩ := h
  exact ⟨a, h1, hide_of h2 hl (fun z => nomatch z)⟩
theorem SpAt.hide {C : Addr} {H : Hp} {l : Addr} {xs : List V} {v : V} {ns : List Sx} {b : Bool} (hl : H l = some (.lst xs)) (h : SpAt C H v ns b) : SpAt C (hide l H) v ns b := by
  obtain ⟨a, dx, t, ts, o, h1, ⟨h2, h3⟩, h4, h5⟩ := h
  exact ⟨a, dx, t, ts, o, h1, ⟨hide_of h2 hl (fun z => nomatch z), hide_of h3 hl (fun z => nomatch z)⟩, hide_of h4 hl (fun z => nomatch z), Paired.mapP h5 fun _ _ => Sv.hide hl⟩
theorem PcAt.hide {CS CP : Addr} {H : Hp} {l : Addr} {xs : List V} {v : V} {ns : List Sx} {b : Bool} {cols : List Bool} (hl : H l = some (.lst xs)) (h : PcAt CS CP H v ns b cols) : PcAt CS CP (hide l H) v ns b cols := by
  obtain ⟨a, dx, s, c, h1, ⟨h2, h3⟩, h4, h5⟩ := h
  exact ⟨a, dx, s, c, h1, ⟨hide_of h2 hl (fun z => nomatch z), hide_of h3 hl (fun z => nomatch z)⟩, h4.hide hl, hide_of h5 hl (fun z => nomatch z)⟩
section
variable {σ : L2.St} {H : Hp} {ta te tx : TE} {tr : TA} {D : Ends} {tz : TS} {K : PySem.W.Frag} {P P' : Addr → Hp → Prop} {sp : Sp}
theorem evls_one {l h : Option Int} (eu : EvU te σ H [oV l, oV h]) : EvLs (tCons (tLst (tCons te tNil)) tNil) σ H [(l, h)] := fun H1 e Q k =>
  eu H1 e _ fun p H2 hp e2 h2 => ⟨(show 1 ≤ sizeLine by rw [sizeLine_eq]; decide), fun a ha => k a _ (e2.trans (Ex.new ha)) ⟨[.ref p], upd_same, .cons ⟨p, rfl, (Ex.new ha) _ _ h2⟩ .nil⟩⟩
theorem s_appN {l : Addr} {xs : List V} (hl : H l = some (.lst xs)) (ha : Ev ta σ H (.ref l)) (h : EvN te σ H P) (hz : xs.length < 100000) (k : ∀ p H1, H p = none → Ex H H1 → P p H1 → D.nx σ (upd H1 l (.lst (xs ++ [.ref p])))) :
    tDrop (tBM K "list" rAppend ta (tCons te tNil)) D σ H := ha H (Ex.refl H) _ fun H1 e1 =>
  ⟨Or.inl ⟨rfl, xs, sq_of (e1 l _ hl)⟩, h H1 e1 _ fun p H2 hp e2 h2 => ⟨l, xs, .ref p, rfl, rfl, e2 l _ (e1 l _ hl), sz_lt hz, k p H2 (fresh_back e1 hp) (e1.trans e2) h2⟩⟩
/-- for .. in zip(a new list, a new list) -/
theorem q_forZ {g : TG} {tb : TS} {xs ys : List V} (h1 : EvL ta σ H xs) (h2 : ∀ H1, Ex H H1 → EvL te σ H1 ys) (hl : xs.length = ys.length) (Pv : Addr → Addr → Nat → L2.St → Hp → Prop)
    (h0 : ∀ a b H2, H a = none → H b = none → Ex H H2 → H2 a = some (.lst xs) → H2 b = some (.lst ys) → Pv a b 0 σ H2) (hq : ∀ a b i σ' H', Pv a b i σ' H' → H' a = some (.lst xs) ∧ H' b = some (.lst ys))
    (hs : ∀ a b (i : Nat) (x y : V) (t : Addr) (σ' : L2.St) (H' : Hp), xs[i]? = some x → ys[i]? = some y → Pv a b i σ' H' → H' t = none → g (.ref t) σ' (upd H' t (.tup [x, y])) fun σ2 H2 => tb { D with nx := Pv a b (i + 1), ct := Pv a b (i + 1), bk := tz D } σ2 H2) (hd : ∀ a b σ' H', Pv a b xs.length σ' H' → tz D σ' H') :
    tSeq (tFor (iZip K (tCons ta (tCons te tNil))) g tb) tz D σ H := h1 H (Ex.refl H) _ fun a H1 ha e1 hA => h2 H1 e1 H1 (Ex.refl H1) _ fun b H2 hb e2 hB =>
  ⟨a, b, xs, ys, rfl, SqL.of (e2 _ _ hA), SqL.of hB, RZ.for_zipL (D := { D with nx := tz D }) hl (Pv a b) (h0 a b H2 ha (fresh_back e1 hb) (e1.trans e2) (e2 _ _ hA) hB) (fun i σ' H' h => ⟨SqL.of (hq a b i σ' H' h).1, SqL.of (hq a b i σ' H' h).2⟩) (hs a b) (hd a b)⟩
theorem q_whenJ {b : Bool} {t : TT} {tu : TS} (M : Hp → Prop) (h : EvT t σ H b) (h1 : b = true → ∀ H1, Ex H H1 → ∀ D' : Ends, (∀ H2, M H2 → D'.nx σ H2) → tu D' σ H1) (h2 : b = false → ∀ H1, Ex H H1 → M H1) (k : ∀ H2, M H2 → tz D σ H2) : tSeq (tIfS t tu tNext) tz D σ H :=
  q_when h (fun hb H1 e => h1 hb H1 e _ k) (fun hb H1 e => k H1 (h2 hb H1 e))
theorem en_clN1 (h : EvN te σ H P') (hs : ∀ p H1, Ex H H1 → P' p H1 → ∀ Q : VK, RetN P H1 Q → sp [.ref p] H1 Q E0) : EvN (tCl sp (tCons te tNil)) σ H P := fun H1 e Q q =>
  h H1 e _ fun p H2 hp e2 h2 => hs p H2 (e.trans e2) h2 Q fun r H3 hr e3 h3 => q r H3 (fresh_back e2 hr) (e2.trans e3) h3
theorem ea_star {a : Addr} {xs ys : List V} (h : Ev te σ H (.ref a)) (hx : H a = some (.lst xs) ∨ H a = some (.tup xs)) (hr : EvA tr σ H ys) : EvA (StX.tStar K te tr) σ H (xs ++ ys) := fun H1 e Q q =>
  h H1 e _ fun H2 e2 => ⟨a, xs, rfl, by
    rcases hx with h | h
    · exact .inr (SqL.of ((e.trans e2) _ _ h))
    · exact .inl (SqT.of ((e.trans e2) _ _ h)), hr H2 (e.trans e2) _ fun H3 e3 => q H3 (e2.trans e3)⟩
end
section
variable {P : Program} {w : World} {K : PySem.W.Frag} {mg : Str → Option Value} {base : Heap} {CS CP : Addr}
def sp_pieces (CS CP : Addr) : Sp := fun vs H Q _ => ∃ dv sv dn db cs, vs = [dv, sv] ∧ SpAt CS H dv dn db ∧ SqAt CS H sv cs ∧ cs.length ≤ 1000 ∧ (allStarts ((dn, db) :: cs)).length < 63 ∧
  RetN (fun p H' => ∃ pvs ds, IsPcs dn db cs ds ∧ H' p = some (.lst pvs) ∧ Pcs CS CP H' pvs ds) H Q
theorem ok_pieces (T : Txt K mg CS CP) : Cal P w K mg base 9 "pieces" (sp_pieces CS CP) := by
  have cCon : MCal P w K mg base 2 CS "__contains__" (sp_con CS) := ok_con T
  have cS : SpanC P w K mg base CS := ok_Span T
  have cP : PieceC P w K mg base CP := ok_Piece T
  have c_colour_of : Cal P w K mg base 3 "colour_of" (sp_colour_of CS) := ok_colour_of T
  have c_starts_of : Cal P w K mg base 1 "starts_of" (sp_starts_of CS) := ok_starts_of T
  have c_clamped : Cal P w K mg base 1 "clamped" sp_clamped := ok_clamped T
  obtain ⟨fO, mcO, pO, FO, rO, smO⟩ : OfC P w K mg base CS := ok_of T
  obtain ⟨q1, hq1⟩ := T.s1
  refine T.d_pieces.cal sc_pieces (fun vs H Q E h => ?_) (fun cdv f A outer s H vs Q E hr h => ?_)
  · obtain ⟨dv, sv, dn, db, cs, rfl, _⟩ := h
    rfl
  · obtain ⟨dv, sv, dn, db, cs, rfl, hD, hSq, hlc, h63, q⟩ := h
    obtain ⟨da, ddx, dt, dts, dob, rfl, hDA, hdt, hdts⟩ := id hD
    obtain ⟨sa, svs, rfl, hsa, hsv⟩ := id hSq
    refine ⟨_, (pss_cons (ps_set (i := 2) sc_pieces.nd rfl (by first | exact Or.inl rfl | exact Or.inr rfl) (pe_lst pa_nil))
      (pss_cons (ps_if (pt_val (SlX.pe_sl (pv 0))) (pss_one (ps_expr (pe_bm PySem.F.plainAttrs_list PySem.F.slot_list_append PySem.F.type_list_append mt_append (pv 2) (pa_cons (pe_pc cP T.Pc.g hr (by decide) (by rfl) (pa_cons (K3R.pe_smeth (pe_glob (v := .ref CS) (by rfl) T.S.g rfl) rO smO FO (hr.mono (by decide)) pass0 (pa_cons pe_non pa_nil)) (pa_cons (pe_c c_colour_of hr (by decide) (by rfl) (pa_cons pe_non (pa_cons (pv 1) pa_nil))) pa_nil))) pa_nil)))) pss_nil)
      (pss_cons (ps_set (i := 3) sc_pieces.nd rfl (by first | exact Or.inl rfl | exact Or.inr rfl) (pe_c c_starts_of hr (by decide) (by rfl) (pa_cons (pe_lst (pa_cons (pv 0) (StX.pa_star (pv 1) pa_nil))) pa_nil)))
      (pss_cons (ps_setLc (i := 4) (own := [("start", 5)]) (g := gName 5) rfl sc_pieces.nd rfl rfl (sw_true rfl rfl rfl (by decide +kernel)) (pi_list (pv 3)) (blkOk_by (own := [("start", 5)]) (N := n_pieces) (sc := defScope s_pieces) (by decide +kernel)) (fun _ _ _ _ _ => pg_name (i := 5) sc_pieces.nd rfl (by first | exact Or.inl rfl | exact Or.inr rfl)) (fun _ _ _ _ _ => pts_nil) (fun _ _ _ _ _ => (pe_op op_sub (pv 5) pe_int)))
      (pss_cons (ps_for PassesOwn.never rfl (pi_zip (by rfl) T.zip_ (pa_cons (pe_lst (pa_cons pe_non (StX.pa_star (pv 3) pa_nil))) (pa_cons (pe_lst (StX.pa_star (pv 4) (pa_cons pe_non pa_nil))) pa_nil))) (pg_tup rfl (pgs_cons (pg_name (i := 6) sc_pieces.nd rfl (by first | exact Or.inl rfl | exact Or.inr rfl)) (pgs_cons (pg_name (i := 7) sc_pieces.nd rfl (by first | exact Or.inl rfl | exact Or.inr rfl)) pgs_nil))) (pss_cons (ps_set (i := 8) sc_pieces.nd rfl (by first | exact Or.inl rfl | exact Or.inr rfl) (pe_c c_clamped hr (by decide) (by rfl) (pa_cons pe_int (pa_cons (pv 6) (pa_cons (pv 7) pa_nil)))))
      (pss_one (ps_if (pt_cmpR (op_in cCon hr (by decide)) (pv 8) (pv 0) (by rfl)) (pss_one (ps_expr (pe_bm PySem.F.plainAttrs_list PySem.F.slot_list_append PySem.F.type_list_append mt_append (pv 2) (pa_cons (pe_pc cP T.Pc.g hr (by decide) (by rfl) (pa_cons (pe_sp1 cS T.S.g hr (by decide) (by rfl) (pa_cons (pe_lst (pa_cons (pe_tup (pa_cons (pv 6) (pa_cons (pv 7) pa_nil))) pa_nil)) pa_nil)) (pa_cons (pe_c c_colour_of hr (by decide) (by rfl) (pa_cons (pv 8) (pa_cons (pv 1) pa_nil))) pa_nil))) pa_nil)))) pss_nil))))
      (pss_one (ps_ret (pv 2)))))))), ?_⟩
    -- result = []
    refine q_asgN (en_l (el_lst ea_nil (Nat.zero_le _))) fun res H1 hres e1 hr1 => ?_
    -- the colour of a content, a Piece
    have colE : ∀ {σ : L2.St} {H' : Hp} {c : Option Int} {tc : TE}, Ev tc σ H' (oV c) → σ[1]? = some (some (.ref sa)) → Ex H H' → EvN (tCl (sp_colour_of CS) (tCons tc (tCons (tVar 1) tNil))) σ H' (fun t H2 => H2 t = some (.tup ((colC cs c).map V.bl))) :=
      fun hc h1 e => en_cl (ea_cons hc (ea_cons (ev_var h1) ea_nil)) fun H2 e2 Q2 k => ⟨_, _, cs, rfl, hSq.ex (e.trans e2), hlc, k⟩
    -- None alone
    refine q_whenJ (fun H2 => ∃ acc, Ex H H2 ∧ H2 res = some (.lst acc) ∧ Pcs CS CP (hide res H2) acc (nonP db cs) ∧ acc.length ≤ 1) (b := db) (et_V (ev_sl (v := V.bl db) (ev_var (i := 0) rfl) ⟨e1 _ _ hDA.1, e1 _ _ hDA.2⟩ T.S.cl hq1 rfl)) (fun hb H2 e2 D' k => ?_) (fun hb H2 e2 => ?_) ?_
    · subst hb
      have ofE : EvN (K3R.tSMeth CS (sp_ofR CS) E0 (tC (.ref CS)) (tCons (tC .non) tNil)) [some (.ref da), some (.ref sa), some (.ref res), none, none, none, none, none, none] H2 (fun p H' => SpAt CS H' (.ref p) [] true) := fun H3 e3 Q2 k2 => ⟨rfl, rfl, fun p H4 hp e4 h4 => k2 p H4 hp e4 h4⟩
      refine s_appN (P := fun p H' => PcAt CS CP H' (.ref p) [] true (colC cs none)) (e2 _ _ hr1) (ev_var rfl) (en_pc ofE (colE (c := none) ev_c rfl (e1.trans e2))) (Nat.zero_lt_succ _) fun p H3 hp e3 h3 => k _ ?_
      have h3r := (e2.trans e3) _ _ hr1
      refine ⟨[.ref p], Ex.mut (e1.trans (e2.trans e3)) hres, upd_same, ?_, Nat.le_refl _⟩
      rw [hide_upd]
      exact .cons (h3.hide h3r) .nil
    · subst hb
      exact ⟨[], e1.trans e2, e2 _ _ hr1, .nil, Nat.zero_le _⟩
    rintro H2 ⟨acc, eH, hac, hPc, hla⟩
    -- starts, ends
    have lsv : svs.length = cs.length := plen hsv
    refine q_asgN (en_clN1 (P := fun p H' => ∃ S, IsStarts ((dn, db) :: cs) S ∧ S.length < 63 ∧ H' p = some (.lst (S.map V.int))) (P' := fun l H' => H' l = some (.lst (.ref da :: (svs ++ [])))) (en_l (el_lst (vs := .ref da :: (svs ++ [])) (ea_cons (ev_var rfl) (ea_star (ev_var rfl) (hsa.imp (eH _ _) (eH _ _)) ea_nil)) ?_)) ?_) fun ps H3 hps e3 ⟨S, hS, hS63, hps3⟩ => ?_
    · rw [List.append_nil]
      show svs.length + 1 ≤ 100000
      omega
    · intro l H3 e3 hl3 Q2 k
      rw [List.append_nil] at hl3
      exact ⟨l, _, (dn, db) :: cs, rfl, hl3, .cons (hD.ex (eH.trans e3)) (Sps.ex (eH.trans e3) hsv), h63, k⟩
    have eH3 : Ex H H3 := eH.trans e3
    have hac3 : H3 res = some (.lst acc) := e3 _ _ hac
    have exE : given (S.map V.int).length (fun _ => true) (fun i => V.int (S.getD i 0 - 1)) = (S.map (· - 1)).map V.int := by
      rw [List.length_map, given_all, map_range_get (fun i : Int => V.int (i - 1)) 0 S, List.map_map]
      rfl
    refine q_asgL (xs := (S.map (· - 1)).map V.int) ?_ fun pe H4 hpe e4 hpe4 => ?_
    · rw [← exE]
      exact el_gL (K := K) (fun _ => true) _ (fun i => [some (.ref da), some (.ref sa), some (.ref res), some (.ref ps), none, some (.int (S.getD i 0)), none, none, none]) (ev_var rfl) hps3 (by rw [List.length_map]; omega) (fun _ => rfl) (fun i x H1 R e hi k => by
        rw [List.getElem?_map] at hi
        cases hS' : S[i]? with
        | none => rw [hS'] at hi; cases hi
        | some y =>
          rw [hS'] at hi
          have : V.int y = x := Option.some.inj hi
          subst this
          have : S.getD i 0 = y := by rw [List.getD_eq_getElem?_getD, hS']; rfl
          rw [this] at k
          exact k) (fun _ _ _ _ => et_yes) (fun i H1 e hi _ => ev_I (i := S.getD i 0) (j := 1) (ev_var rfl) ev_c)
    -- zip([None, *starts], [*ends, None])
    have eH4 : Ex H H4 := eH3.trans e4
    refine q_forZ (xs := .non :: (S.map V.int ++ [])) (ys := (S.map (· - 1)).map V.int ++ [.non]) (el_lst (ea_cons ev_c (ea_star (ev_var (i := 3) rfl) (.inl (e4 _ _ hps3)) ea_nil)) (by simp; omega)) (fun H5 e5 => el_lst (ea_star (ev_var (i := 4) rfl) (.inl (e5 _ _ hpe4)) (ea_cons ev_c ea_nil)) (by simp; omega)) (by simp)
      (fun a b k σ' H' => ∃ o5 o6 o7 o8 acc, σ' = [some (.ref da), some (.ref sa), some (.ref res), some (.ref ps), some (.ref pe), o5, o6, o7, o8] ∧ Ex H H' ∧ H' a = some (.lst (.non :: (S.map V.int ++ []))) ∧ H' b = some (.lst ((S.map (· - 1)).map V.int ++ [.non])) ∧ a ≠ res ∧ b ≠ res ∧
        H' res = some (.lst acc) ∧ Pcs CS CP (hide res H') acc (nonP db cs ++ (((segsFrom none S).take k).filterMap (pick (fD dn cs) (clampI 0))).map itP) ∧ acc.length ≤ k + 1) (fun a b H6 ha hb e46 hA hB => ?_) (fun a b k σ' H' ⟨_, _, _, _, _, _, _, h1, h2, _⟩ => ⟨h1, h2⟩) ?_ ?_
    · have nar : a ≠ res := fun z => by
        rw [z, e4 _ _ hac3] at ha
        cases ha
      have nbr : b ≠ res := fun z => by
        rw [z, e4 _ _ hac3] at hb
        cases hb
      exact ⟨none, none, none, none, acc, rfl, eH4.trans e46, hA, hB, nar, nbr, e46 _ _ (e4 _ _ hac3), by simpa using Pcs.ex (hide_mono ((e3.trans e4).trans e46)) hPc, by omega⟩
    · rintro a b k x y t σ' H' hx hy ⟨o5, o6, o7, o8, acc, rfl, eH', hA', hB', nar, nbr, hac', hP', hla'⟩ ht
      rw [List.append_nil] at hx
      have hk : k ≤ S.length := by
        have := (List.getElem?_eq_some_iff.mp hx).1
        simp at this
        omega
      have ex := segA hk hx
      have ey := segB hk hy
      have hseg := segs_at S k hk
      subst ex ey
      have hok := seg_ok hS.1 k
      generalize segAt S k = p at *
      obtain ⟨lo, hi⟩ := p
      rw [take_get hseg, List.filterMap_append]
      have e7 : Ex H' (upd H' t (.tup [oV lo, oV hi])) := Ex.new ht
      refine g_unp2 upd_same ?_
      refine q_asg (ev_cl (v := .int (clampI 0 (lo, hi))) (ea_cons ev_c (ea_cons (ev_var rfl) (ea_cons (ev_var rfl) ea_nil))) fun H8 e Q k => ⟨0, lo, hi, rfl, k⟩) fun H8 e8 => ?_
      have e18 := e7.trans e8
      have eH8 : Ex H H8 := eH'.trans e18
      have hac8 : H8 res = some (.lst acc) := e18 _ _ hac'
      have hP8 := Pcs.ex (hide_mono (p := res) e18) hP'
      refine s_when (b := inL dn (clampI 0 (lo, hi))) (et_T (ev_in (c := some (clampI 0 (lo, hi))) (ev_var rfl) (ev_var rfl) (hD.ex eH8))) (fun hb H9 e9 => ?_) (fun hb H9 e9 => ?_)
      · have pk : pick (fD dn cs) (clampI 0) (lo, hi) = some (lo, hi, colC cs (some (clampI 0 (lo, hi)))) := by
          unfold pick
          rw [if_pos (show (fD dn cs (clampI 0 (lo, hi))).1 = true from hb)]
          rfl
        refine s_appN (P := fun p H' => PcAt CS CP H' (.ref p) [(lo, hi)] false (colC cs (some (clampI 0 (lo, hi))))) (e9 _ _ hac8) (ev_var rfl) (en_pc (ns := [(lo, hi)]) (b := false) ?_ (colE (c := some (clampI 0 (lo, hi))) (ev_var rfl) rfl (eH8.trans e9))) (by omega) fun p H10 hp e10 h10 => ?_
        · have := en_sp1 CS (ps := [(lo, hi)]) (σ := [some (.ref da), some (.ref sa), some (.ref res), some (.ref ps), some (.ref pe), o5, some (oV lo), some (oV hi), some (.int (clampI 0 (lo, hi)))]) (H := H9) (evls_one (eu_tup (ea_cons (ev_var (i := 6) rfl) (ea_cons (ev_var (i := 7) rfl) ea_nil)) (Nat.le_of_ble_eq_true rfl))) (fun p hp => by rw [List.mem_singleton.mp hp]; exact hok) (by show 1 ≤ 1000; omega)
          rw [normal_one] at this
          exact this
        · have h10r := (e9.trans e10) _ _ hac8
          refine ⟨_, _, _, _, acc ++ [.ref p], rfl, Ex.mut (eH8.trans (e9.trans e10)) hres, ?_, ?_, nar, nbr, upd_same, ?_, by rw [List.length_append]; show acc.length + 1 ≤ k + 1 + 1; omega⟩
          · rw [upd_ne nar]
            exact (e18.trans (e9.trans e10)) _ _ hA'
          · rw [upd_ne nbr]
            exact (e18.trans (e9.trans e10)) _ _ hB'
          · rw [hide_upd, List.filterMap_cons, pk, List.filterMap_nil, List.map_append, ← List.append_assoc]
            exact psnoc (R := fun v (d : Pd) => PcAt CS CP (hide res H10) v d.1 d.2.1 d.2.2) (y := ([(lo, hi)], false, colC cs (some (clampI 0 (lo, hi))))) (h10.hide h10r) (Pcs.ex (hide_mono (e9.trans e10)) hP8)
      · have pk : pick (fD dn cs) (clampI 0) (lo, hi) = none := by
          unfold pick
          rw [if_neg (show ¬ (fD dn cs (clampI 0 (lo, hi))).1 = true from by show ¬ inL dn _ = true; rw [hb]; decide)]
        refine ⟨_, _, _, _, acc, rfl, eH8.trans e9, (e18.trans e9) _ _ hA', (e18.trans e9) _ _ hB', nar, nbr, e9 _ _ hac8, ?_, by omega⟩
        rw [List.filterMap_cons, pk, List.filterMap_nil, List.append_nil]
        exact Pcs.ex (hide_mono e9) hP8
    · rintro a b σ' H' ⟨o5, o6, o7, o8, acc, rfl, eH', hA', hB', nar, nbr, hac', hP', hla'⟩
      have el : (segsFrom none S).take (V.non :: (S.map V.int ++ [])).length = segsFrom none S := List.take_of_length_le (by rw [segs_len]; simp)
      rw [el] at hP'
      refine s_retR (ev_var rfl) fun H7 e7 => ?_
      exact q res H7 hres (eH'.trans e7) ⟨acc, pcs dn db cs S, ⟨S, hS, hS63, rfl⟩, e7 _ _ hac', Pcs.ex ((hide_ex _ _).trans e7) hP'⟩
end
end K3

/-! K3I: samples. -/
namespace K3
open PySem PySem.Spec PyProof.Rows L2 Evl SlX
theorem flat_snoc (ys : Nat → List V) (k : Nat) : (List.range (k + 1)).flatMap ys = (List.range k).flatMap ys ++ ys k := by
  rw [List.range_succ, List.flatMap_append]
  simp
theorem flat_len (ys : Nat → List V) {k n : Nat} (h : k ≤ n) : ((List.range k).flatMap ys).length ≤ ((List.range n).flatMap ys).length := by
  induction n with
  | zero => rw [Nat.le_zero.mp h]; exact Nat.le_refl _
  | succ n ih =>
    by_cases e : k = n + 1
    · rw [e]; exact Nat.le_refl _
    · have := ih (by omega)
      rw [flat_snoc, List.length_append]
      omega
section
variable {K : PySem.W.Frag} {σ : L2.St} {H : Hp} {tl tl1 : TE}
/-- [y for x in a new list for y in a new list] -/
theorem el_lc2 {i j : Nat} {vs vs1 : List Nat} {Rp : List V → Prop} (h : EvN tl σ H (fun p H' => ∃ xs ys, H' p = some (.lst xs) ∧ (∀ k x, xs[k]? = some x → EvN tl1 ((wipe σ vs).set i (some x)) H' (fun l H2 => H2 l = some (.lst (ys k)))) ∧ Rp ((List.range xs.length).flatMap ys) ∧ ((List.range xs.length).flatMap ys).length < 50000))
    (hw : ∀ x, wipe ((wipe σ vs).set i (some x)) vs = wipe σ vs) (hw1 : ∀ x y, wipe ((wipe ((wipe σ vs).set i (some x)) vs1).set j (some y)) vs1 = wipe ((wipe σ vs).set i (some x)) vs1)
    (hv : ∀ x y, ((wipe ((wipe σ vs).set i (some x)) vs1).set j (some y))[j]? = some (some y)) : EvN (tLc2 (iList K tl) (gName i) tYes (iList K tl1) (gName j) tYes (tVar j) vs vs1) σ H (fun p H' => ∃ R, Rp R ∧ H' p = some (.lst R)) := fun H0 e Q q => h H0 e _ fun p H1 hp e1 ⟨xs, ys, hx, hin, hfl, hfz⟩ => ⟨p, rfl, ⟨xs, SqL.of hx⟩, fun Dl hD => by
  have part : ∀ k, k ≤ xs.length → ((List.range k).flatMap ys).length < 50000 := fun k hk => by
    have := flat_len ys hk
    omega
  refine ⟨fun k m H' => m = xs.length - k ∧ k ≤ xs.length ∧ Ex H1 H' ∧ H' Dl = some (.lst ((List.range k).flatMap ys)), ⟨_, rfl, Nat.zero_le _, Ex.new hD, upd_same⟩, ?_⟩
  rintro k m H' ⟨rfl, hk, eH, hDl⟩
  by_cases hlt : k < xs.length
  · refine .inr ⟨⟨xs, xs[k], SqL.of (eH _ _ hx), by simp [hlt]⟩, fun H2 => Ex H1 H2 ∧ H2 Dl = some (.lst ((List.range (k + 1)).flatMap ys)), fun H2 h2 => ⟨_, by omega, rfl, hlt, h2.1, h2.2⟩, fun x H2 y => ?_⟩
    obtain ⟨e2, y⟩ := y
    subst e2
    have hxk := y xs (SqL.of (eH _ _ hx))
    refine ⟨hw x, ?_⟩
    show tl1 _ _ _
    refine hin k x hxk _ eH _ fun l H3 hl e3 hl3 => ⟨l, rfl, ⟨ys k, SqL.of hl3⟩, ?_⟩
    have nl : l ≠ Dl := fun z => by
      rw [z, hDl] at hl
      cases hl
    refine ⟨fun a m H4 => m = (ys k).length - a ∧ a ≤ (ys k).length ∧ Ex H1 H4 ∧ H4 l = some (.lst (ys k)) ∧ H4 Dl = some (.lst ((List.range k).flatMap ys ++ (ys k).take a)), ⟨_, rfl, Nat.zero_le _, eH.trans e3, hl3, by rw [List.take_zero, List.append_nil]; exact e3 _ _ hDl⟩, ?_⟩
    rintro a m H4 ⟨rfl, ha, eH4, hl4, hD4⟩
    by_cases hla : a < (ys k).length
    · refine .inr ⟨⟨ys k, (ys k)[a], SqL.of hl4, by simp [hla]⟩, fun H5 => Ex H1 H5 ∧ H5 l = some (.lst (ys k)) ∧ H5 Dl = some (.lst ((List.range k).flatMap ys ++ (ys k).take (a + 1))), fun H5 h5 => ⟨_, by omega, rfl, hla, h5.1, h5.2.1, h5.2.2⟩, fun z H5 y5 => ?_⟩
      obtain ⟨e5, y5⟩ := y5
      subst e5
      have hz := y5 (ys k) (SqL.of hl4)
      refine ⟨hw1 x z, ?_⟩
      refine ⟨z, hv x z, _, hD4, sz_lt ?_, ?_, ?_, ?_⟩
      · have := part (k + 1) hlt
        rw [flat_snoc, List.length_append] at this
        have t : ((ys k).take a).length ≤ (ys k).length := by rw [List.length_take]; omega
        rw [List.length_append]
        omega
      · exact Ex.mut eH4 hD
      · rw [upd_ne nl]
        exact hl4
      · rw [take_get hz, ← List.append_assoc]
        exact upd_same
    · have ea : a = (ys k).length := by omega
      subst ea
      rw [List.take_length, ← flat_snoc] at hD4
      exact .inl ⟨⟨ys k, SqL.of hl4, Nat.le_refl _⟩, eH4, hD4⟩
  · have ek : k = xs.length := by omega
    subst ek
    exact .inl ⟨⟨xs, SqL.of (eH _ _ hx), Nat.le_refl _⟩, q Dl H' (fresh_back e1 hD) (e1.trans eH) ⟨_, hfl, hDl⟩⟩⟩
end
theorem pcs_okP {dn : List Sx} {db : Bool} {cs : List Rs} {ds : List Pd} (h : IsPcs dn db cs ds) : ds.length ≤ 64 ∧ ∀ d ∈ ds, OkP d.1 d.2.1 := by
  obtain ⟨S, hS, h63, rfl⟩ := h
  unfold pcs
  refine ⟨?_, fun d hd => ?_⟩
  · rw [List.length_append, List.length_map]
    have a : (nonP db cs).length ≤ 1 := by
      unfold nonP
      split
      · exact Nat.le_refl _
      · exact Nat.zero_le _
    have b := List.length_filterMap_le (pick (fD dn cs) (clampI 0)) (segsFrom none S)
    rw [segs_len] at b
    omega
  · rcases List.mem_append.mp hd with h | h
    · unfold nonP at h
      split at h
      · rcases List.mem_singleton.mp h with rfl
        exact .inl ⟨rfl, rfl⟩
      · cases h
    · obtain ⟨t, ht, rfl⟩ := List.mem_map.mp h
      obtain ⟨s, hs, hp⟩ := List.mem_filterMap.mp ht
      unfold pick at hp
      split at hp
      · cases Option.some.inj hp
        obtain ⟨k, hk⟩ := List.mem_iff_getElem?.mp hs
        have hk' := (List.getElem?_eq_some_iff.mp hk).1
        rw [segs_len] at hk'
        have := segs_at S k (by omega)
        rw [hk] at this
        cases Option.some.inj this
        exact .inr ⟨_, rfl, rfl, seg_ok hS.1 k⟩
      · cases hp
theorem mL_len (ns : List Sx) (m : Nat) : (mL ns m).length ≤ m := by
  cases ns with
  | nil =>
    show ([V.non].take m).length ≤ m
    rw [List.length_take]; omega
  | cons p _ =>
    show ((members p m).map V.int).length ≤ m
    rw [List.length_map]
    exact memP_len _ _ _ _
theorem flat_le {ys : Nat → List V} {m : Nat} (h : ∀ k, (ys k).length ≤ m) : ∀ n, ((List.range n).flatMap ys).length ≤ n * m
  | 0 => Nat.zero_le _
  | n + 1 => by
    rw [flat_snoc, List.length_append, Nat.succ_mul]
    have := h n
    have := flat_le h n
    omega
theorem flat_get {α : Type} (f : α → List V) (d : α) : ∀ ds : List α, (List.range ds.length).flatMap (fun k => f (ds.getD k d)) = ds.flatMap f := by
  intro ds
  have h : ds = (List.range ds.length).map (fun k => ds.getD k d) := by
    apply List.ext_getElem?
    intro i
    by_cases hi : i < ds.length
    · rw [List.getElem?_map, List.getElem?_range hi]
      show ds[i]? = some (ds.getD i d)
      rw [List.getD_eq_getElem?_getD, List.getElem?_eq_getElem hi]
      rfl
    · rw [List.getElem?_eq_none (by simpa using hi), List.getElem?_eq_none (by simpa using hi)]
  conv => rhs; rw [h, List.flatMap_map]
section
variable {K : PySem.W.Frag} {σ : L2.St} {H : Hp} {tl tl1 te tt tt1 : TE} {P : Addr → Hp → Prop}
theorem en_lcS {i j : Nat} {vs vs1 : List Nat} {Rp : List V → Prop} (h : EvN tl σ H P) (hP : ∀ p H', Ex H H' → P p H' → ∃ xs ys, H' p = some (.lst xs) ∧ (∀ k x, xs[k]? = some x → EvN tl1 ((wipe σ vs).set i (some x)) H' (fun l H2 => H2 l = some (.lst (ys k)))) ∧ Rp ((List.range xs.length).flatMap ys) ∧ ((List.range xs.length).flatMap ys).length < 50000)
    (hw : ∀ x, wipe ((wipe σ vs).set i (some x)) vs = wipe σ vs) (hw1 : ∀ x y, wipe ((wipe ((wipe σ vs).set i (some x)) vs1).set j (some y)) vs1 = wipe ((wipe σ vs).set i (some x)) vs1)
    (hv : ∀ x y, ((wipe ((wipe σ vs).set i (some x)) vs1).set j (some y))[j]? = some (some y)) : EvN (tLc2 (iList K tl) (gName i) tYes (iList K tl1) (gName j) tYes (tVar j) vs vs1) σ H (fun p H' => ∃ R, Rp R ∧ H' p = some (.lst R)) :=
  el_lc2 (fun H1 e1 Q1 q1 => h H1 e1 _ fun p H2 hp e2 h2 => q1 p H2 hp e2 (hP p H2 (e1.trans e2) h2)) hw hw1 hv
end
section
variable {P : Program} {w : World} {K : PySem.W.Frag} {mg : Str → Option Value} {base : Heap} {CS CP : Addr}
def sp_samples (CS CP : Addr) : Sp := fun vs H Q _ => ∃ dv sv dn db cs, ∃ m : Nat, vs = [dv, sv, .int (m : Int)] ∧ SpAt CS H dv dn db ∧ SqAt CS H sv cs ∧ cs.length ≤ 1000 ∧ (allStarts ((dn, db) :: cs)).length < 63 ∧ m ≤ 100 ∧
  RetN (fun p H' => ∃ R, (∃ ds, IsPcs dn db cs ds ∧ R = ds.flatMap fun d => mL d.1 m) ∧ H' p = some (.lst R)) H Q
theorem ok_samples (T : Txt K mg CS CP) : Cal P w K mg base 10 "samples" (sp_samples CS CP) := by
  have c_pieces : Cal P w K mg base 9 "pieces" (sp_pieces CS CP) := ok_pieces T
  have cMem : MCal P w K mg base 3 CP "members" (sp_mem CS CP) := ok_mem T
  refine T.d_samples.cal sc_samples (fun vs H Q E h => ?_) (fun cdv f A outer s H vs Q E hr h => ?_)
  · obtain ⟨dv, sv, dn, db, cs, m, rfl, _⟩ := h
    rfl
  · obtain ⟨dv, sv, dn, db, cs, m, rfl, hD, hSq, hlc, h63, hm, q⟩ := h
    refine ⟨_, (pss_one (ps_ret (pe_lc2 (own := [("piece", 3), ("content", 4)]) (vs1 := [4]) (g := gName 3) (g1 := gName 4) rfl sc_samples.nd (pi_list (pe_c c_pieces hr (by decide) (by rfl) (pa_cons (pv 0) (pa_cons (pv 1) pa_nil)))) (blkOk_by (own := [("piece", 3), ("content", 4)]) (N := n_samples) (sc := defScope s_samples) (by decide +kernel)) (by decide) (fun _ _ _ _ _ => pg_name (i := 3) sc_samples.nd rfl (by first | exact Or.inl rfl | exact Or.inr rfl)) (fun _ _ _ _ _ => pts_nil) (fun _ _ _ _ _ => pi_listK (K := K) rfl (pe_ms (pv 3) T.Pc.cl cMem hr (by decide) (pa_cons (pv 2) pa_nil))) (fun _ _ _ _ _ => pg_name (i := 4) sc_samples.nd rfl (by first | exact Or.inl rfl | exact Or.inr rfl)) (fun _ _ _ _ _ => pts_nil) (fun _ _ _ _ _ => (pv 4))))), ?_⟩
    refine s_retNR (en_lcS (Rp := fun R => ∃ ds, IsPcs dn db cs ds ∧ R = ds.flatMap fun d => mL d.1 m) (P := fun p H' => ∃ pvs ds, IsPcs dn db cs ds ∧ H' p = some (.lst pvs) ∧ Pcs CS CP H' pvs ds) (en_cl (ea_cons (ev_var rfl) (ea_cons (ev_var rfl) ea_nil)) fun H1 e1 Q1 k => ⟨dv, sv, dn, db, cs, rfl, hD.ex e1, hSq.ex e1, hlc, h63, k⟩) ?_ (fun _ => rfl) (fun _ _ => rfl) (fun _ _ => rfl)) q
    rintro p H1 _ ⟨pvs, ds, hI, hp, hPc⟩
    have lp : pvs.length = ds.length := plen hPc
    obtain ⟨hl, hok⟩ := pcs_okP hI
    refine ⟨pvs, fun k => mL (ds.getD k ([], false, [])).1 m, hp, fun k x hk => ?_, ⟨ds, hI, ?_⟩, ?_⟩
    · obtain ⟨d, hd, hPd⟩ := pget hPc hk
      have ed : ds.getD k ([], false, []) = d := by rw [List.getD_eq_getElem?_getD, hd]; rfl
      show EvN _ _ _ (fun l H2 => H2 l = some (.lst (mL (ds.getD k ([], false, [])).1 m)))
      rw [ed]
      intro H2 e2 Q2 k2
      obtain ⟨a, dx, s, c, rfl, ⟨h2, h3⟩, h4, h5⟩ := id hPd
      exact ⟨_, rfl, a, dx, _, rfl, .inr ⟨e2 _ _ h2, e2 _ _ h3⟩, _, rfl, .ref a, m, d.1, d.2.1, d.2.2, rfl, hPd.ex e2, hok d (List.mem_iff_getElem?.mpr ⟨k, hd⟩), by omega, k2⟩
    · rw [lp]
      exact flat_get (fun d : Pd => mL d.1 m) ([], false, []) ds
    · have := flat_le (ys := fun k => mL (ds.getD k ([], false, [])).1 m) (fun k => mL_len _ _) pvs.length
      have b : pvs.length * m ≤ 64 * 100 := Nat.mul_le_mul (by omega) hm
      omega
end
end K3

/-! K3J: the law's draws. -/
namespace K3
open PySem PySem.Spec PyProof.Rows L2 Evl SlX
def PotAt (H : Hp) (p : Addr) : Prop := ∃ a b : Int, H p = some (.lst [.int a, .int b]) ∧ 0 ≤ a ∧ a < 2147483647 ∧ 0 ≤ b
theorem PotAt.ex {H H' : Hp} {p : Addr} (e : Ex H H') (h : PotAt H p) : PotAt H' p := by
  obtain ⟨a, b, h1, h2⟩ := h
  exact ⟨a, b, e _ _ h1, h2⟩
/-- from H to H': the pot stirred, the rest kept -/
def Mv (p : Addr) (H H' : Hp) : Prop := PotAt H' p ∧ Ex (hide p H) H'
theorem Mv.refl {p : Addr} {H : Hp} (h : PotAt H p) : Mv p H H := ⟨h, hide_ex p H⟩
theorem Mv.trans {p : Addr} {H H' H2 : Hp} (h : Mv p H H') (h' : Mv p H' H2) : Mv p H H2 := ⟨h'.1, fun b o e => by
  have e1 := h.2 b o e
  have n := (hide_some e).1
  exact h'.2 b o (by rw [hide_ne n]; exact e1)⟩
theorem Mv.ex {p : Addr} {H H' H2 : Hp} (h : Mv p H H') (e : Ex H' H2) : Mv p H H2 := ⟨h.1.ex e, h.2.trans e⟩
theorem Mv.of {p : Addr} {H H' : Hp} (h : PotAt H p) (e : Ex H H') : Mv p H H' := (Mv.refl h).ex e
theorem Mv.pre {p : Addr} {H H' H2 : Hp} (e : Ex H H') (h : Mv p H' H2) : Mv p H H2 := ⟨h.1, (hide_mono e).trans h.2⟩
theorem Mv.hid {p : Addr} {H H' : Hp} (h : Mv p H H') : Ex (hide p H) (hide p H') := fun b o e => by
  rw [hide_ne (hide_some e).1]
  exact h.2 b o e
/-- reading te from H on stirs the pot p; what comes out stands in G -/
def EvM (p : Addr) (te : TE) (σ : L2.St) (H : Hp) (G : V → Hp → Prop) : Prop := ∀ H1, Mv p H H1 → ∀ Q : VK, (∀ v H2, Mv p H1 H2 → G v H2 → Q v H2) → te σ H1 Q
abbrev isI (R : Int → Prop) : V → Hp → Prop := fun v _ => ∃ i, v = .int i ∧ R i
abbrev lt0 (m : Int) : Int → Prop := fun i => 0 ≤ i ∧ i < m
def sp_draw : Sp := fun vs H Q _ => ∃ p, ∃ m : Int, vs = [.ref p, .int m] ∧ PotAt H p ∧ 1 ≤ m ∧ ∀ n H', 0 ≤ n → n < m → Mv p H H' → Q (.int n) H'
section
variable {p : Addr} {σ : L2.St} {H : Hp} {ta tb te : TE} {K : PySem.W.Frag} {G G' : V → Hp → Prop} {D : Ends} {tz tu tw : TS} {v : V} {R R1 R2 : Int → Prop} {xs : List V}
theorem EvM.imp (h : EvM p te σ H G) (k : ∀ v H', G v H' → G' v H') : EvM p te σ H G' := fun H1 m Q q => h H1 m Q fun v H2 m2 g => q v H2 m2 (k v H2 g)
theorem EvM.mv {H' : Hp} (m : Mv p H H') (h : EvM p te σ H G) : EvM p te σ H' G := fun H1 m1 Q q => h H1 (m.trans m1) Q q
theorem em_ev (h : Ev te σ (hide p H) v) : EvM p te σ H (fun x _ => x = v) := fun H1 m Q q => h H1 m.2 Q fun H2 e2 => q v H2 (Mv.of m.1 e2) rfl
theorem em_int {i : Int} (h : Ev te σ (hide p H) (.int i)) (hR : R i) : EvM p te σ H (isI R) := (em_ev h).imp fun v _ e => ⟨i, e, hR⟩
theorem em_list (h : EvL te σ (hide p H) xs) : EvM p te σ H (fun x H' => ∃ l, x = .ref l ∧ l ≠ p ∧ H' l = some (.lst xs)) := fun H1 m Q q => h H1 m.2 Q fun l H2 hl e2 h2 => q _ H2 (Mv.of m.1 e2) ⟨l, rfl, (fun z => by
  obtain ⟨a, b, h, _⟩ := m.1
  rw [z, h] at hl
  cases hl), h2⟩
theorem em_draw {i : Nat} {M : Int} (hv : σ[i]? = some (some (.ref p))) (h : EvM p te σ H (isI fun m => 1 ≤ m ∧ m ≤ M)) : EvM p (tCl sp_draw (tCons (tVar i) (tCons te tNil))) σ H (isI (lt0 M)) := fun H1 m Q q =>
  ⟨_, hv, h H1 m _ fun v H2 m2 ⟨k, e, hk⟩ => by
    subst e
    exact ⟨p, k, rfl, m2.1, hk.1, fun n H3 h0 h1 m3 => q _ H3 (m2.trans m3) ⟨n, rfl, h0, by omega⟩⟩⟩
theorem em_drawC {i : Nat} {M : Int} (hv : σ[i]? = some (some (.ref p))) (hM : 1 ≤ M) : EvM p (tCl sp_draw (tCons (tVar i) (tCons (tC (.int M)) tNil))) σ H (isI (lt0 M)) := em_draw hv (em_int ev_c ⟨hM, Int.le_refl _⟩)
/-- a number out of a new list of numbers, at a drawn place -/
theorem em_pick {is : List Int} (hl : EvL ta σ (hide p H) (is.map V.int)) (hi : EvM p te σ H (isI (lt0 is.length))) (hR : ∀ i ∈ is, R i) : EvM p (tOp (rIxL K) ta te) σ H (isI R) := fun H1 m Q q =>
  em_list hl H1 m _ fun v H2 m2 ⟨l, e, nl, h2⟩ => hi H2 (m.trans m2) _ fun w H3 m3 ⟨i, e', h0, h1⟩ => by
    subst e e'
    have h3 : H3 l = some (.lst (is.map V.int)) := m3.2 l _ (by rw [hide_ne nl]; exact h2)
    obtain ⟨k, rfl⟩ : ∃ k : Nat, i = (k : Int) := ⟨i.toNat, by omega⟩
    have hk : k < is.length := by omega
    have ha : atI (is.map V.int) (k : Int) = some (.int is[k]) := atI_nat (by
      rw [List.getElem?_map, List.getElem?_eq_getElem hk]
      rfl)
    exact rv_ixL (SqL.of h3) ha H3 (Ex.refl H3) _ fun H4 e4 => q _ H4 ((m2.trans m3).ex e4) ⟨_, rfl, hR _ (List.getElem_mem hk)⟩
theorem em_I {g : Int → Int → Int} {C : Int → Int → Prop} (ha : EvM p ta σ H (isI R1)) (hb : EvM p tb σ H (isI R2)) (hR : ∀ i j, R1 i → R2 j → C i j ∧ R (g i j)) : EvM p (tOp (rI C fun i j => .int (g i j)) ta tb) σ H (isI R) := fun H1 m Q q =>
  ha H1 m _ fun v H2 m2 ⟨i, e, hi⟩ => hb H2 (m.trans m2) _ fun w H3 m3 ⟨j, e', hj⟩ => by
    subst e e'
    exact rv_I (hR i j hi hj).1 H3 (Ex.refl H3) _ fun H4 e4 => q _ H4 ((m2.trans m3).ex e4) ⟨_, rfl, (hR i j hi hj).2⟩
theorem em_I0 {g : Int → Int → Int} (ha : EvM p ta σ H (isI R1)) (hb : EvM p tb σ H (isI R2)) (hR : ∀ i j, R1 i → R2 j → R (g i j)) : EvM p (tOp (rI0 fun i j => .int (g i j)) ta tb) σ H (isI R) := fun H1 m Q q =>
  ha H1 m _ fun v H2 m2 ⟨i, e, hi⟩ => hb H2 (m.trans m2) _ fun w H3 m3 ⟨j, e', hj⟩ => by
    subst e e'
    exact rv_I0 H3 (Ex.refl H3) _ fun H4 e4 => q _ H4 ((m2.trans m3).ex e4) ⟨_, rfl, hR i j hi hj⟩
theorem q_asgM {i : Nat} (hp : PotAt H p) (h : EvM p te σ H G) (k : ∀ v H1, Mv p H H1 → G v H1 → tz D (σ.set i (some v)) H1) : tSeq (tAsg te (gName i)) tz D σ H := h H (Mv.refl hp) _ fun v H1 m g => k v H1 m g
theorem q_whenS {b : Bool} {t : TT} (M : L2.St → Hp → Prop) (h : EvT t σ H b) (h1 : b = true → ∀ H1, Ex H H1 → ∀ D' : Ends, (∀ σ' H2, M σ' H2 → D'.nx σ' H2) → tu D' σ H1) (h2 : b = false → ∀ H1, Ex H H1 → M σ H1) (k : ∀ σ' H2, M σ' H2 → tz D σ' H2) : tSeq (tIfS t tu tNext) tz D σ H :=
  q_when h (fun hb H1 e => h1 hb H1 e _ k) (fun hb H1 e => k σ H1 (h2 hb H1 e))
theorem ev_lenS {ta : TE} {a : Addr} (ha : Ev ta σ H (.ref a)) (h : SqL K H a xs) : Ev (tCB (rLenQ K) (tCons ta tNil)) σ H (.int (xs.length : Int)) := fun H1 e Q q => ha H1 e _ fun H2 e2 => ⟨a, xs, rfl, .inl (ex_l (e.trans e2) h), q H2 e2⟩
theorem ev_ixS {ta tb : TE} {a : Addr} {i : Int} (ha : Ev ta σ H (.ref a)) (hb : Ev tb σ H (.int i)) (h : SqL K H a xs) (hi : atI xs i = some v) : Ev (tOp (rIxL K) ta tb) σ H v := ev_op ha hb (rv_ixL h hi)
theorem s_retM (hp : PotAt H p) (h : EvM p te σ H G) (k : ∀ v H1, Mv p H H1 → G v H1 → D.rt v H1) : tRet te D σ H := h H (Mv.refl hp) _ fun v H1 m g => k v H1 m g
end
section
variable {P : Program} {w : World} {K : PySem.W.Frag} {mg : Str → Option Value} {base : Heap} {CS CP : Addr}
theorem ok_draw (T : Txt K mg CS CP) : Cal P w K mg base 1 "_law_draw" sp_draw := by
  refine T.d_draw.cal sc_ldraw (fun vs H Q E h => ?_) (fun cdv f A outer s H vs Q E hr h => ?_)
  · obtain ⟨p, m, rfl, _⟩ := h
    rfl
  · obtain ⟨p, m, rfl, ⟨a, b, hp, ha0, ha1, hb0⟩, hm, q⟩ := h
    refine ⟨_, (pss_cons (ps_if (pt_cmpR op_eq (pe_ix ix_list (pv 0) pe_int (fun _ _ => rfl)) pe_int (nomark _)) (pss_cons (ps_set (i := 2) sc_ldraw.nd rfl (by first | exact Or.inl rfl | exact Or.inr rfl) (pe_op op_mod (pe_op op_mod (pe_callTy call_int1 (by rfl) T.int_ (by decide +kernel) (pa_cons (pe_ix ix_list (pv 0) pe_int (fun _ _ => rfl)) pa_nil)) pe_int) (pv 1)))
      (pss_cons (ps_asg (pe_op op_fdiv (pe_callTy call_int1 (by rfl) T.int_ (by decide +kernel) (pa_cons (pe_ix ix_list (pv 0) pe_int (fun _ _ => rfl)) pa_nil)) pe_int) (pg_sub (pv 0) pe_int set_list))
      (pss_one (ps_ret (pv 2))))) pss_nil)
      (pss_cons (ps_asg (pe_op op_mod (pe_callTy call_int1 (by rfl) T.int_ (by decide +kernel) (pa_cons (pe_op op_mul (pe_ix ix_list (pv 0) pe_int (fun _ _ => rfl)) pe_int) pa_nil)) pe_int) (pg_sub (pv 0) pe_int set_list))
      (pss_one (ps_ret (pe_op op_mod (pe_op op_mod (pe_callTy call_int1 (by rfl) T.int_ (by decide +kernel) (pa_cons (pe_op op_mul (pe_ix ix_list (pv 0) pe_int (fun _ _ => rfl)) (pe_ix ix_list (pv 0) pe_int (fun _ _ => rfl))) pa_nil)) pe_int) (pv 1)))))), ?_⟩
    have at0 : ∀ {x y : Int}, atI [V.int x, V.int y] 0 = some (.int x) := rfl
    have at1 : ∀ {x y : Int}, atI [V.int x, V.int y] 1 = some (.int y) := rfl
    refine q_when (b := decide (V.int a = V.int 0)) (et_T (ev_eq (ev_ixL (ev_var rfl) ev_c hp at0) ev_c rfl)) (fun hb H1 e1 => ?_) (fun hb H1 e1 => ?_)
    · refine q_asg (v := .int (b % 1000 % m)) (ev_IC (ev_IC (ev_int (ev_ixL (ev_var rfl) ev_c (e1 _ _ hp) at1)) ev_c (by decide)) (ev_var rfl) (by omega)) fun H2 e2 => ?_
      refine q_setL (j := 1) ((e1.trans e2) _ _ hp) (v := .int (b / 1000)) (ev_IC (ev_int (ev_ixL (ev_var rfl) ev_c ((e1.trans e2) _ _ hp) at1)) ev_c ⟨by decide, by decide⟩) (ev_var rfl) ev_c (by decide : 1 < 2) fun H3 e3 => ?_
      refine s_ret (ev_var rfl) fun H4 e4 => q _ H4 (Int.emod_nonneg _ (by omega)) (Int.emod_lt_of_pos _ (by omega)) ?_
      have m0 : Mv p H (upd H3 p (.lst [.int a, .int (b / 1000)])) := ⟨⟨a, b / 1000, upd_same, ha0, ha1, by omega⟩, fun c o h => by
        obtain ⟨n, h⟩ := hide_some h
        rw [upd_ne n]
        exact ((e1.trans e2).trans e3) _ _ h⟩
      exact m0.ex e4
    · refine q_setL (j := 0) (e1 _ _ hp) (v := .int (a * 48271 % 2147483647)) (ev_IC (ev_int (ev_IC (ev_ixL (ev_var rfl) ev_c (e1 _ _ hp) at0) ev_c (.inr ⟨by decide, by decide⟩))) ev_c (by decide)) (ev_var rfl) ev_c (by decide : 0 < 2) fun H2 e2 => ?_
      have h2 : (upd H2 p (.lst [.int (a * 48271 % 2147483647), .int b])) p = some (.lst [.int (a * 48271 % 2147483647), .int b]) := upd_same
      have m0 : Mv p H (upd H2 p (.lst [.int (a * 48271 % 2147483647), .int b])) := ⟨⟨_, b, upd_same, by omega, by omega, hb0⟩, fun c o h => by
        obtain ⟨n, h⟩ := hide_some h
        rw [upd_ne n]
        exact (e1.trans e2) _ _ h⟩
      have c0 : 0 ≤ a * 48271 % 2147483647 := by omega
      have c1 : a * 48271 % 2147483647 < 2147483647 := by omega
      generalize a * 48271 % 2147483647 = c at *
      refine s_ret (v := .int (c * c % 2147483629 % m)) (ev_IC (ev_IC (ev_int (ev_IC (ev_ixL (ev_var rfl) ev_c h2 at0) (ev_ixL (ev_var rfl) ev_c h2 at0) (.inr ⟨by omega, by omega⟩))) ev_c (by decide)) (ev_var rfl) (by omega)) fun H4 e4 => q _ H4 (Int.emod_nonneg _ (by omega)) (Int.emod_lt_of_pos _ (by omega)) (m0.ex e4)
def sp_pot (K : PySem.W.Frag) : Sp := fun vs H Q _ => ∃ (a : Addr) (ns : List Int) (k : Nat), vs = [.ref a, .int (k : Int)] ∧ SqL K H a (ns.map V.int) ∧ RetN (fun p H' => PotAt H' p) H Q
theorem ok_pot (T : Txt K mg CS CP) : Cal P w K mg base 1 "_law_pot" (sp_pot K) := by
  refine T.d_pot.cal sc_lpot (fun vs H Q E h => ?_) (fun cdv f A outer s H vs Q E hr h => ?_)
  · obtain ⟨a, ns, k, rfl, _⟩ := h
    rfl
  · obtain ⟨a, ns, k, rfl, hS, q⟩ := h
    refine ⟨_, (pss_cons (ps_set (i := 2) sc_lpot.nd rfl (by first | exact Or.inl rfl | exact Or.inr rfl) pe_int)
      (pss_cons (ps_if (pt_cmpR op_lt (pv 1) (pe_callB call_len_seq (by rfl) T.len_ PySem.boot_len (pa_cons (pv 0) pa_nil)) (nomark _)) (pss_one (ps_set (i := 2) sc_lpot.nd rfl (by first | exact Or.inl rfl | exact Or.inr rfl) (pe_callB call_abs (by rfl) T.abs_ (by decide +kernel) (pa_cons (pe_ix ix_list (pv 0) (pv 1) (fun _ _ => rfl)) pa_nil)))) pss_nil)
      (pss_cons (ps_if (pt_cmpR op_lt (pv 2) (pe_op op_pow pe_int pe_int) (nomark _)) (pss_one (ps_ret (pe_lst (pa_cons (pe_op op_mod (pe_callTy call_int1 (by rfl) T.int_ (by decide +kernel) (pa_cons (pv 2) pa_nil)) pe_int) (pa_cons pe_int pa_nil))))) pss_nil)
      (pss_one (ps_ret (pe_lst (pa_cons pe_int (pa_cons (pe_op op_sub (pv 2) (pe_op op_pow pe_int pe_int)) pa_nil)))))))), ?_⟩
    refine q_asg ev_c fun H1 e1 => ?_
    refine q_whenS (fun σ' H2 => ∃ n : Int, 0 ≤ n ∧ σ' = [some (.ref a), some (.int (k : Int)), some (.int n)] ∧ Ex H H2) (b := decide ((k : Int) < ((ns.map V.int).length : Int))) (et_T (ev_I (ev_var rfl) (ev_lenS (ev_var rfl) (ex_l e1 hS)))) (fun hb H2 e2 D' kd => ?_) (fun hb H2 e2 => ⟨0, Int.le_refl _, rfl, e1.trans e2⟩) ?_
    · have hk : k < ns.length := by
        have := of_decide_eq_true hb
        rw [List.length_map] at this
        omega
      refine s_asg (ev_abs (ev_ixS (ev_var rfl) (ev_var rfl) (ex_l (e1.trans e2) hS) (v := .int ns[k]) (atI_nat (by
        rw [List.getElem?_map, List.getElem?_eq_getElem hk]
        rfl)))) fun H3 e3 => kd _ H3 ⟨_, ?_, rfl, (e1.trans e2).trans e3⟩
      split <;> omega
    · rintro σ' H2 ⟨n, hn, rfl, eH⟩
      have hc : CPow 10 18 := ⟨by decide, by decide, by decide⟩
      refine q_when (b := decide (n < 10 ^ (18 : Int).toNat)) (et_T (ev_I (ev_var rfl) (ev_IC ev_c ev_c hc))) (fun hb H3 e3 => ?_) (fun hb H3 e3 => ?_)
      · refine s_retN (en_l (el_lst (ea_cons (ev_IC (ev_int (ev_var rfl)) ev_c (by decide)) (ea_cons ev_c ea_nil)) (show 2 ≤ 100000 by decide))) fun p H4 hp e4 h4 => q p H4 (fresh_back (eH.trans e3) hp) ((eH.trans e3).trans e4) ⟨_, _, h4, by omega, by omega, by omega⟩
      · have hge : (10 : Int) ^ (18 : Int).toNat ≤ n := by
          have := of_decide_eq_false hb
          omega
        refine s_retN (en_l (el_lst (ea_cons ev_c (ea_cons (ev_I (ev_var rfl) (ev_IC ev_c ev_c hc)) ea_nil)) (show 2 ≤ 100000 by decide))) fun p H4 hp e4 h4 => q p H4 (fresh_back (eH.trans e3) hp) ((eH.trans e3).trans e4) ⟨_, _, h4, by omega, by omega, ?_⟩
        generalize (10 : Int) ^ (18 : Int).toNat = z at *
        omega
end
end K3

/-! K3L: the law's numbers, pairs, members of the domain. -/
namespace K3
open PySem PySem.Spec PyProof.Rows L2 Evl SlX
/-! ### all but the lists kept -/
def Kt (H H' : Hp) : Prop := ∀ b o, H b = some o → (∀ xs, o ≠ .lst xs) → H' b = some o
theorem Kt.refl (H : Hp) : Kt H H := fun _ _ h _ => h
theorem Kt.trans {H H' H2 : Hp} (h : Kt H H') (h' : Kt H' H2) : Kt H H2 := fun b o e n => h' b o (h b o e n) n
theorem Kt.of {H H' : Hp} (e : Ex H H') : Kt H H' := fun b o h _ => e b o h
theorem Kt.upd {H : Hp} {l : Addr} {xs : List V} (h : H l = some (.lst xs)) (o : HO) : Kt H (upd H l o) := fun b o' e n => by
  rw [upd_ne (fun z => n xs (by rw [z, h] at e; exact (Option.some.inj e).symm))]
  exact e
theorem Mv.kt {p : Addr} {H H' : Hp} (h : PotAt H p) (m : Mv p H H') : Kt H H' := fun b o e n => m.2 b o (by
  obtain ⟨a, c, hp, _⟩ := h
  rw [hide_ne (fun z => n _ (by rw [z, hp] at e; exact (Option.some.inj e).symm))]
  exact e)
theorem Sv.kt {H H' : Hp} {v : V} {p : Sx} (k : Kt H H') (h : Sv H v p) : Sv H' v p := by
  obtain ⟨a, h1, h2⟩ := h
  exact ⟨a, h1, k _ _ h2 (fun _ z => nomatch z)⟩
theorem Svs.kt {H H' : Hp} {vs : List V} {ps : List Sx} (k : Kt H H') (h : Svs H vs ps) : Svs H' vs ps := Paired.mapP h fun _ _ => Sv.kt k
theorem SpAt.kt {C : Addr} {H H' : Hp} {v : V} {ns : List Sx} {b : Bool} (k : Kt H H') (h : SpAt C H v ns b) : SpAt C H' v ns b := by
  obtain ⟨a, dx, t, ts, o, h1, ⟨h2, h3⟩, h4, h5⟩ := h
  exact ⟨a, dx, t, ts, o, h1, ⟨k _ _ h2 (fun _ z => nomatch z), k _ _ h3 (fun _ z => nomatch z)⟩, k _ _ h4 (fun _ z => nomatch z), Svs.kt k h5⟩
theorem PcAt.kt {CS CP : Addr} {H H' : Hp} {v : V} {ns : List Sx} {b : Bool} {cols : List Bool} (k : Kt H H') (h : PcAt CS CP H v ns b cols) : PcAt CS CP H' v ns b cols := by
  obtain ⟨a, dx, s, c, h1, ⟨h2, h3⟩, h4, h5⟩ := h
  exact ⟨a, dx, s, c, h1, ⟨k _ _ h2 (fun _ z => nomatch z), k _ _ h3 (fun _ z => nomatch z)⟩, h4.kt k, k _ _ h5 (fun _ z => nomatch z)⟩
theorem Sps.kt {C : Addr} {H H' : Hp} {vs : List V} {cs : List Rs} (k : Kt H H') (h : Sps C H vs cs) : Sps C H' vs cs := Paired.mapP h fun _ _ => SpAt.kt k
theorem Pcs.kt {CS CP : Addr} {H H' : Hp} {vs : List V} {ds : List Pd} (k : Kt H H') (h : Pcs CS CP H vs ds) : Pcs CS CP H' vs ds := Paired.mapP h fun _ _ => PcAt.kt k
theorem pot_ne {H : Hp} {p l : Addr} (h : PotAt H p) (hl : H l = none) : l ≠ p := fun z => by
  obtain ⟨a, b, h, _⟩ := h
  rw [z, h] at hl
  cases hl
/-! ### the numbers drawn -/
def okB (p : Sx) : Prop := okS p ∧ ∀ x, p.1 = some x ∨ p.2 = some x → -1000000000000 ≤ x ∧ x ≤ 1000000000000
theorem okB_two {a b : Int} (h : a ≤ b) (ha : -1000000000000 ≤ a) (hb : b ≤ 1000000000000) : okB (some a, some b) := ⟨(fun l u hl hu => by
  cases hl; cases hu; exact h), fun x hx => by
  rcases hx with h | h <;> cases h <;> omega⟩
theorem okB_lo {a : Int} (ha : -1000000000000 ≤ a ∧ a ≤ 1000000000000) : okB (some a, none) := ⟨(fun l u hl hu => nomatch hu), fun x hx => by
  rcases hx with h | h <;> cases h <;> omega⟩
theorem okB_hi {a : Int} (ha : -1000000000000 ≤ a ∧ a ≤ 1000000000000) : okB (none, some a) := ⟨(fun l u hl hu => nomatch hl), fun x hx => by
  rcases hx with h | h <;> cases h <;> omega⟩
theorem okB_no : okB (none, none) := ⟨(fun l u hl hu => nomatch hl), fun x hx => by
  rcases hx with h | h <;> cases h⟩
abbrev bN : Int → Prop := fun i => -99999999999 ≤ i ∧ i ≤ 99999999999
def sp_number : Sp := fun vs H Q _ => ∃ p, vs = [.ref p] ∧ PotAt H p ∧ ∀ n H', bN n → Mv p H H' → Q (.int n) H'
def sp_drawn : Sp := fun vs H Q _ => ∃ p, vs = [.ref p] ∧ PotAt H p ∧ ∀ l us ps H', H l = none → Mv p H H' → H' l = some (.lst us) → Svs H' us ps → (∀ q ∈ ps, okB q) → ps.length ≤ 12 → Q (.ref l) H'
def EvMB (p : Addr) (tt : TT) (σ : L2.St) (H : Hp) : Prop := ∀ H1, Mv p H H1 → ∀ Q : Bool → Hp → Prop, (∀ b H2, Mv p H1 H2 → Q b H2) → tt σ H1 Q
section
variable {p : Addr} {σ : L2.St} {H : Hp} {ta tb te : TE} {K : PySem.W.Frag} {G G' : V → Hp → Prop} {D : Ends} {tz tu tw : TS} {v : V} {R R1 R2 : Int → Prop} {xs : List V} {tt : TT}
abbrev isBl : V → Hp → Prop := fun v _ => ∃ b, v = .bl b
theorem em_eq {j : Int} (ha : EvM p ta σ H (isI R)) : EvM p (tOp rEq ta (tC (.int j))) σ H isBl := fun H1 m Q q => ha H1 m _ fun v H2 m2 ⟨i, e, _⟩ => by
  subst e
  exact ⟨rfl, q _ H2 m2 ⟨_, rfl⟩⟩
theorem eb_T (h : EvM p te σ H isBl) : EvMB p (tTest te) σ H := fun H1 m Q q => h H1 m _ fun v H2 m2 ⟨b, e⟩ => ⟨b, e, q b H2 m2⟩
theorem q_whenM (hp : PotAt H p) (h : EvMB p tt σ H) (h1 : ∀ H1, Mv p H H1 → tu { D with nx := tz D } σ H1) (h2 : ∀ H1, Mv p H H1 → tz D σ H1) : tSeq (tIfS tt tu tNext) tz D σ H := h H (Mv.refl hp) _ fun b H1 m => by
  cases b with
  | true => exact h1 H1 m
  | false => exact h2 H1 m
theorem s_asgM {i : Nat} (hp : PotAt H p) (h : EvM p te σ H G) (k : ∀ v H1, Mv p H H1 → G v H1 → D.nx (σ.set i (some v)) H1) : tAsg te (gName i) D σ H := h H (Mv.refl hp) _ fun v H1 m g => k v H1 m g
theorem em_num {i : Nat} (hv : σ[i]? = some (some (.ref p))) : EvM p (tCl sp_number (tCons (tVar i) tNil)) σ H (isI bN) := fun H1 m Q q => ⟨_, hv, p, rfl, m.1, fun n H3 h0 m3 => q _ H3 m3 ⟨n, rfl, h0⟩⟩
theorem q_forRM {j : Nat} {N : Nat} (hN : N ≤ 100000) (hp : PotAt H p) (h : EvM p te σ H (isI (lt0 ((N : Int) + 1)))) (Pv : Nat → L2.St → Hp → Prop) (h0 : ∀ H1, Mv p H H1 → Pv 0 σ H1)
    (hs : ∀ (i : Nat) σ' H', i < N → Pv i σ' H' → tu { D with nx := Pv (i + 1), ct := Pv (i + 1), bk := tz D } (σ'.set j (some (.int (i : Int)))) H') (hd : ∀ n σ' H', n ≤ N → Pv n σ' H' → tz D σ' H') : tSeq (tFor (iRng1 (tCons te tNil)) (gName j) tu) tz D σ H :=
  h H (Mv.refl hp) _ fun v H1 m ⟨n, e, hn0, hn1⟩ => ⟨n, by rw [e], by omega, by omega, for_range (lo := 0) (n := n.toNat) (D := { D with nx := tz D }) Pv (h0 H1 m) (fun i σ' H' hi p => by
    have e0 : (0 : Int) + (i : Int) = (i : Int) := Int.zero_add _
    show tu { D with nx := Pv (i + 1), ct := Pv (i + 1), bk := tz D } (σ'.set j (some (.int ((0 : Int) + (i : Int))))) H'
    rw [e0]
    exact hs i σ' H' (by omega) p) (fun σ' H' p => hd n.toNat σ' H' (by omega) p)⟩
theorem ev_min2 {i j : Int} (ha : Ev ta σ H (.int i)) (hb : Ev tb σ H (.int j)) : Ev (tCB (fun xs H Q => ∃ i j, xs = [.int i, .int j] ∧ Q (.int (if j < i then j else i)) H) (tCons ta (tCons tb tNil))) σ H (.int (if j < i then j else i)) := fun H1 e Q q =>
  ha H1 e _ fun H2 e2 => hb H2 (e.trans e2) _ fun H3 e3 => ⟨i, j, rfl, q H3 (e2.trans e3)⟩
/-- a stretch more -/
theorem s_appS {l : Addr} {us : List V} {ps : List Sx} {x y : Option Int} (hl : H l = some (.lst us)) (hs : Svs H us ps) (ha : Ev ta σ H (.ref l)) (h : EvU te σ H [oV x, oV y]) (hz : us.length < 100000)
    (k : ∀ H1 us', Ex (hide l H) H1 → H1 l = some (.lst us') → Svs H1 us' (ps ++ [(x, y)]) → D.nx σ H1) : tDrop (tBM K "list" rAppend ta (tCons te tNil)) D σ H :=
  s_appU hl ha h hz fun t H1 ht e1 h1 => k _ _ (fun b o e => by
    obtain ⟨n, e⟩ := hide_some e
    rw [upd_ne n]
    exact e1 _ _ e) upd_same (psnoc ⟨t, rfl, by
      rw [upd_ne (ne_of h1 (e1 _ _ hl) (fun z => nomatch z))]
      exact h1⟩ (Svs.kt ((Kt.of e1).trans (Kt.upd (e1 _ _ hl) _)) hs))
end
section
variable {P : Program} {w : World} {K : PySem.W.Frag} {mg : Str → Option Value} {base : Heap} {CS CP : Addr}
theorem ok_number (T : Txt K mg CS CP) : Cal P w K mg base 2 "_law_number" sp_number := by
  have c_l_draw : Cal P w K mg base 1 "_law_draw" sp_draw := ok_draw T
  refine T.d_number.cal sc_lnumber (fun vs H Q E h => ?_) (fun cdv f A outer s H vs Q E hr h => ?_)
  · obtain ⟨p, rfl, _⟩ := h
    rfl
  · obtain ⟨p, rfl, hp, q⟩ := h
    refine ⟨_, (pss_cons (ps_set (i := 1) sc_lnumber.nd rfl (by first | exact Or.inl rfl | exact Or.inr rfl) (pe_c c_l_draw hr (by decide) (by rfl) (pa_cons (pv 0) (pa_cons pe_int pa_nil))))
      (pss_cons (ps_set (i := 2) sc_lnumber.nd rfl (by first | exact Or.inl rfl | exact Or.inr rfl) (pe_c c_l_draw hr (by decide) (by rfl) (pa_cons (pv 0) (pa_cons (pe_ix ix_list (pe_lst (pa_cons pe_int (pa_cons pe_int (pa_cons pe_int (pa_cons pe_int (pa_cons pe_int (pa_cons pe_int (pa_cons pe_int (pa_cons pe_int pa_nil))))))))) (pv 1) (fun _ _ => rfl)) pa_nil))))
      (pss_cons (ps_if (pt_cmpR op_eq (pv 1) pe_int (nomark _)) (pss_one (ps_set (i := 2) sc_lnumber.nd rfl (by first | exact Or.inl rfl | exact Or.inr rfl) (pe_op op_add (pe_op op_add (pe_op op_add (pe_op op_mul (pv 2) (pe_op op_pow pe_int pe_int)) (pe_op op_mul (pe_c c_l_draw hr (by decide) (by rfl) (pa_cons (pv 0) (pa_cons pe_int pa_nil))) (pe_op op_pow pe_int pe_int))) (pe_op op_mul (pe_c c_l_draw hr (by decide) (by rfl) (pa_cons (pv 0) (pa_cons pe_int pa_nil))) pe_int)) (pe_c c_l_draw hr (by decide) (by rfl) (pa_cons (pv 0) (pa_cons pe_int pa_nil)))))) pss_nil)
      (pss_cons (ps_if (pt_cmpR op_eq (pe_c c_l_draw hr (by decide) (by rfl) (pa_cons (pv 0) (pa_cons pe_int pa_nil))) pe_int (nomark _)) (pss_one (ps_ret (pe_un un_neg (pv 2)))) pss_nil)
      (pss_one (ps_ret (pv 2))))))), ?_⟩
    refine q_asgM hp (em_drawC rfl (by decide)) fun v H1 m1 ⟨kind, ek, hk⟩ => ?_
    subst ek
    refine q_asgM m1.1 (em_draw (M := 1000) rfl (em_pick (is := [10, 10, 10, 10, 10, 41, 1000, 1000]) (el_lst (ea_cons ev_c (ea_cons ev_c (ea_cons ev_c (ea_cons ev_c (ea_cons ev_c (ea_cons ev_c (ea_cons ev_c (ea_cons ev_c ea_nil)))))))) (by decide)) (em_int (ev_var rfl) hk) (by decide))) fun v H2 m2 ⟨found, ef, hf⟩ => ?_
    subst ef
    have m02 := m1.trans m2
    have hc8 : CPow 10 8 := ⟨by decide, by decide, by decide⟩
    have hc5 : CPow 10 5 := ⟨by decide, by decide, by decide⟩
    refine q_whenS (fun σ' H' => ∃ f', σ' = [some (.ref p), some (.int kind), some (.int f')] ∧ 0 ≤ f' ∧ f' ≤ 99999999999 ∧ Mv p H H') (b := decide (V.int kind = V.int 7)) (et_T (ev_eq (ev_var rfl) ev_c rfl)) (fun hb H3 e3 D' kd => ?_) (fun hb H3 e3 => ⟨found, rfl, hf.1, by omega, m02.ex e3⟩) ?_
    · refine s_asgM (m2.1.ex e3) (em_I0 (R := fun i => 0 ≤ i ∧ i ≤ 99999999999) (em_I0 (R := fun i => 0 ≤ i ∧ i ≤ 99999999900) (em_I0 (R := fun i => 0 ≤ i ∧ i ≤ 99999900000) (em_I (R := fun i => 0 ≤ i ∧ i ≤ 99900000000) (em_int (ev_var rfl) hf) (em_int (R := fun i => i = 100000000) (ev_IC ev_c ev_c hc8) (by decide)) ?_) (em_I (R := fun i => 0 ≤ i ∧ i ≤ 99900000) (em_drawC rfl (by decide)) (em_int (R := fun i => i = 100000) (ev_IC ev_c ev_c hc5) (by decide)) ?_) ?_) (em_I (R := fun i => 0 ≤ i ∧ i ≤ 99900) (em_drawC rfl (by decide)) (em_int (R := fun i => i = 100) ev_c rfl) ?_) ?_) (em_drawC rfl (by decide)) ?_) fun v H4 m4 ⟨f', e, hf'⟩ => ?_
      · rintro i j ⟨h1, h2⟩ rfl
        exact ⟨.inr ⟨by decide, by decide⟩, by omega, by omega⟩
      · rintro i j ⟨h1, h2⟩ rfl
        exact ⟨.inr ⟨by decide, by decide⟩, by omega, by omega⟩
      · rintro i j ⟨h1, h2⟩ ⟨h3, h4⟩
        exact ⟨by omega, by omega⟩
      · rintro i j ⟨h1, h2⟩ rfl
        exact ⟨.inr ⟨by decide, by decide⟩, by omega, by omega⟩
      · rintro i j ⟨h1, h2⟩ ⟨h3, h4⟩
        exact ⟨by omega, by omega⟩
      · rintro i j ⟨h1, h2⟩ ⟨h3, h4⟩
        exact ⟨by omega, by omega⟩
      · subst e
        exact kd _ H4 ⟨f', rfl, hf'.1, hf'.2, (m02.ex e3).trans m4⟩
    · rintro σ' H3 ⟨f', rfl, h0, h1, m3⟩
      refine q_whenM m3.1 (eb_T (em_eq (em_drawC rfl (by decide)))) (fun H4 m4 => ?_) (fun H4 m4 => ?_)
      · exact s_ret (ev_neg (ev_var rfl)) fun H5 e5 => q _ H5 ⟨by omega, by omega⟩ ((m3.trans m4).ex e5)
      · exact s_ret (ev_var rfl) fun H5 e5 => q _ H5 ⟨by omega, by omega⟩ ((m3.trans m4).ex e5)
theorem ok_drawn (T : Txt K mg CS CP) : Cal P w K mg base 3 "_law_drawn_pairs" sp_drawn := by
  have c_l_draw : Cal P w K mg base 1 "_law_draw" sp_draw := ok_draw T
  have c_l_number : Cal P w K mg base 2 "_law_number" sp_number := ok_number T
  refine T.d_drawn_pairs.cal sc_ldrawnpairs (fun vs H Q E h => ?_) (fun cdv f A outer s H vs Q E hr h => ?_)
  · obtain ⟨p, rfl, _⟩ := h
    rfl
  · obtain ⟨p, rfl, hp, q⟩ := h
    refine ⟨_, (pss_cons (ps_set (i := 1) sc_ldrawnpairs.nd rfl (by first | exact Or.inl rfl | exact Or.inr rfl) (pe_lst pa_nil))
      (pss_cons (ps_for PassesOwn.never rfl (pi_range1 rfl T.range_ (pa_cons (pe_c c_l_draw hr (by decide) (by rfl) (pa_cons (pv 0) (pa_cons (pe_ix ix_list (pe_lst (pa_cons pe_int (pa_cons pe_int (pa_cons pe_int (pa_cons pe_int (pa_cons pe_int pa_nil)))))) (pe_c c_l_draw hr (by decide) (by rfl) (pa_cons (pv 0) (pa_cons pe_int pa_nil))) (fun _ _ => rfl)) pa_nil))) pa_nil)) (pg_name (i := 2) sc_ldrawnpairs.nd rfl (by first | exact Or.inl rfl | exact Or.inr rfl)) (pss_cons (ps_set (i := 3) sc_ldrawnpairs.nd rfl (by first | exact Or.inl rfl | exact Or.inr rfl) (pe_c c_l_draw hr (by decide) (by rfl) (pa_cons (pv 0) (pa_cons pe_int pa_nil))))
      (pss_cons (ps_set (i := 4) sc_ldrawnpairs.nd rfl (by first | exact Or.inl rfl | exact Or.inr rfl) (pe_c c_l_number hr (by decide) (by rfl) (pa_cons (pv 0) pa_nil)))
      (pss_cons (ps_set (i := 5) sc_ldrawnpairs.nd rfl (by first | exact Or.inl rfl | exact Or.inr rfl) (pe_c c_l_draw hr (by decide) (by rfl) (pa_cons (pv 0) (pa_cons (pe_ix ix_list (pe_lst (pa_cons pe_int (pa_cons pe_int (pa_cons pe_int (pa_cons pe_int (pa_cons pe_int pa_nil)))))) (pe_c c_l_draw hr (by decide) (by rfl) (pa_cons (pv 0) (pa_cons pe_int pa_nil))) (fun _ _ => rfl)) pa_nil))))
      (pss_one (ps_if (pt_cmpR op_lt (pv 3) pe_int (nomark _)) (pss_one (ps_expr (pe_bm PySem.F.plainAttrs_list PySem.F.slot_list_append PySem.F.type_list_append mt_append (pv 1) (pa_cons (pe_tup (pa_cons (pv 4) (pa_cons (pv 4) pa_nil))) pa_nil)))) (pss_one (ps_if (pt_cmpR op_lt (pv 3) pe_int (nomark _)) (pss_one (ps_expr (pe_bm PySem.F.plainAttrs_list PySem.F.slot_list_append PySem.F.type_list_append mt_append (pv 1) (pa_cons (pe_tup (pa_cons (pv 4) (pa_cons (pe_op op_add (pv 4) (pv 5)) pa_nil))) pa_nil)))) (pss_one (ps_if (pt_cmpR op_lt (pv 3) pe_int (nomark _)) (pss_cons (ps_set (i := 6) sc_ldrawnpairs.nd rfl (by first | exact Or.inl rfl | exact Or.inr rfl) (pe_c c_l_number hr (by decide) (by rfl) (pa_cons (pv 0) pa_nil)))
      (pss_one (ps_expr (pe_bm PySem.F.plainAttrs_list PySem.F.slot_list_append PySem.F.type_list_append mt_append (pv 1) (pa_cons (pe_tup (pa_cons (pe_callB (call_min2 rfl) (by rfl) T.min_ (by decide +kernel) (pa_cons (pv 4) (pa_cons (pv 6) pa_nil))) (pa_cons (pe_callB (call_max2 rfl) (by rfl) T.max_ (by decide +kernel) (pa_cons (pv 4) (pa_cons (pv 6) pa_nil))) pa_nil))) pa_nil))))) (pss_one (ps_if (pt_cmpR op_eq (pv 3) pe_int (nomark _)) (pss_one (ps_expr (pe_bm PySem.F.plainAttrs_list PySem.F.slot_list_append PySem.F.type_list_append mt_append (pv 1) (pa_cons (pe_tup (pa_cons (pv 4) (pa_cons pe_non pa_nil))) pa_nil)))) (pss_one (ps_if (pt_cmpR op_eq (pv 3) pe_int (nomark _)) (pss_one (ps_expr (pe_bm PySem.F.plainAttrs_list PySem.F.slot_list_append PySem.F.type_list_append mt_append (pv 1) (pa_cons (pe_tup (pa_cons pe_non (pa_cons (pv 4) pa_nil))) pa_nil)))) (pss_one (ps_if (pt_cmpR op_eq (pv 3) pe_int (nomark _)) (pss_one (ps_expr (pe_bm PySem.F.plainAttrs_list PySem.F.slot_list_append PySem.F.type_list_append mt_append (pv 1) (pa_cons (pe_tup (pa_cons (pe_op op_mul (pv 4) pe_int) (pa_cons (pe_op op_pow pe_int pe_int) pa_nil))) pa_nil)))) (pss_one (ps_expr (pe_bm PySem.F.plainAttrs_list PySem.F.slot_list_append PySem.F.type_list_append mt_append (pv 1) (pa_cons (pe_tup (pa_cons pe_non (pa_cons pe_non pa_nil))) pa_nil))))))))))))))))))))
      (pss_one (ps_ret (pv 1))))), ?_⟩
    refine q_asgL (el_lst ea_nil (Nat.zero_le _)) fun l H1 hl e1 hl1 => ?_
    have nlp : l ≠ p := pot_ne hp hl
    refine q_forRM (N := 12) (by decide) (hp.ex e1) (em_draw (M := 13) rfl (em_pick (is := [4, 4, 4, 7, 13]) (el_lst (ea_cons ev_c (ea_cons ev_c (ea_cons ev_c (ea_cons ev_c (ea_cons ev_c ea_nil))))) (by decide)) (em_drawC rfl (by decide)) (by decide)))
      (fun i σ' H' => ∃ o2 o3 o4 o5 o6 us ps, σ' = [some (.ref p), some (.ref l), o2, o3, o4, o5, o6] ∧ Mv p H H' ∧ H' l = some (.lst us) ∧ Svs H' us ps ∧ (∀ q ∈ ps, okB q) ∧ ps.length ≤ i)
      (fun H2 m2 => ⟨none, none, none, none, none, [], [], rfl, m2.pre e1, m2.2 _ _ (by rw [hide_ne nlp]; exact hl1), .nil, (fun _ h => nomatch h), Nat.le_refl _⟩) ?_ ?_
    · rintro i σ' H' hi ⟨o2, o3, o4, o5, o6, us, ps, rfl, m, hus, hS, hok, hlen⟩
      refine q_asgM m.1 (em_drawC rfl (by decide)) fun v H2 m2 ⟨kind, ek, hk⟩ => ?_
      subst ek
      refine q_asgM m2.1 (em_num rfl) fun v H3 m3 ⟨low, el, hlo⟩ => ?_
      subst el
      refine q_asgM m3.1 (em_draw (M := 1000) rfl (em_pick (is := [4, 4, 4, 10, 1000]) (el_lst (ea_cons ev_c (ea_cons ev_c (ea_cons ev_c (ea_cons ev_c (ea_cons ev_c ea_nil))))) (by decide)) (em_drawC rfl (by decide)) (by decide))) fun v H4 m4 ⟨far, ef, hfa⟩ => ?_
      subst ef
      have mm := (m2.trans m3).trans m4
      clear m2 m3 m4
      have lus : us.length < 100000 := by
        have : us.length = ps.length := plen hS
        omega
      -- a leaf
      have leaf : ∀ {H5 H6 : Hp} {us' : List V} {x y : Option Int}, Mv p H' H5 → okB (x, y) → Ex (hide l H5) H6 → H6 l = some (.lst us') → Svs H6 us' (ps ++ [(x, y)]) → ∀ {o2 o3 o4 o5 o6 : Option V},
          ∃ p2 p3 p4 p5 p6 us ps, [some (V.ref p), some (V.ref l), o2, o3, o4, o5, o6] = [some (V.ref p), some (V.ref l), p2, p3, p4, p5, p6] ∧ Mv p H H6 ∧ H6 l = some (.lst us) ∧ Svs H6 us ps ∧ (∀ q ∈ ps, okB q) ∧ ps.length ≤ i + 1 := by
        intro H5 H6 us' x y m5 ho e6 h6 s6 o2 o3 o4 o5 o6
        refine ⟨o2, o3, o4, o5, o6, us', _, rfl, ⟨?_, fun b o hb => ?_⟩, h6, s6, fun q hq => ?_, ?_⟩
        · obtain ⟨a, b, h1, h2⟩ := m5.1
          exact ⟨a, b, e6 _ _ (by rw [hide_ne nlp.symm]; exact h1), h2⟩
        · have n := hide_some hb
          exact e6 _ _ (by
            rw [hide_ne (ne_of_none n.2 hl)]
            exact (m.trans m5).2 _ _ hb)
        · rcases List.mem_append.mp hq with h | h
          · exact hok q h
          · rw [List.mem_singleton.mp h]
            exact ho
        · rw [List.length_append]
          show ps.length + 1 ≤ i + 1
          omega
      have at5 : ∀ {H5 : Hp}, Mv p H' H5 → H5 l = some (.lst us) ∧ Svs H5 us ps := fun m5 => ⟨m5.2 _ _ (by rw [hide_ne nlp]; exact hus), Svs.kt (Mv.kt m.1 m5) hS⟩
      refine s_if (b := decide (kind < 4)) (et_T (ev_I (ev_var rfl) ev_c)) (fun _ H5 e5 => ?_) (fun _ H5 e5 => ?_)
      · have m5 := mm.ex e5
        exact s_appS (x := some low) (y := some low) (at5 m5).1 (at5 m5).2 (ev_var rfl) (eu_tup (ea_cons (ev_var rfl) (ea_cons (ev_var rfl) ea_nil)) (Nat.le_of_ble_eq_true rfl)) lus fun H6 us' e6 h6 s6 => leaf m5 (okB_two (Int.le_refl _) (by omega) (by omega)) e6 h6 s6
      refine s_if (b := decide (kind < 10)) (et_T (ev_I (ev_var rfl) ev_c)) (fun _ H6 e6 => ?_) (fun _ H6 e6 => ?_)
      · have m5 := (mm.ex e5).ex e6
        exact s_appS (x := some low) (y := some (low + far)) (at5 m5).1 (at5 m5).2 (ev_var rfl) (eu_tup (ea_cons (ev_var rfl) (ea_cons (ev_I (ev_var rfl) (ev_var rfl)) ea_nil)) (Nat.le_of_ble_eq_true rfl)) lus fun H6 us' e6 h6 s6 => leaf m5 (okB_two (by omega) (by omega) (by omega)) e6 h6 s6
      refine s_if (b := decide (kind < 12)) (et_T (ev_I (ev_var rfl) ev_c)) (fun _ H7 e7 => ?_) (fun _ H7 e7 => ?_)
      · refine q_asgM (((mm.ex e5).ex e6).ex e7).1 (em_num rfl) fun v H8 m8 ⟨oth, eo, hot⟩ => ?_
        subst eo
        have m5 := (((mm.ex e5).ex e6).ex e7).trans m8
        exact s_appS (x := some _) (y := some _) (at5 m5).1 (at5 m5).2 (ev_var rfl) (eu_tup (ea_cons (ev_min2 (ev_var rfl) (ev_var rfl)) (ea_cons (ev_max2 (ev_var rfl) (ev_var rfl)) ea_nil)) (Nat.le_of_ble_eq_true rfl)) lus fun H6 us' e6 h6 s6 => leaf m5 (okB_two (by split <;> split <;> omega) (by split <;> omega) (by split <;> omega)) e6 h6 s6
      refine s_if (b := decide (V.int kind = V.int 12)) (et_T (ev_eq (ev_var rfl) ev_c rfl)) (fun _ H8 e8 => ?_) (fun _ H8 e8 => ?_)
      · have m5 := (((mm.ex e5).ex e6).ex e7).ex e8
        exact s_appS (x := some low) (y := none) (at5 m5).1 (at5 m5).2 (ev_var rfl) (eu_tup (ea_cons (ev_var rfl) (ea_cons ev_c ea_nil)) (Nat.le_of_ble_eq_true rfl)) lus fun H6 us' e6 h6 s6 => leaf m5 (okB_lo (by omega)) e6 h6 s6
      refine s_if (b := decide (V.int kind = V.int 13)) (et_T (ev_eq (ev_var rfl) ev_c rfl)) (fun _ H9 e9 => ?_) (fun _ H9 e9 => ?_)
      · have m5 := ((((mm.ex e5).ex e6).ex e7).ex e8).ex e9
        exact s_appS (x := none) (y := some low) (at5 m5).1 (at5 m5).2 (ev_var rfl) (eu_tup (ea_cons ev_c (ea_cons (ev_var rfl) ea_nil)) (Nat.le_of_ble_eq_true rfl)) lus fun H6 us' e6 h6 s6 => leaf m5 (okB_hi (by omega)) e6 h6 s6
      refine s_if (b := decide (V.int kind = V.int 14)) (et_T (ev_eq (ev_var rfl) ev_c rfl)) (fun _ H10 e10 => ?_) (fun _ H10 e10 => ?_)
      · have m5 := (((((mm.ex e5).ex e6).ex e7).ex e8).ex e9).ex e10
        have hc : CPow 10 12 := ⟨by decide, by decide, by decide⟩
        refine s_appS (x := some (low * 10)) (y := some _) (at5 m5).1 (at5 m5).2 (ev_var rfl) (eu_tup (ea_cons (ev_IC (ev_var rfl) ev_c (.inr ⟨by decide, by decide⟩)) (ea_cons (ev_IC ev_c ev_c hc) ea_nil)) (Nat.le_of_ble_eq_true rfl)) lus fun H6 us' e6 h6 s6 => leaf m5 ?_ e6 h6 s6
        have e : (10 : Int) ^ (12 : Int).toNat = 1000000000000 := by decide
        rw [e]
        exact okB_two (by omega) (by omega) (by omega)
      · have m5 := (((((mm.ex e5).ex e6).ex e7).ex e8).ex e9).ex e10
        exact s_appS (x := none) (y := none) (at5 m5).1 (at5 m5).2 (ev_var rfl) (eu_tup (ea_cons ev_c (ea_cons ev_c ea_nil)) (Nat.le_of_ble_eq_true rfl)) lus fun H6 us' e6 h6 s6 => leaf m5 okB_no e6 h6 s6
    · rintro n σ' H' hn ⟨o2, o3, o4, o5, o6, us, ps, rfl, m, hus, hS, hok, hlen⟩
      exact s_ret (ev_var rfl) fun H2 e2 => q l us ps H2 hl (m.ex e2) (e2 _ _ hus) (Svs.ex e2 hS) hok (by omega)
end
end K3

/-! K3M: the law's members, has, starts, is, is_list, colour. -/
namespace K3
open PySem PySem.Spec PyProof.Rows L2 Evl SlX
/-- a drawn span: a tuple of a list of stretches and a truth -/
def RwAt (H : Hp) (v : V) (ps : List Sx) (b : Bool) : Prop := ∃ s l us, v = .ref s ∧ H s = some (.tup [.ref l, .bl b]) ∧ H l = some (.lst us) ∧ Svs H us ps
theorem RwAt.ex {H H' : Hp} {v : V} {ps : List Sx} {b : Bool} (e : Ex H H') (h : RwAt H v ps b) : RwAt H' v ps b := by
  obtain ⟨s, l, us, h1, h2, h3, h4⟩ := h
  exact ⟨s, l, us, h1, e _ _ h2, e _ _ h3, h4.ex e⟩
abbrev Rws (H : Hp) : List V → List Rs → Prop := Paired fun v c => RwAt H v c.1 c.2
theorem Rws.ex {H H' : Hp} {vs : List V} {cs : List Rs} (e : Ex H H') (h : Rws H vs cs) : Rws H' vs cs := Paired.mapP h fun _ _ => RwAt.ex e
def sp_lmember : Sp := fun vs H Q _ => ∃ p sv ps b, vs = [.ref p, sv] ∧ PotAt H p ∧ RwAt (hide p H) sv ps b ∧ (∀ q ∈ ps, okB q) ∧ ps.length ≤ 12 ∧ (ps ≠ [] ∨ b = true) ∧ ∀ c H', inC ps b c = true → Mv p H H' → Q (oV c) H'
def sp_lhas : Sp := fun vs H Q _ => ∃ sv c ps b, vs = [sv, oV c] ∧ RwAt H sv ps b ∧ RetV (.bl (inC ps b c)) H Q
def sp_lis : Sp := fun vs H Q _ => ∃ c, vs = [oV c, oV c] ∧ RetV (.bl true) H Q
def sp_lislist : Sp := fun vs H Q _ => ∃ (a b : Addr) (cs : List (Option Int)), vs = [.ref a, .ref b] ∧ H a = some (.lst (cs.map oV)) ∧ H b = some (.lst (cs.map oV)) ∧ cs.length ≤ 100000 ∧ RetV (.bl true) H Q
def sp_lcolour : Sp := fun vs H Q _ => ∃ a us cs c, vs = [.ref a, oV c] ∧ H a = some (.lst us) ∧ Rws H us cs ∧ cs.length ≤ 40000 ∧ RetN (fun t H' => H' t = some (.lst ((colC cs c).map V.bl))) H Q
def sp_lstarts : Sp := fun vs H Q _ => ∃ l us cs, vs = [.ref l] ∧ H l = some (.lst us) ∧ Rws H us cs ∧ (allStarts cs).length < 63 ∧ RetN (fun p H' => ∃ S, IsStarts cs S ∧ S.length < 63 ∧ H' p = some (.lst (S.map V.int))) H Q
section
variable {σ : L2.St} {H : Hp} {ta tb te : TE} {x : Int} {o : Option Int}
theorem et_lo (ha : Ev ta σ H (oV o)) (hb : Ev tb σ H (.int x)) : EvT (tOr (tTest (tOp rIsNo ta (tC .non))) (tTest (tOp (rI0 fun i j => .bl (decide (i ≤ j))) ta tb))) σ H (geL o x) := by
  cases o with
  | none => exact et_or (a := true) (b := true) (et_T (ev_isN ha)) (fun z => nomatch z)
  | some l => exact et_or (a := false) (b := decide (l ≤ x)) (et_T (ev_isN ha)) (fun _ => et_T (ev_I ha hb))
theorem et_hi (ha : Ev ta σ H (oV o)) (hb : Ev tb σ H (.int x)) : EvT (tOr (tTest (tOp rIsNo ta (tC .non))) (tTest (tOp (rI0 fun i j => .bl (decide (i ≤ j))) tb ta))) σ H (leH o x) := by
  cases o with
  | none => exact et_or (a := true) (b := true) (et_T (ev_isN ha)) (fun z => nomatch z)
  | some l => exact et_or (a := false) (b := decide (x ≤ l)) (et_T (ev_isN ha)) (fun _ => et_T (ev_I hb ha))
end
section
variable {P : Program} {w : World} {K : PySem.W.Frag} {mg : Str → Option Value} {base : Heap} {CS CP : Addr}
theorem inL_mem {ps : List Sx} {p : Sx} {x : Int} (h : p ∈ ps) (hx : inS p x = true) : inL ps x = true := List.any_eq_true.mpr ⟨p, h, hx⟩
theorem ok_lmember (T : Txt K mg CS CP) : Cal P w K mg base 2 "_law_member" sp_lmember := by
  have c_l_draw : Cal P w K mg base 1 "_law_draw" sp_draw := ok_draw T
  refine T.d_member.cal sc_lmember (fun vs H Q E h => ?_) (fun cdv f A outer s H vs Q E hr h => ?_)
  · obtain ⟨p, sv, ps, b, rfl, _⟩ := h
    rfl
  · obtain ⟨p, sv, ps, b, rfl, hp, ⟨sa, l, us, rfl, hsa, hl, hS⟩, hok, hlen, hne, q⟩ := h
    refine ⟨_, (pss_cons (ps_asg (pv 1) (pg_tup rfl (pgs_cons (pg_name (i := 2) sc_lmember.nd rfl (by first | exact Or.inl rfl | exact Or.inr rfl)) (pgs_cons (pg_name (i := 3) sc_lmember.nd rfl (by first | exact Or.inl rfl | exact Or.inr rfl)) pgs_nil))))
      (pss_cons (ps_set (i := 4) sc_lmember.nd rfl (by first | exact Or.inl rfl | exact Or.inr rfl) (pe_c c_l_draw hr (by decide) (by rfl) (pa_cons (pv 0) (pa_cons (pe_op op_add (pe_callB call_len_seq (by rfl) T.len_ PySem.boot_len (pa_cons (pv 2) pa_nil)) (pe_callTy call_int1 (by rfl) T.int_ (by decide +kernel) (pa_cons (pv 3) pa_nil))) pa_nil))))
      (pss_cons (ps_if (pt_cmpR op_eq (pv 4) (pe_callB call_len_seq (by rfl) T.len_ PySem.boot_len (pa_cons (pv 2) pa_nil)) (nomark _)) (pss_one (ps_ret pe_non)) pss_nil)
      (pss_cons (ps_asg (pe_ix ix_list (pv 2) (pv 4) (fun _ _ => rfl)) (pg_tup rfl (pgs_cons (pg_name (i := 5) sc_lmember.nd rfl (by first | exact Or.inl rfl | exact Or.inr rfl)) (pgs_cons (pg_name (i := 6) sc_lmember.nd rfl (by first | exact Or.inl rfl | exact Or.inr rfl)) pgs_nil))))
      (pss_cons (ps_set (i := 7) sc_lmember.nd rfl (by first | exact Or.inl rfl | exact Or.inr rfl) (pe_c c_l_draw hr (by decide) (by rfl) (pa_cons (pv 0) (pa_cons pe_int pa_nil))))
      (pss_cons (ps_set (i := 8) sc_lmember.nd rfl (by first | exact Or.inl rfl | exact Or.inr rfl) (pe_c c_l_draw hr (by decide) (by rfl) (pa_cons (pv 0) (pa_cons (pe_ix ix_list (pe_lst (pa_cons pe_int (pa_cons pe_int (pa_cons pe_int (pa_cons pe_int (pa_cons pe_int (pa_cons pe_int (pa_cons pe_int (pa_cons pe_int pa_nil))))))))) (pv 7) (fun _ _ => rfl)) pa_nil))))
      (pss_cons (ps_if (pt_cmpR op_eq (pv 7) pe_int (nomark _)) (pss_one (ps_set (i := 8) sc_lmember.nd rfl (by first | exact Or.inl rfl | exact Or.inr rfl) (pe_op op_add (pe_op op_add (pe_op op_mul (pv 8) (pe_op op_pow pe_int pe_int)) (pe_op op_mul (pe_c c_l_draw hr (by decide) (by rfl) (pa_cons (pv 0) (pa_cons pe_int pa_nil))) pe_int)) (pe_c c_l_draw hr (by decide) (by rfl) (pa_cons (pv 0) (pa_cons pe_int pa_nil)))))) pss_nil)
      (pss_cons (ps_if (PW.pt (pw_and (pt_cmpR op_isN (pv 5) pe_non (nomark _)) (pw_and1 (pt_cmpR op_isN (pv 6) pe_non (nomark _))))) (pss_one (ps_ret (pe_ix ix_list (pe_lst (pa_cons (pv 8) (pa_cons (pe_un un_neg (pv 8)) pa_nil))) (pe_c c_l_draw hr (by decide) (by rfl) (pa_cons (pv 0) (pa_cons pe_int pa_nil))) (fun _ _ => rfl)))) pss_nil)
      (pss_cons (ps_if (pt_cmpR op_isN (pv 5) pe_non (nomark _)) (pss_one (ps_ret (pe_op op_sub (pv 6) (pv 8)))) pss_nil)
      (pss_cons (ps_if (pt_cmpR op_isN (pv 6) pe_non (nomark _)) (pss_one (ps_ret (pe_op op_add (pv 5) (pv 8)))) pss_nil)
      (pss_one (ps_ret (pe_op op_add (pv 5) (pe_op op_mod (pe_callTy call_int1 (by rfl) T.int_ (by decide +kernel) (pa_cons (pv 8) pa_nil)) (pe_op op_add (pe_op op_sub (pv 6) (pv 5)) pe_int))))))))))))))), ?_⟩
    have lus : us.length = ps.length := plen hS
    have hx := hide_ex p H
    refine q_unp2 (ev_var rfl) (hx _ _ hsa) fun H1 e1 => ?_
    have m1 : Mv p H H1 := Mv.of hp e1
    refine q_asgM m1.1 (em_draw (M := (us.length : Int) + (if b then 1 else 0)) rfl (em_int (i := (us.length : Int) + (if b then 1 else 0)) (ev_I (ev_lenL (ev_var rfl) (m1.hid _ _ hl)) (ev_intB (ev_var rfl))) ?_)) fun v H2 m2 ⟨at', ea, ha⟩ => ?_
    · rcases hne with h | h
      · have : 1 ≤ ps.length := by
          cases ps with
          | nil => exact absurd rfl h
          | cons _ _ => simp
        exact ⟨by split <;> omega, Int.le_refl _⟩
      · rw [h]
        exact ⟨by simp; omega, Int.le_refl _⟩
    subst ea
    obtain ⟨ha0, ha1⟩ := ha
    have m02 := m1.trans m2
    have hl2 : H2 l = some (.lst us) := m02.2 _ _ hl
    refine q_when (b := decide (V.int at' = V.int (us.length : Int))) (et_T (ev_eq (ev_var rfl) (ev_lenL (ev_var rfl) hl2) rfl)) (fun hb H3 e3 => ?_) (fun hb H3 e3 => ?_)
    · have ea : at' = (us.length : Int) := V.int.inj (of_decide_eq_true hb)
      refine s_ret (v := oV none) ev_c fun H4 e4 => q none H4 ?_ ((m02.ex e3).ex e4)
      show b = true
      cases b with
      | true => rfl
      | false =>
        simp at ha1
        omega
    have hlt : at' < (us.length : Int) := by
      have : at' ≠ (us.length : Int) := fun z => by
        rw [z, decide_eq_true rfl] at hb
        cases hb
      cases b with
      | true =>
        simp at ha1
        omega
      | false =>
        simp at ha1
        omega
    obtain ⟨k, rfl⟩ : ∃ k : Nat, at' = (k : Int) := ⟨at'.toNat, by omega⟩
    have hk : k < us.length := by omega
    obtain ⟨⟨lo, hi⟩, hpk, c, ec, hc⟩ := pget hS (List.getElem?_eq_getElem hk)
    have hmem : (lo, hi) ∈ ps := List.mem_iff_getElem?.mpr ⟨k, hpk⟩
    have hoq := (hok _ hmem).1
    have m3 := m02.ex e3
    refine q_unp2 (x := oV lo) (y := oV hi) (a := c) (ev_ixL (ev_var rfl) (ev_var rfl) (e3 _ _ hl2) (atI_nat (by rw [List.getElem?_eq_getElem hk, ec]))) (m3.2 _ _ hc) fun H4 e4 => ?_
    have m4 := m3.ex e4
    refine q_asgM m4.1 (em_drawC rfl (by decide)) fun v H5 m5 ⟨kind, ek, hkd⟩ => ?_
    subst ek
    refine q_asgM m5.1 (em_draw (M := 1000) rfl (em_pick (is := [4, 4, 4, 4, 4, 20, 1000, 1000]) (el_lst (ea_cons ev_c (ea_cons ev_c (ea_cons ev_c (ea_cons ev_c (ea_cons ev_c (ea_cons ev_c (ea_cons ev_c (ea_cons ev_c ea_nil)))))))) (by decide)) (em_int (ev_var rfl) hkd) (by decide))) fun v H6 m6 ⟨far, ef, hf⟩ => ?_
    subst ef
    have m06 := (m4.trans m5).trans m6
    have hc6 : CPow 10 6 := ⟨by decide, by decide, by decide⟩
    refine q_whenS (fun σ' H' => ∃ f', σ' = [some (.ref p), some (.ref sa), some (.ref l), some (.bl b), some (.int (k : Int)), some (oV lo), some (oV hi), some (.int kind), some (.int f')] ∧ 0 ≤ f' ∧ Mv p H H') (b := decide (V.int kind = V.int 7)) (et_T (ev_eq (ev_var rfl) ev_c rfl)) (fun hb H7 e7 D' kd => ?_) (fun hb H7 e7 => ⟨far, rfl, hf.1, m06.ex e7⟩) ?_
    · refine s_asgM (m06.ex e7).1 (em_I0 (R := fun i => 0 ≤ i) (em_I0 (R := fun i => 0 ≤ i) (em_I (R := fun i => 0 ≤ i) (em_int (ev_var rfl) hf) (em_int (R := fun i => i = 1000000) (ev_IC ev_c ev_c hc6) (by decide)) ?_) (em_I (R := fun i => 0 ≤ i) (em_drawC rfl (by decide)) (em_int (R := fun i => i = 1000) ev_c rfl) ?_) ?_) (em_drawC rfl (by decide)) ?_) fun v H8 m8 ⟨f', e, hf'⟩ => ?_
      · rintro i j ⟨h1, h2⟩ rfl
        exact ⟨.inr ⟨by decide, by decide⟩, by omega⟩
      · rintro i j ⟨h1, h2⟩ rfl
        exact ⟨.inr ⟨by decide, by decide⟩, by omega⟩
      · intro i j h1 h2
        exact Int.add_nonneg h1 h2
      · rintro i j h1 ⟨h3, h4⟩
        exact Int.add_nonneg h1 h3
      · subst e
        exact kd _ H8 ⟨f', rfl, hf', (m06.ex e7).trans m8⟩
    rintro σ' H7 ⟨f', rfl, hf', m7⟩
    have fin : ∀ x, inS (lo, hi) x = true → inC ps b (some x) = true := fun x hx => inL_mem hmem hx
    cases lo with
    | none => cases hi with
      | none =>
        refine q_when (b := decide (V.non = V.non) && decide (V.non = V.non)) (et_and (et_T (ev_isN (ev_var rfl))) (fun _ => et_T (ev_isN (ev_var rfl)))) (fun _ H8 e8 => ?_) (fun hb => nomatch hb)
        exact s_retM (m7.1.ex e8) (em_pick (is := [f', -f']) (R := fun _ => True) (el_lst (ea_cons (ev_var rfl) (ea_cons (ev_neg (ev_var rfl)) ea_nil)) (Nat.le_of_ble_eq_true rfl)) (em_drawC rfl (by decide)) (fun _ _ => trivial)) fun v H9 m9 ⟨x, ex, _⟩ => by
          subst ex
          exact q (some x) H9 (fin x rfl) ((m7.ex e8).trans m9)
      | some u =>
        refine q_when (b := decide (V.non = V.non) && decide (V.int u = V.non)) (et_and (et_T (ev_isN (ev_var rfl))) (fun _ => et_T (ev_isN (ev_var rfl)))) (fun hb => nomatch hb) (fun _ H8 e8 => ?_)
        refine q_when (b := decide (V.non = V.non)) (et_T (ev_isN (ev_var rfl))) (fun _ H9 e9 => ?_) (fun hb => nomatch hb)
        refine s_ret (v := .int (u - f')) (ev_I (i := u) (ev_var rfl) (ev_var rfl)) fun H10 e10 => q (some _) H10 (fin _ ((inS_iff _ _ _).mpr ⟨(fun a h => nomatch h), fun a h => by cases h; omega⟩)) (((m7.ex e8).ex e9).ex e10)
    | some l' =>
      refine q_when (b := decide (V.int l' = V.non) && decide (oV hi = V.non)) (et_and (et_T (ev_isN (ev_var rfl))) (fun _ => et_T (ev_isN (ev_var rfl)))) (fun hb => nomatch hb) (fun _ H8 e8 => ?_)
      refine q_when (b := decide (V.int l' = V.non)) (et_T (ev_isN (ev_var rfl))) (fun hb => nomatch hb) (fun _ H9 e9 => ?_)
      cases hi with
      | none =>
        refine q_when (b := decide (V.non = V.non)) (et_T (ev_isN (ev_var rfl))) (fun _ H10 e10 => ?_) (fun hb => nomatch hb)
        exact s_ret (v := .int (l' + f')) (ev_I (i := l') (ev_var rfl) (ev_var rfl)) fun H11 e11 => q (some _) H11 (fin _ ((inS_iff _ _ _).mpr ⟨fun a h => by cases h; omega, fun a h => nomatch h⟩)) ((((m7.ex e8).ex e9).ex e10).ex e11)
      | some u =>
        refine q_when (b := decide (V.int u = V.non)) (et_T (ev_isN (ev_var rfl))) (fun hb => nomatch hb) (fun _ H10 e10 => ?_)
        have hlu : l' ≤ u := hoq l' u rfl rfl
        have h0 : 0 ≤ f' % (u - l' + 1) := Int.emod_nonneg _ (by omega)
        have h1 : f' % (u - l' + 1) < u - l' + 1 := Int.emod_lt_of_pos _ (by omega)
        exact s_ret (v := .int (l' + f' % (u - l' + 1))) (ev_I (i := l') (ev_var rfl) (ev_IC (ev_int (ev_var rfl)) (ev_I (ev_I (i := u) (j := l') (ev_var rfl) (ev_var rfl)) ev_c) (by omega))) fun H11 e11 => q (some _) H11 (fin _ ((inS_iff _ _ _).mpr ⟨fun a h => by cases h; omega, fun a h => by cases h; omega⟩)) ((((m7.ex e8).ex e9).ex e10).ex e11)
theorem ok_lhas (T : Txt K mg CS CP) : Cal P w K mg base 1 "_law_has" sp_lhas := by
  refine T.d_has.cal sc_lhas (fun vs H Q E h => ?_) (fun cdv f A outer s H vs Q E hr h => ?_)
  · obtain ⟨sv, c, ps, b, rfl, _⟩ := h
    rfl
  · obtain ⟨sv, c, ps, b, rfl, ⟨sa, l, us, rfl, hsa, hl, hS⟩, q⟩ := h
    refine ⟨_, (pss_cons (ps_if (pt_cmpR op_isN (pv 1) pe_non (nomark _)) (pss_one (ps_ret (pe_ix ix_tup (pv 0) pe_int (fun _ _ => rfl)))) pss_nil)
      (pss_cons (ps_for PassesOwn.never rfl (pi_list (pe_ix ix_tup (pv 0) pe_int (fun _ _ => rfl))) (pg_tup rfl (pgs_cons (pg_name (i := 2) sc_lhas.nd rfl (by first | exact Or.inl rfl | exact Or.inr rfl)) (pgs_cons (pg_name (i := 3) sc_lhas.nd rfl (by first | exact Or.inl rfl | exact Or.inr rfl)) pgs_nil))) (pss_one (ps_if (PW.pt (pw_and (PW.pt (pw_or (pt_cmpR op_isN (pv 2) pe_non (nomark _)) (pw_or1 (pt_cmpR op_le (pv 2) (pv 1) (nomark _))))) (pw_and1 (PW.pt (pw_or (pt_cmpR op_isN (pv 3) pe_non (nomark _)) (pw_or1 (pt_cmpR op_le (pv 1) (pv 3) (nomark _)))))))) (pss_one (ps_ret pe_bl)) pss_nil)))
      (pss_one (ps_ret pe_bl)))), ?_⟩
    refine q_when (b := decide (oV c = V.non)) (et_T (ev_isN (ev_var rfl))) (fun hb H1 e1 => ?_) (fun hb H1 e1 => ?_)
    · cases c with
      | some x => cases hb
      | none => exact s_ret (ev_ixT (ev_var rfl) ev_c (e1 _ _ hsa) rfl) fun H2 e2 => q H2 (e1.trans e2)
    · cases c with
      | none => cases hb
      | some x =>
        refine q_forL (ev_ixT (v := .ref l) (ev_var rfl) ev_c (e1 _ _ hsa) rfl) (SqL.of (e1 _ _ hl)) (fun i σ' H' => ∃ o2 o3, σ' = [some (.ref sa), some (.int x), o2, o3] ∧ Ex H H' ∧ inL (ps.take i) x = false) (fun H2 e2 => ⟨none, none, rfl, e1.trans e2, rfl⟩) (fun i σ' H' _ ⟨_, _, _, e, _⟩ => SqL.of (e _ _ hl)) ?_ ?_
        · rintro i y σ' H' hi ⟨o2, o3, rfl, eH, hn⟩
          obtain ⟨⟨lo, hi'⟩, hp, c, rfl, hc⟩ := pget hS hi
          refine g_unp2 (eH _ _ hc) ?_
          have hstep : inL (ps.take (i + 1)) x = inS (lo, hi') x := by rw [inL_take hp, hn, Bool.false_or]
          refine s_when (b := inS (lo, hi') x) ?_ (fun hb H2 e2 => ?_) (fun hb H2 e2 => ⟨_, _, rfl, eH.trans e2, by rw [hstep]; exact hb⟩)
          · exact et_and (et_lo (ev_var rfl) (ev_var rfl)) (fun _ => et_hi (ev_var rfl) (ev_var rfl))
          · refine s_ret ev_c fun H3 e3 => ?_
            have : inC ps b (some x) = true := inL_mem (List.mem_iff_getElem?.mpr ⟨i, hp⟩) hb
            rw [this] at q
            exact q H3 ((eH.trans e2).trans e3)
        · rintro σ' H' ⟨o2, o3, rfl, eH, hn⟩
          rw [plen hS, List.take_length] at hn
          have : inC ps b (some x) = false := hn
          rw [this] at q
          exact s_ret ev_c fun H2 e2 => q H2 (eH.trans e2)
theorem ok_lis (T : Txt K mg CS CP) : Cal P w K mg base 1 "_law_is" sp_lis := by
  refine T.d_is.cal sc_lis (fun vs H Q E h => ?_) (fun cdv f A outer s H vs Q E hr h => ?_)
  · obtain ⟨c, rfl, _⟩ := h
    rfl
  · obtain ⟨c, rfl, q⟩ := h
    refine ⟨_, (pss_cons (ps_if (pt_cmpR op_isN (pv 1) pe_non (nomark _)) (pss_one (ps_ret (pe_cmpR op_isN (pv 0) pe_non (nomark _)))) pss_nil)
      (pss_one (ps_ret (pe_and (pe_callB call_isi (by rfl) T.isinstance_ (by decide +kernel) (pa_cons (pv 0) (pa_cons (pe_bltn (v := .ty "int") (by rfl) T.int_ (by decide +kernel) rfl) pa_nil))) (pe_and (pe_not (pe_callB call_isi (by rfl) T.isinstance_ (by decide +kernel) (pa_cons (pv 0) (pa_cons (pe_bltn (v := .ty "bool") (by rfl) T.bool_ (by decide +kernel) rfl) pa_nil)))) (pe_one (pe_cmpR op_eq (pv 0) (pv 1) (nomark _)))))))), ?_⟩
    refine q_when (b := decide (oV c = V.non)) (et_T (ev_isN (ev_var rfl))) (fun hb H1 e1 => ?_) (fun hb H1 e1 => ?_)
    · cases c with
      | some x => cases hb
      | none => exact s_ret (v := .bl (decide (V.non = V.non))) (ev_isN (ev_var rfl)) fun H2 e2 => q H2 (e1.trans e2)
    · cases c with
      | none => cases hb
      | some x =>
        refine s_ret (v := .bl (true && (!false && decide (V.int x = V.int x)))) (ev_andV (ev_isi (ev_var rfl) ev_c (.ty _) kitII fun _ _ => tyI) (fun _ => ev_andV (ev_notV (ev_isi (ev_var rfl) ev_c (.ty _) kitIB fun _ _ => tyI)) (fun _ => ev_eq (ev_var rfl) (ev_var rfl) rfl))) fun H2 e2 => ?_
        rw [decide_eq_true rfl]
        exact q H2 (e1.trans e2)
theorem ok_lislist (T : Txt K mg CS CP) : Cal P w K mg base 2 "_law_is_list" sp_lislist := by
  have c_l_is : Cal P w K mg base 1 "_law_is" sp_lis := ok_lis T
  refine T.d_is_list.cal sc_lislist (fun vs H Q E h => ?_) (fun cdv f A outer s H vs Q E hr h => ?_)
  · obtain ⟨a, b, cs, rfl, _⟩ := h
    rfl
  · obtain ⟨a, b, cs, rfl, ha, hb, hl, q⟩ := h
    refine ⟨_, (pss_cons (ps_if (PW.pt (pw_or (pt_not (pt_val (pe_callB call_isi (by rfl) T.isinstance_ (by decide +kernel) (pa_cons (pv 0) (pa_cons (pe_bltn (v := .ty "list") (by rfl) T.list_ (by decide +kernel) rfl) pa_nil))))) (pw_or1 (pt_cmpR op_ne (pe_callB call_len_seq (by rfl) T.len_ PySem.boot_len (pa_cons (pv 0) pa_nil)) (pe_callB call_len_seq (by rfl) T.len_ PySem.boot_len (pa_cons (pv 1) pa_nil)) (nomark _))))) (pss_one (ps_ret pe_bl)) pss_nil)
      (pss_cons (ps_for PassesOwn.never rfl (pi_range1 rfl T.range_ (pa_cons (pe_callB call_len_seq (by rfl) T.len_ PySem.boot_len (pa_cons (pv 1) pa_nil)) pa_nil)) (pg_name (i := 2) sc_lislist.nd rfl (by first | exact Or.inl rfl | exact Or.inr rfl)) (pss_one (ps_if (pt_not (pt_val (pe_c c_l_is hr (by decide) (by rfl) (pa_cons (pe_ix ix_list (pv 0) (pv 2) (fun _ _ => rfl)) (pa_cons (pe_ix ix_list (pv 1) (pv 2) (fun _ _ => rfl)) pa_nil))))) (pss_one (ps_ret pe_bl)) pss_nil)))
      (pss_one (ps_ret pe_bl)))), ?_⟩
    refine q_when (b := !true || !decide (V.int ((cs.map oV).length : Int) = V.int ((cs.map oV).length : Int))) (et_or (et_not (et_V (ev_isi (ev_var rfl) ev_c (.ty _) kitLL fun H1 e => .base (.lst (e _ _ ha))))) (fun _ => et_T (ev_ne (ev_lenL (ev_var rfl) ha) (ev_lenL (ev_var rfl) hb) rfl))) (fun hb => ?_) (fun _ H1 e1 => ?_)
    · rw [decide_eq_true rfl] at hb
      cases hb
    refine q_forR1 (ea_cons (ev_lenL (ev_var rfl) (e1 _ _ hb)) ea_nil) ⟨by omega, by rw [List.length_map]; omega⟩ (fun i σ' H' => ∃ o2, σ' = [some (.ref a), some (.ref b), o2] ∧ Ex H H') (fun H2 e2 => ⟨none, rfl, e1.trans e2⟩) ?_ ?_
    · rintro i σ' H' hi ⟨o2, rfl, eH⟩
      have hi' : i < cs.length := by rw [List.length_map] at hi; omega
      have hg : (cs.map oV)[i]? = some (oV cs[i]) := by rw [List.getElem?_map, List.getElem?_eq_getElem hi']; rfl
      refine s_when (b := !true) (et_not (et_V (ev_cl (ea_cons (ev_ixL (ev_var rfl) (ev_var rfl) (eH _ _ ha) (atI_nat hg)) (ea_cons (ev_ixL (ev_var rfl) (ev_var rfl) (eH _ _ hb) (atI_nat hg)) ea_nil)) fun H1 e Q q => ⟨cs[i], rfl, q⟩))) (fun z => nomatch z) (fun _ H2 e2 => ⟨_, rfl, eH.trans e2⟩)
    · rintro σ' H' ⟨o2, rfl, eH⟩
      exact s_ret ev_c fun H2 e2 => q H2 (eH.trans e2)
theorem ok_lcolour (T : Txt K mg CS CP) : Cal P w K mg base 2 "_law_colour" sp_lcolour := by
  have c_l_has : Cal P w K mg base 1 "_law_has" sp_lhas := ok_lhas T
  refine T.d_colour.cal sc_lcolour (fun vs H Q E h => ?_) (fun cdv f A outer s H vs Q E hr h => ?_)
  · obtain ⟨a, us, cs, c, rfl, _⟩ := h
    rfl
  · obtain ⟨a, us, cs, c, rfl, ha, hS, hl, q⟩ := h
    refine ⟨_, (pss_one (ps_ret (pe_lc (own := [("_law_cut", 2)]) (g := gName 2) rfl sc_lcolour.nd (pi_list (pv 0)) (blkOk_by (own := [("_law_cut", 2)]) (N := n_lcolour) (sc := defScope s_lcolour) (by decide +kernel)) (fun _ _ _ _ _ => pg_name (i := 2) sc_lcolour.nd rfl (by first | exact Or.inl rfl | exact Or.inr rfl)) (fun _ _ _ _ _ => pts_nil) (fun _ _ _ _ _ => (pe_c c_l_has hr (by decide) (by rfl) (pa_cons (pv 2) (pa_cons (pv 1) pa_nil))))))), ?_⟩
    have ls : us.length = cs.length := plen hS
    have ex : given us.length (fun _ => true) (fun i => V.bl (inC (cs.getD i ([], false)).1 (cs.getD i ([], false)).2 c)) = (colC cs c).map V.bl := by
      rw [given_all, ls, map_range_get (fun s : Rs => V.bl (inC s.1 s.2 c)) ([], false) cs]
      unfold colC
      rw [List.map_map]
      rfl
    refine s_retNR (en_l ?_) q
    rw [← ex]
    exact el_gL (K := K) (fun _ => true) _ (fun i => [some (.ref a), some (oV c), some (us.getD i .non)]) (ev_var rfl) ha (by omega) (fun _ => rfl) (fun i x H1 R e hi k => by
      have : us.getD i .non = x := by rw [List.getD_eq_getElem?_getD, hi]; rfl
      rw [this] at k
      exact k) (fun _ _ _ _ => et_yes) (fun i H1 e hi _ => ev_cl (ea_cons (ev_var rfl) (ea_cons (ev_var rfl) ea_nil)) fun H2 e2 Q2 k => by
        obtain ⟨d, hd, hR⟩ := pget hS (List.getElem?_eq_getElem hi)
        have e1 : us.getD i .non = us[i] := by rw [List.getD_eq_getElem?_getD, List.getElem?_eq_getElem hi]; rfl
        have e3 : cs.getD i ([], false) = d := by rw [List.getD_eq_getElem?_getD, hd]; rfl
        rw [e3] at k
        rw [e1]
        exact ⟨_, c, d.1, d.2, rfl, hR.ex (e.trans e2), k⟩)
theorem ok_lstarts (T : Txt K mg CS CP) : Cal P w K mg base 1 "_law_starts" sp_lstarts := by
  refine T.d_starts.cal sc_lstarts (fun vs H Q E h => ?_) (fun cdv f A outer s H vs Q E hr h => ?_)
  · obtain ⟨l, us, cs, rfl, _⟩ := h
    rfl
  · obtain ⟨l, us, cs, rfl, hl, hS, h63, q⟩ := h
    refine ⟨_, (pss_cons (ps_set (i := 1) sc_lstarts.nd rfl (by first | exact Or.inl rfl | exact Or.inr rfl) (pe_lst pa_nil))
      (pss_cons (ps_for PassesOwn.never rfl (pi_list (pv 0)) (pg_tup rfl (pgs_cons (pg_name (i := 2) sc_lstarts.nd rfl (by first | exact Or.inl rfl | exact Or.inr rfl)) (pgs_cons (pg_name (i := 3) sc_lstarts.nd rfl (by first | exact Or.inl rfl | exact Or.inr rfl)) pgs_nil))) (pss_one (ps_for PassesOwn.never rfl (pi_list (pv 2)) (pg_tup rfl (pgs_cons (pg_name (i := 4) sc_lstarts.nd rfl (by first | exact Or.inl rfl | exact Or.inr rfl)) (pgs_cons (pg_name (i := 5) sc_lstarts.nd rfl (by first | exact Or.inl rfl | exact Or.inr rfl)) pgs_nil))) (pss_cons (ps_if (pt_cmpR op_notN (pv 4) pe_non (nomark _)) (pss_one (ps_expr (pe_bm PySem.F.plainAttrs_list PySem.F.slot_list_append PySem.F.type_list_append mt_append (pv 1) (pa_cons (pv 4) pa_nil)))) pss_nil)
      (pss_one (ps_if (pt_cmpR op_notN (pv 5) pe_non (nomark _)) (pss_one (ps_expr (pe_bm PySem.F.plainAttrs_list PySem.F.slot_list_append PySem.F.type_list_append mt_append (pv 1) (pa_cons (pe_op op_add (pv 5) pe_int) pa_nil)))) pss_nil))))))
      (pss_one (ps_ret (pe_callB (cr_sortedSet rfl) (by rfl) T.sorted_ (by decide +kernel) (pa_cons (pe_callTy (K3S.cr_setI rfl) (by rfl) T.set_ (by decide +kernel) (pa_cons (pv 1) pa_nil)) pa_nil)))))), ?_⟩
    refine q_asgN (en_l (el_lst ea_nil (Nat.zero_le _))) fun res H1 hres e1 hr1 => ?_
    refine q_forL (ev_var (i := 0) rfl) (SqL.of (e1 _ _ hl)) (fun i σ' H' => ∃ o2 o3 o4 o5, σ' = [some (.ref l), some (.ref res), o2, o3, o4, o5] ∧ Ex H H' ∧ H' res = some (.lst ((allStarts (cs.take i)).map V.int)))
      (fun H2 e2 => ⟨none, none, none, none, rfl, e1.trans e2, e2 _ _ hr1⟩) (fun i σ' H' _ ⟨_, _, _, _, _, e, _⟩ => SqL.of (e _ _ hl)) ?_ ?_
    · rintro i y σ' H' hi ⟨o2, o3, o4, o5, rfl, eH, hac⟩
      obtain ⟨⟨ns, b⟩, hs, hy⟩ := pget hS hi
      obtain ⟨sa, t, ts, rfl, hA, ht, hts⟩ := id hy
      have hpl := pre_len (cs := cs) (i + 1)
      rw [all_take hs, List.length_append] at hpl
      dsimp only at hpl
      refine g_unp2 (eH _ _ hA) ?_
      refine s_forL (ev_var (i := 2) rfl) (SqL.of (eH _ _ ht)) (fun j σ' H' => ∃ o4 o5, σ' = [some (.ref l), some (.ref res), some (.ref t), some (.bl b), o4, o5] ∧ Ex H H' ∧ H' res = some (.lst ((allStarts (cs.take i) ++ startsOf (ns.take j)).map V.int)))
        (fun H2 e2 => ⟨o4, o5, rfl, eH.trans e2, by rw [show startsOf (ns.take 0) = [] from rfl, List.append_nil]; exact e2 _ _ hac⟩) (fun i σ' H' _ ⟨_, _, _, e, _⟩ => SqL.of (e _ _ ht)) ?_ ?_
      · rintro j z σ' H2 hj ⟨o4, o5, rfl, eH2, hac2⟩
        obtain ⟨⟨lo, hi'⟩, hp, c, rfl, hc⟩ := pget hts hj
        have hp2 := pre_len2 (ns := ns) (j + 1)
        rw [starts_take hp, List.length_append] at hp2
        dsimp only at hp2
        refine g_unp2 (eH2 _ _ hc) ?_
        have l1 : lo.toList.length ≤ 1 := by cases lo <;> simp
        refine q_appO (o := lo) (fun i => i) (ev_var rfl) (ev_var rfl) (fun i e => by subst e; exact ev_var rfl) hac2 (by rw [List.length_append]; omega) fun H3 e3 h3 => ?_
        have eH3 : Ex H H3 := ex_via hres eH2 e3
        refine s_appO (o := hi') (fun i => i + 1) (ev_var rfl) (ev_var rfl) (fun i e => by subst e; exact ev_I (i := i) (j := 1) (ev_var rfl) ev_c) h3 (by rw [List.length_append, List.length_append]; have : (lo.map fun i => i).toList.length ≤ 1 := by { cases lo <;> simp }; omega) fun H4 e4 h4 => ?_
        refine ⟨_, _, rfl, ex_via hres eH3 e4, ?_⟩
        rw [h4, starts_take hp]
        simp
      · rintro σ' H2 ⟨o4, o5, rfl, eH2, hac2⟩
        refine ⟨_, _, _, _, rfl, eH2, ?_⟩
        rw [hac2, plen hts, List.take_length, all_take hs]
    · rintro σ' H' ⟨o2, o3, o4, o5, rfl, eH, hac⟩
      rw [plen hS, List.take_length] at hac
      refine ⟨_, rfl, res, allStarts cs, rfl, SqL.of hac, Nat.lt_of_le_of_lt (Nat.succ_le_succ (Nat.le_of_lt h63)) (by decide), fun p n hn hp => ?_⟩
      refine ⟨p, _, n, rfl, upd_same, by omega, fun S p2 a1 a2 a3 hp2 => ?_⟩
      have e2 : Ex H' (upd H' p (SetO w p (fun j => decide (j ∈ allStarts cs)) n)) := Ex.new hp
      exact q p2 _ (fresh_back (eH.trans e2) hp2) ((eH.trans e2).trans (Ex.new hp2)) ⟨S, ⟨a1, fun x => by rw [a2 x, decide_eq_true_eq]⟩, by omega, upd_same⟩
end
end K3

/-! K3N: the pieces that are due. -/
namespace K3
open PySem PySem.Spec PyProof.Rows L2 Evl SlX
/-! ### equality of lists of plain values -/
section
variable {α : Type} [DecidableEq α]
theorem eqv_all (f : α → PyData) (hf : ∀ a b, PyData.eqv (f a) (f b) = decide (a = b)) : ∀ as bs : List α, PyData.eqvAll (as.map f) (bs.map f) = decide (as = bs)
  | [], [] => by simp [PyData.eqvAll]
  | [], b :: bs => by simp [PyData.eqvAll]
  | a :: as, [] => by simp [PyData.eqvAll]
  | a :: as, b :: bs => by
    simp only [List.map_cons, PyData.eqvAll]
    rw [hf, eqv_all f hf as bs]
    simp [List.cons.injEq, Bool.decide_and]
theorem flat_lay (f : α → PyData) (hf : ∀ a, (f a).canLay0 = true ∧ (f a).depth = 0) : ∀ as : List α, PyData.canLayAll0 (as.map f) = true ∧ PyData.depthAll (as.map f) = 0
  | [] => by simp [PyData.canLayAll0, PyData.depthAll]
  | a :: as => by
    obtain ⟨h1, h2⟩ := flat_lay f hf as
    obtain ⟨h3, h4⟩ := hf a
    simp only [List.map_cons, PyData.canLayAll0, PyData.depthAll]
    rw [h1, h2, h3, h4]
    exact ⟨rfl, rfl⟩
theorem shaped_l (f : α → PyData) (hf : ∀ a, (f a).canLay0 = true ∧ (f a).depth = 0) (as : List α) : SeqAt.shaped (.list (as.map f)) = true := by
  obtain ⟨h1, h2⟩ := flat_lay f hf as
  have h3 : (PyData.list (as.map f)).canLay0 = true := by
    simp only [PyData.canLay0]
    exact h1
  have h4 : (PyData.list (as.map f)).depth ≤ 64 := by
    simp only [PyData.depth]
    omega
  unfold SeqAt.shaped
  rw [h3, decide_eq_true h4]
  rfl
theorem shaped_t (f : α → PyData) (hf : ∀ a, (f a).canLay0 = true ∧ (f a).depth = 0) (as : List α) : SeqAt.shaped (.tuple (as.map f)) = true := by
  obtain ⟨h1, h2⟩ := flat_lay f hf as
  have h3 : (PyData.tuple (as.map f)).canLay0 = true := by
    simp only [PyData.canLay0]
    exact h1
  have h4 : (PyData.tuple (as.map f)).depth ≤ 64 := by
    simp only [PyData.depth]
    omega
  unfold SeqAt.shaped
  rw [h3, decide_eq_true h4]
  rfl
end
theorem eqv_b (a b : Bool) : PyData.eqv (.bool a) (.bool b) = decide (a = b) := by
  simp only [PyData.eqv]
  cases a <;> cases b <;> rfl
theorem eqv_o (a b : Option Int) : PyData.eqv (dO a) (dO b) = decide (a = b) := by
  cases a <;> cases b <;> simp only [dO, PyData.eqv]
  · rfl
  · rfl
  · rfl
  · rename_i x y
    by_cases h : x = y
    · rw [h]; simp
    · simp [h]
theorem lay_b (a : Bool) : (PyData.bool a).canLay0 = true ∧ (PyData.bool a).depth = 0 := by simp [PyData.canLay0, PyData.depth]
theorem lay_o (a : Option Int) : (dO a).canLay0 = true ∧ (dO a).depth = 0 := by cases a <;> simp [dO, PyData.canLay0, PyData.depth]
theorem dp_bs {K : PySem.W.Frag} {H : Hp} : ∀ bs : List Bool, DpAll K H (bs.map V.bl) (bs.map PyData.bool)
  | [] => .nil
  | b :: bs => .cons (.bl b) (dp_bs bs)
theorem dp_os {K : PySem.W.Frag} {H : Hp} : ∀ os : List (Option Int), DpAll K H (os.map oV) (os.map dO)
  | [] => .nil
  | o :: os => .cons (dp_o o) (dp_os os)
section
variable {K : PySem.W.Frag} {σ : L2.St} {H : Hp} {ta tb te : TE} {a b l : Addr} {D : Ends} {xs zs : List V}
theorem ev_eqLB {as bs : List Bool} (ha : Ev ta σ H (.ref a)) (hb : Ev tb σ H (.ref b)) (h1 : H a = some (.lst (as.map V.bl))) (h2 : H b = some (.lst (bs.map V.bl))) : Ev (tOp (rEqD K) ta tb) σ H (.bl (decide (as = bs))) := by
  have e : PyData.eqv (.list (as.map PyData.bool)) (.list (bs.map PyData.bool)) = decide (as = bs) := by
    simp only [PyData.eqv]
    exact eqv_all _ eqv_b as bs
  rw [← e]
  exact ev_eqD ha hb (fun H1 e => .lst (SqL.of (e _ _ h1)) (dp_bs as)) (fun H1 e => .lst (SqL.of (e _ _ h2)) (dp_bs bs)) (shaped_l _ lay_b _) (shaped_l _ lay_b _)
theorem el_cat (ha : EvL ta σ H xs) (hb : Ev tb σ H (.ref b)) (h : H b = some (.lst zs)) (hz : xs.length + zs.length ≤ 100000) : EvL (tOp rCat ta tb) σ H (xs ++ zs) := fun H1 e Q q =>
  ha H1 e _ fun l H2 hl e2 h2 => hb H2 (e.trans e2) _ fun H3 e3 => ⟨l, b, xs, zs, rfl, rfl, e3 _ _ h2, ((e.trans e2).trans e3) _ _ h, by rw [sizeLine_eq]; omega, fun p hp => q p _ (fresh_back (e2.trans e3) hp) ((e2.trans e3).trans (Ex.new hp)) upd_same⟩
theorem s_setLU {ys : List V} {j : Nat} (hl : H l = some (.lst xs)) (h : EvU te σ H ys) (ho : Ev ta σ H (.ref l)) (hi : Ev tb σ H (.int (j : Int))) (hj : j < xs.length) (k : ∀ p H1, H p = none → Ex H H1 → H1 p = some (.tup ys) → D.nx σ (upd H1 l (.lst (xs.set j (.ref p))))) :
    tAsg te (gSub ta tb rSetL) D σ H := h H (Ex.refl H) _ fun p H1 hp e1 h1 => ho H1 e1 _ fun H2 e2 => hi H2 (e1.trans e2) _ fun H3 e3 =>
  ⟨l, xs, (j : Int), j, rfl, rfl, ((e1.trans e2).trans e3) l _ hl, ixN_nat hj, k p H3 hp ((e1.trans e2).trans e3) ((e2.trans e3) _ _ h1)⟩
end
/-- a due piece: a tuple of its ends and its colour, a list -/
def DueAt (H : Hp) (v : V) (q : It (List Bool)) : Prop := ∃ a c, v = .ref a ∧ H a = some (.tup [oV q.1, oV q.2.1, .ref c]) ∧ H c = some (.lst (q.2.2.map V.bl))
theorem DueAt.ex {H H' : Hp} {v : V} {q : It (List Bool)} (e : Ex H H') (h : DueAt H v q) : DueAt H' v q := by
  obtain ⟨a, c, h1, h2, h3⟩ := h
  exact ⟨a, c, h1, e _ _ h2, e _ _ h3⟩
abbrev Dues (H : Hp) : List V → List (It (List Bool)) → Prop := Paired (DueAt H)
theorem Dues.ex {H H' : Hp} {vs : List V} {qs : List (It (List Bool))} (e : Ex H H') (h : Dues H vs qs) : Dues H' vs qs := Paired.mapP h fun _ _ => DueAt.ex e
def IsDue (dn : List Sx) (db : Bool) (cs : List Rs) (its : List (It (List Bool))) : Prop := ∃ S, IsStarts ((dn, db) :: cs) S ∧ S.length < 63 ∧ its = (segsFrom none S).foldl (lawStep (fD dn cs) repL) []
def sp_due : Sp := fun vs H Q _ => ∃ dv ca us dn db cs, vs = [dv, .ref ca] ∧ RwAt H dv dn db ∧ H ca = some (.lst us) ∧ Rws H us cs ∧ cs.length ≤ 1000 ∧ (allStarts ((dn, db) :: cs)).length < 63 ∧
  RetN (fun p H' => ∃ its us', IsDue dn db cs its ∧ H' p = some (.lst us') ∧ Dues H' us' its ∧ us'.length ≤ 64) H Q
section
variable {P : Program} {w : World} {K : PySem.W.Frag} {mg : Str → Option Value} {base : Heap} {CS CP : Addr}
theorem ok_due (T : Txt K mg CS CP) : Cal P w K mg base 3 "_law_due_pieces" sp_due := by
  have c_l_has : Cal P w K mg base 1 "_law_has" sp_lhas := ok_lhas T
  have c_l_colour : Cal P w K mg base 2 "_law_colour" sp_lcolour := ok_lcolour T
  have c_l_starts : Cal P w K mg base 1 "_law_starts" sp_lstarts := ok_lstarts T
  refine T.d_due_pieces.cal sc_lduepieces (fun vs H Q E h => ?_) (fun cdv f A outer s H vs Q E hr h => ?_)
  · obtain ⟨dv, ca, us, dn, db, cs, rfl, _⟩ := h
    rfl
  · obtain ⟨dv, ca, us, dn, db, cs, rfl, hD, hca, hR, hlc, h63, q⟩ := h
    have lus : us.length = cs.length := plen hR
    refine ⟨_, (pss_cons (ps_set (i := 2) sc_lduepieces.nd rfl (by first | exact Or.inl rfl | exact Or.inr rfl) (pe_lst pa_nil))
      (pss_cons (ps_set (i := 3) sc_lduepieces.nd rfl (by first | exact Or.inl rfl | exact Or.inr rfl) (pe_c c_l_starts hr (by decide) (by rfl) (pa_cons (pe_op op_cat (pe_lst (pa_cons (pv 0) pa_nil)) (pv 1)) pa_nil)))
      (pss_cons (ps_for PassesOwn.never rfl (pi_range1 rfl T.range_ (pa_cons (pe_op op_add (pe_callB call_len_seq (by rfl) T.len_ PySem.boot_len (pa_cons (pv 3) pa_nil)) pe_int) pa_nil)) (pg_name (i := 4) sc_lduepieces.nd rfl (by first | exact Or.inl rfl | exact Or.inr rfl)) (pss_cons (ps_set (i := 5) sc_lduepieces.nd rfl (by first | exact Or.inl rfl | exact Or.inr rfl) pe_non)
      (pss_cons (ps_set (i := 6) sc_lduepieces.nd rfl (by first | exact Or.inl rfl | exact Or.inr rfl) pe_non)
      (pss_cons (ps_set (i := 7) sc_lduepieces.nd rfl (by first | exact Or.inl rfl | exact Or.inr rfl) pe_int)
      (pss_cons (ps_if (pt_cmpR op_gt (pv 4) pe_int (nomark _)) (pss_cons (ps_set (i := 5) sc_lduepieces.nd rfl (by first | exact Or.inl rfl | exact Or.inr rfl) (pe_ix ix_list (pv 3) (pe_op op_sub (pv 4) pe_int) (fun _ _ => rfl)))
      (pss_one (ps_set (i := 7) sc_lduepieces.nd rfl (by first | exact Or.inl rfl | exact Or.inr rfl) (pv 5)))) pss_nil)
      (pss_cons (ps_if (pt_cmpR op_lt (pv 4) (pe_callB call_len_seq (by rfl) T.len_ PySem.boot_len (pa_cons (pv 3) pa_nil)) (nomark _)) (pss_cons (ps_set (i := 6) sc_lduepieces.nd rfl (by first | exact Or.inl rfl | exact Or.inr rfl) (pe_op op_sub (pe_ix ix_list (pv 3) (pv 4) (fun _ _ => rfl)) pe_int))
      (pss_one (ps_set (i := 7) sc_lduepieces.nd rfl (by first | exact Or.inl rfl | exact Or.inr rfl) (pv 6)))) pss_nil)
      (pss_one (ps_if (pt_val (pe_c c_l_has hr (by decide) (by rfl) (pa_cons (pv 0) (pa_cons (pv 7) pa_nil)))) (pss_cons (ps_set (i := 8) sc_lduepieces.nd rfl (by first | exact Or.inl rfl | exact Or.inr rfl) (pe_c c_l_colour hr (by decide) (by rfl) (pa_cons (pv 1) (pa_cons (pv 7) pa_nil))))
      (pss_one (ps_if (PW.pt (pw_and (pt_truth (pv 2) (by intro _; rfl)) (pw_and (pt_cmpR op_notN (pv 5) pe_non (nomark _)) (pw_and (pt_cmpR op_eq (pe_ix ix_tup (pe_ix ix_list (pv 2) (pe_op op_sub (pe_callB call_len_seq (by rfl) T.len_ PySem.boot_len (pa_cons (pv 2) pa_nil)) pe_int) (fun _ _ => rfl)) pe_int (fun _ _ => rfl)) (pe_op op_sub (pv 5) pe_int) (nomark _)) (pw_and1 (pt_cmpR (op_eqD hr.units) (pe_ix ix_tup (pe_ix ix_list (pv 2) (pe_op op_sub (pe_callB call_len_seq (by rfl) T.len_ PySem.boot_len (pa_cons (pv 2) pa_nil)) pe_int) (fun _ _ => rfl)) pe_int (fun _ _ => rfl)) (pv 8) (nomark _))))))) (pss_one (ps_asg (pe_tup (pa_cons (pe_ix ix_tup (pe_ix ix_list (pv 2) (pe_op op_sub (pe_callB call_len_seq (by rfl) T.len_ PySem.boot_len (pa_cons (pv 2) pa_nil)) pe_int) (fun _ _ => rfl)) pe_int (fun _ _ => rfl)) (pa_cons (pv 6) (pa_cons (pv 8) pa_nil)))) (pg_sub (pv 2) (pe_op op_sub (pe_callB call_len_seq (by rfl) T.len_ PySem.boot_len (pa_cons (pv 2) pa_nil)) pe_int) set_list))) (pss_one (ps_expr (pe_bm PySem.F.plainAttrs_list PySem.F.slot_list_append PySem.F.type_list_append mt_append (pv 2) (pa_cons (pe_tup (pa_cons (pv 5) (pa_cons (pv 6) (pa_cons (pv 8) pa_nil)))) pa_nil))))))) pss_nil))))))))
      (pss_one (ps_ret (pv 2)))))), ?_⟩
    refine q_asgN (en_l (el_lst ea_nil (Nat.zero_le _))) fun res H1 hres e1 hr1 => ?_
    refine q_asgN (en_clN1 (P := fun p H' => ∃ S, IsStarts ((dn, db) :: cs) S ∧ S.length < 63 ∧ H' p = some (.lst (S.map V.int))) (P' := fun l H' => H' l = some (.lst ([dv] ++ us))) (en_l (el_cat (el_lst (ea_cons (ev_var rfl) ea_nil) (Nat.le_of_ble_eq_true rfl)) (ev_var (i := 1) rfl) (e1 _ _ hca) (by simp; omega))) ?_) fun st H2 hst e2 ⟨S, hS, hS63, hst2⟩ => ?_
    · intro l H2 e2 hl2 Q2 k
      exact ⟨l, _, (dn, db) :: cs, rfl, hl2, .cons (hD.ex (e1.trans e2)) (Rws.ex (e1.trans e2) hR), h63, k⟩
    -- what stays, but for the list
    have nsr : st ≠ res := fun z => by
      rw [z, hr1] at hst
      cases hst
    have eB : Ex H (hide res H2) := ex_hide hres (e1.trans e2)
    generalize hB : hide res H2 = B at eB
    have hstB : B st = some (.lst (S.map V.int)) := by
      rw [← hB, hide_ne nsr]
      exact hst2
    have hBr : B res = none := by rw [← hB, hide_self]
    have eB2 : Ex B H2 := by
      rw [← hB]
      exact hide_ex _ _
    refine q_forR1 (n := (S.length : Int) + 1) (ea_cons (ev_I (by rw [← List.length_map (f := V.int) (as := S)]; exact ev_lenL (ev_var rfl) hst2) ev_c) ea_nil) ⟨by omega, by omega⟩
      (fun k σ' H' => ∃ o4 o5 o6 o7 o8 acc, σ' = [some dv, some (.ref ca), some (.ref res), some (.ref st), o4, o5, o6, o7, o8] ∧ Ex B H' ∧ H' res = some (.lst acc) ∧ Dues (hide res H') acc (((segsFrom none S).take k).foldl (lawStep (fD dn cs) repL) []) ∧ acc.length ≤ k)
      (fun H3 e3 => ⟨none, none, none, none, none, [], rfl, eB2.trans e3, (e2.trans e3) _ _ hr1, .nil, Nat.le_refl _⟩) ?_ ?_
    · rintro k σ' H' hi ⟨o4, o5, o6, o7, o8, acc, rfl, eH, hac, hA, hla⟩
      have hk : k ≤ S.length := by omega
      have hseg := segs_at S k hk
      have hok := seg_ok hS.1 k
      rw [take_get hseg, List.foldl_append]
      show tSeq _ _ _ _ _
      have hst' := eH _ _ hstB
      refine q_asg ev_c fun H3 e3 => ?_
      refine q_asg ev_c fun H4 e4 => ?_
      refine q_asg ev_c fun H5 e5 => ?_
      refine q_whenS (fun σ6 H6 => Ex H' H6 ∧ σ6 = [some dv, some (.ref ca), some (.ref res), some (.ref st), some (.int (k : Int)), some (oV (segAt S k).1), some .non, some (.int ((segAt S k).1.getD 0)), o8]) (b := decide ((0 : Int) < (k : Int))) (et_T (ev_I (ev_var rfl) ev_c)) (fun hb H6 e6 D' kd => ?_) (fun hb H6 e6 => ?_) ?_
      · have h0 : 0 < k := by
          have := of_decide_eq_true hb
          omega
        have hk1 : k - 1 < S.length := by omega
        have e0 : (segAt S k).1 = some S[k - 1] := by
          unfold segAt
          show (if k = 0 then none else S[k - 1]?) = _
          rw [if_neg (by omega), List.getElem?_eq_getElem hk1]
        have ei : (k : Int) - 1 = ((k - 1 : Nat) : Int) := by omega
        refine q_asg (v := .int S[k - 1]) (ev_ixL (i := (k : Int) - 1) (ev_var rfl) (ev_I (i := (k : Int)) (j := 1) (ev_var rfl) ev_c) ((((e3.trans e4).trans e5).trans e6) _ _ hst') (by
          rw [ei]
          exact atI_nat (by rw [List.getElem?_map, List.getElem?_eq_getElem hk1]; rfl))) fun H7 e7 => ?_
        refine s_asg (ev_var rfl) fun H8 e8 => kd _ H8 ⟨((((e3.trans e4).trans e5).trans e6).trans e7).trans e8, ?_⟩
        rw [e0]
        rfl
      · have h0 : k = 0 := by
          have := of_decide_eq_false hb
          omega
        refine ⟨((e3.trans e4).trans e5).trans e6, ?_⟩
        subst h0
        rfl
      clear e3 e4 e5 H3 H4 H5
      rintro σ6 H6 ⟨e6, rfl⟩
      refine q_whenS (fun σ7 H7 => Ex H' H7 ∧ σ7 = [some dv, some (.ref ca), some (.ref res), some (.ref st), some (.int (k : Int)), some (oV (segAt S k).1), some (oV (segAt S k).2), some (.int (repL (segAt S k))), o8]) (b := decide ((k : Int) < ((S.map V.int).length : Int))) (et_T (ev_I (ev_var rfl) (ev_lenL (ev_var rfl) (e6 _ _ hst')))) (fun hb H7 e7 D' kd => ?_) (fun hb H7 e7 => ?_) ?_
      · have h0 : k < S.length := by
          have := of_decide_eq_true hb
          rw [List.length_map] at this
          omega
        have e0 : (segAt S k).2 = some (S[k] - 1) := by
          unfold segAt
          show S[k]?.map (· - 1) = _
          rw [List.getElem?_eq_getElem h0]
          rfl
        refine q_asg (v := .int (S[k] - 1)) (ev_I (i := S[k]) (j := 1) (ev_ixL (ev_var rfl) (ev_var rfl) ((e6.trans e7) _ _ hst') (atI_nat (by rw [List.getElem?_map, List.getElem?_eq_getElem h0]; rfl))) ev_c) fun H8 e8 => ?_
        refine s_asg (ev_var rfl) fun H9 e9 => kd _ H9 ⟨((e6.trans e7).trans e8).trans e9, ?_⟩
        have er : repL (segAt S k) = S[k] - 1 := by
          unfold repL
          rw [e0]
        rw [er, e0]
        rfl
      · have h0 : k = S.length := by
          have := of_decide_eq_false hb
          rw [List.length_map] at this
          omega
        have e0 : (segAt S k).2 = none := by
          unfold segAt
          show S[k]?.map (· - 1) = _
          rw [List.getElem?_eq_none (by omega)]
          rfl
        refine ⟨e6.trans e7, ?_⟩
        have er : repL (segAt S k) = (segAt S k).1.getD 0 := by
          unfold repL
          rw [e0]
          cases (segAt S k).1 <;> rfl
        rw [er, e0]
        rfl
      clear e6 H6
      rintro σ7 H7 ⟨e7, rfl⟩
      generalize segAt S k = p at *
      obtain ⟨lo, hi⟩ := p
      have eH7 : Ex B H7 := eH.trans e7
      have eHH : Ex H H7 := eB.trans eH7
      refine s_when (b := inL dn (repL (lo, hi))) (et_V (ev_cl (ea_cons (ev_var rfl) (ea_cons (ev_var rfl) ea_nil)) fun H1 e Q q => ⟨dv, some (repL (lo, hi)), dn, db, rfl, hD.ex (eHH.trans e), q⟩)) (fun hb H8 e8 => ?_) (fun hb H8 e8 => ?_)
      · refine q_asgN (en_cl (P := fun t H' => H' t = some (.lst ((colC cs (some (repL (lo, hi)))).map V.bl))) (ea_cons (ev_var rfl) (ea_cons (ev_var rfl) ea_nil)) fun H1 e Q q => ⟨ca, us, cs, some (repL (lo, hi)), rfl, ((eHH.trans e8).trans e) _ _ hca, Rws.ex ((eHH.trans e8).trans e) hR, by omega, q⟩) fun col H9 hcol e9 hc9 => ?_
        have e79 : Ex H' H9 := (e7.trans e8).trans e9
        have hac9 : H9 res = some (.lst acc) := e79 _ _ hac
        have hA9 := Dues.ex (hide_mono (p := res) e79) hA
        have ncr : col ≠ res := fun z => by
          rw [z, (e7.trans e8) _ _ hac] at hcol
          cases hcol
        generalize hbs : ((segsFrom none S).take k).foldl (lawStep (fD dn cs) repL) [] = bs at *
        have hcolC : (fD dn cs (repL (lo, hi))).2 = colC cs (some (repL (lo, hi))) := rfl
        have hfst : (fD dn cs (repL (lo, hi))).1 = true := hb
        -- the end of each way
        have fin : ∀ (t : Addr) (H10 : Hp) (acc' : List V) (bs0 : List (It (List Bool))) (lo' : Option Int), Ex H9 H10 → H9 t = none → H10 t = some (.tup [oV lo', oV hi, .ref col]) → Dues (hide res H9) acc' bs0 → acc'.length ≤ k → lawStep (fD dn cs) repL bs (lo, hi) = bs0 ++ [(lo', hi, colC cs (some (repL (lo, hi))))] →
            ∃ p4 p5 p6 p7 p8 acc, [some dv, some (V.ref ca), some (.ref res), some (.ref st), some (.int (k : Int)), some (oV lo), some (oV hi), some (.int (repL (lo, hi))), some (.ref col)] = [some dv, some (.ref ca), some (.ref res), some (.ref st), p4, p5, p6, p7, p8] ∧ Ex B (upd H10 res (.lst (acc' ++ [.ref t]))) ∧ (upd H10 res (.lst (acc' ++ [.ref t]))) res = some (.lst acc) ∧ Dues (hide res (upd H10 res (.lst (acc' ++ [.ref t])))) acc ([(lo, hi)].foldl (lawStep (fD dn cs) repL) bs) ∧ acc.length ≤ k + 1 := by
          intro t H10 acc' bs0 lo' e10 ht h10 hd hl hstep
          refine ⟨_, _, _, _, _, acc' ++ [.ref t], rfl, Ex.mut ((eH.trans e79).trans e10) hBr, upd_same, ?_, by rw [List.length_append]; show acc'.length + 1 ≤ k + 1; omega⟩
          rw [hide_upd]
          show Dues _ _ (lawStep (fD dn cs) repL bs (lo, hi))
          rw [hstep]
          have ntr : t ≠ res := fun z => by
            rw [z, hac9] at ht
            cases ht
          exact psnoc ⟨t, col, rfl, by rw [hide_ne ntr]; exact h10, by rw [hide_ne ncr]; exact e10 _ _ hc9⟩ (Dues.ex (hide_mono e10) hd)
        rcases concat_cases acc with rfl | ⟨acc0, v0, rfl⟩
        · cases hA9
          refine s_if (b := !([] : List V).isEmpty && true) (et_and (et_truL (ev_var rfl) hac9) (fun z => nomatch z)) (fun hb => nomatch hb) (fun _ H10 e10 => ?_)
          refine s_appU (e10 _ _ hac9) (ev_var rfl) (eu_tup (ea_cons (ev_var rfl) (ea_cons (ev_var rfl) (ea_cons (ev_var rfl) ea_nil))) (Nat.le_of_ble_eq_true rfl)) (by simp) fun t H11 ht e11 h11 => ?_
          refine fin t H11 [] [] lo (e10.trans e11) (fresh_back e10 ht) h11 .nil (Nat.zero_le _) ?_
          unfold lawStep
          rw [if_pos hfst]
          rfl
        · obtain ⟨bs0, q0, rfl, hA0, b, c0, rfl, hb', hc0⟩ := p_last hA9
          obtain ⟨nbr, hb'⟩ := hide_some hb'
          obtain ⟨ncr0, hc0⟩ := hide_some hc0
          rw [List.length_append] at hla
          have hla' : acc0.length + 1 ≤ k := hla
          have ll : (acc0 ++ [V.ref b]).length = acc0.length + 1 := by simp
          have lastI : ∀ {H10 : Hp} {σ : L2.St} {j : Nat}, Ex H9 H10 → σ[2]? = some (some (.ref res)) → Ev (tOp (rIxL K) (tVar 2) (tOp (rI0 fun i j => .int (i - j)) (tCB (rLenQ K) (tCons (tVar 2) tNil)) (tC (.int 1)))) σ H10 (.ref b) := by
            intro H10 σ j e10 hv
            refine ev_ixL (i := ((acc0 ++ [V.ref b]).length : Int) - 1) (ev_var hv) (ev_I (i := ((acc0 ++ [V.ref b]).length : Int)) (j := 1) (ev_lenL (ev_var hv) (e10 _ _ hac9)) ev_c) (e10 _ _ hac9) ?_
            rw [ll, show ((acc0.length + 1 : Nat) : Int) - 1 = (acc0.length : Int) by omega]
            exact atI_nat (by simp)
          have hst2 := step_snoc (fD dn cs) repL bs0 q0 (lo, hi) hfst
          refine s_if (b := !(acc0 ++ [V.ref b]).isEmpty && (!decide (oV lo = .non) && (decide (oV q0.2.1 = oV (lo.map (· - 1))) && decide (q0.2.2 = colC cs (some (repL (lo, hi))))))) (et_and (et_truL (ev_var rfl) hac9) (fun _ => et_and (et_T (ev_notN (ev_var rfl))) (fun hlo => et_and ?_ (fun _ => et_T (ev_eqLB (ev_ixT (lastI (j := 0) (Ex.refl _) rfl) ev_c hb' (atI_nat (j := 2) rfl)) (ev_var rfl) hc0 hc9))))) (fun hb2 H10 e10 => ?_) (fun hb2 H10 e10 => ?_)
          · cases lo with
            | none => cases hlo
            | some l0 => exact et_T (ev_eq (y := .int (l0 - 1)) (ev_ixT (lastI (j := 0) (Ex.refl _) rfl) ev_c hb' (atI_nat (j := 1) rfl)) (ev_I (i := l0) (j := 1) (ev_var rfl) ev_c) (by cases q0.2.1 <;> rfl))
          · have hc : (lo.isSome = true ∧ q0.2.1 = lo.map (· - 1) ∧ q0.2.2 = (fD dn cs (repL (lo, hi))).2) := by
              simp only [Bool.and_eq_true] at hb2
              obtain ⟨_, h1, h2, h3⟩ := hb2
              refine ⟨?_, oV_inj (of_decide_eq_true h2), of_decide_eq_true h3⟩
              cases lo with
              | none => cases h1
              | some _ => rfl
            refine s_setLU (j := acc0.length) (e10 _ _ hac9) (eu_tup (ea_cons (ev_ixT (lastI (j := 0) e10 rfl) ev_c (e10 _ _ hb') (atI_nat (j := 0) rfl)) (ea_cons (ev_var rfl) (ea_cons (ev_var rfl) ea_nil))) (Nat.le_of_ble_eq_true rfl)) (ev_var rfl) ?_ (by simp) fun t H11 ht e11 h11 => ?_
            · have : (acc0.length : Int) = ((acc0 ++ [V.ref b]).length : Int) - 1 := by rw [ll]; omega
              rw [this]
              exact ev_I (i := ((acc0 ++ [V.ref b]).length : Int)) (j := 1) (ev_lenL (ev_var rfl) (e10 _ _ hac9)) ev_c
            · rw [show (acc0 ++ [V.ref b]).set acc0.length (.ref t) = acc0 ++ [.ref t] by simp]
              refine fin t H11 acc0 bs0 q0.1 (e10.trans e11) (fresh_back e10 ht) h11 hA0 (by omega) ?_
              rw [hst2, if_pos hc]
              rfl
          · have hc : ¬ (lo.isSome = true ∧ q0.2.1 = lo.map (· - 1) ∧ q0.2.2 = (fD dn cs (repL (lo, hi))).2) := fun ⟨h1, h2, h3⟩ => by
              cases lo with
              | none => cases h1
              | some l0 =>
                rw [h2, decide_eq_true (rfl : oV (Option.map (· - 1) (some l0)) = _), decide_eq_true (show q0.2.2 = colC cs (some (repL (some l0, hi))) from h3)] at hb2
                simp [oV] at hb2
            refine s_appU (e10 _ _ hac9) (ev_var rfl) (eu_tup (ea_cons (ev_var rfl) (ea_cons (ev_var rfl) (ea_cons (ev_var rfl) ea_nil))) (Nat.le_of_ble_eq_true rfl)) (by rw [ll]; omega) fun t H11 ht e11 h11 => ?_
            refine fin t H11 (acc0 ++ [.ref b]) (bs0 ++ [q0]) lo (e10.trans e11) (fresh_back e10 ht) h11 hA9 (by rw [ll]; omega) ?_
            rw [hst2, if_neg hc]
            rfl
      · refine ⟨_, _, _, _, _, acc, rfl, (eH7.trans e8), (e7.trans e8) _ _ hac, ?_, by omega⟩
        have : [(lo, hi)].foldl (lawStep (fD dn cs) repL) (((segsFrom none S).take k).foldl (lawStep (fD dn cs) repL) []) = ((segsFrom none S).take k).foldl (lawStep (fD dn cs) repL) [] := by
          show lawStep _ _ _ _ = _
          unfold lawStep
          rw [if_neg (by
            show ¬ (inL dn (repL (lo, hi)) = true)
            rw [hb]
            decide)]
        rw [this]
        exact Dues.ex (hide_mono (e7.trans e8)) hA
    · rintro σ' H' ⟨o4, o5, o6, o7, o8, acc, rfl, eH, hac, hA, hla⟩
      have e : (((S.length : Int) + 1).toNat) = S.length + 1 := by omega
      rw [e] at hA hla
      rw [List.take_of_length_le (by rw [segs_len]; exact Nat.le_refl _)] at hA
      refine s_ret (ev_var rfl) fun H3 e3 => q res H3 hres ((eB.trans eH).trans e3) ⟨_, acc, ⟨S, hS, hS63, rfl⟩, e3 _ _ hac, Dues.ex ((hide_ex _ _).trans e3) hA, by omega⟩
end
end K3

/-! K3O: first_members, piece_right, pieces_right. -/
namespace K3
open PySem PySem.Spec PyProof.Rows L2 Evl SlX
section
variable {K : PySem.W.Frag} {σ : L2.St} {H : Hp} {ta tb te : TE} {a b l : Addr} {D : Ends} {xs zs : List V} {tu tz : TS} {x z : V} {P : Addr → Hp → Prop} {r : R2}
theorem q_forR2b {ta : TA} {j : Nat} {lo n : Int} (h : EvA ta σ H [.int lo, .int n]) (hn : -(2 ^ 61) ≤ lo ∧ lo ≤ 2 ^ 61 ∧ -(2 ^ 61) ≤ n ∧ n ≤ 2 ^ 61) (Pv : Nat → L2.St → Hp → Prop) (h0 : ∀ H1, Ex H H1 → Pv 0 σ H1)
    (hs : ∀ (i : Nat) σ' H', lo + (i : Int) < n → Pv i σ' H' → tu { D with nx := Pv (i + 1), ct := Pv (i + 1), bk := tz D } (σ'.set j (some (.int (lo + (i : Int))))) H') (hd : ∀ σ' H', Pv (n - lo).toNat σ' H' → tz D σ' H') : tSeq (tFor (iRng2 ta) (gName j) tu) tz D σ H :=
  h H (Ex.refl H) _ fun H1 e => ⟨lo, n, rfl, ⟨by omega, by omega, by omega, by omega⟩, for_range (lo := lo) (n := (n - lo).toNat) (D := { D with nx := tz D }) Pv (h0 H1 e) (fun i σ' H' hi p => hs i σ' H' (by omega) p) hd⟩
theorem en_listOf {ys : List V} (ha : Ev ta σ H (.ref a)) (h : H a = some (.lst ys) ∨ H a = some (.tup ys)) : EvN (tCB (fun xs H Q => ∃ p ys, xs = [.ref p] ∧ (SqL K H p ys ∨ SqT K H p ys) ∧ ∀ l, H l = none → Q (.ref l) (upd H l (.lst ys))) (tCons ta tNil)) σ H (fun l H' => H' l = some (.lst ys)) := fun H1 e Q q =>
  ha H1 e _ fun H2 e2 => ⟨a, ys, rfl, by
    rcases h with h | h
    · exact .inl (SqL.of ((e.trans e2) _ _ h))
    · exact .inr (SqT.of ((e.trans e2) _ _ h)), fun l hl => q l _ (fresh_back e2 hl) (e2.trans (Ex.new hl)) upd_same⟩
theorem en_tupOf {ys : List V} (ha : Ev ta σ H (.ref a)) (h : H a = some (.lst ys)) : EvN (tCB (fun xs H Q => ∃ p ys, xs = [.ref p] ∧ ((SqL K H p ys ∧ ∀ l, H l = none → Q (.ref l) (upd H l (.tup ys))) ∨ (SqT K H p ys ∧ Q (.ref p) H))) (tCons ta tNil)) σ H (fun l H' => H' l = some (.tup ys)) := fun H1 e Q q =>
  ha H1 e _ fun H2 e2 => ⟨a, ys, rfl, .inl ⟨SqL.of ((e.trans e2) _ _ h), fun l hl => q l _ (fresh_back e2 hl) (e2.trans (Ex.new hl)) upd_same⟩⟩
theorem ev_opN (ha : Ev ta σ H x) (hb : ∀ H1, Ex H H1 → EvN tb σ H1 P) (hr : ∀ H1 p, Ex H H1 → P p H1 → RV r x (.ref p) H1 z) : Ev (tOp r ta tb) σ H z := fun H1 e Q q =>
  ha H1 e _ fun H2 e2 => hb H2 (e.trans e2) H2 (Ex.refl H2) _ fun p H3 hp e3 h3 => hr H3 p ((e.trans e2).trans e3) h3 H3 (Ex.refl H3) Q fun H4 e4 => q H4 ((e2.trans e3).trans e4)
theorem en_spL {C : Addr} {ta : TE} {tk : TA} {us : List V} {ns : List Sx} {b : Bool} (ha : Ev ta σ H (.ref a)) (h : H a = some (.lst us)) (hs : Svs H us ns) (hk : ∀ H1, Ex H H1 → EvA tk σ H1 [.bl b]) (ho : ∀ p ∈ ns, okS p) (hz : ns.length ≤ 1000) :
    EvN (tMakeK C 1 1 (sp_init C) (fun vs zs => vs ++ zs) E0 (tCons (tCB (fun xs H Q => ∃ p ys, xs = [.ref p] ∧ (SqL K H p ys ∨ SqT K H p ys) ∧ ∀ l, H l = none → Q (.ref l) (upd H l (.lst ys))) (tCons ta tNil)) tNil) tk) σ H (fun p H' => SpAt C H' (.ref p) (normal ns) b) :=
  en_spK C (fun H1 e Q k => en_listOf (K := K) ha (.inl h) H1 e _ fun p H2 hp e2 h2 => k p H2 e2 ⟨us, h2, hs.ex (e.trans e2)⟩) hk ho hz
end
def bB (p : Sx) : Prop := ∀ x, p.1 = some x ∨ p.2 = some x → -2000000000000 ≤ x ∧ x ≤ 2000000000000
def sp_first : Sp := fun vs H Q _ => ∃ lo hi, ∃ m : Nat, vs = [oV lo, oV hi, .int (m : Int)] ∧ okS (lo, hi) ∧ bB (lo, hi) ∧ m ≤ 100 ∧ RetN (fun p H' => H' p = some (.lst ((members (lo, hi) m).map V.int))) H Q
theorem lawIn_len {p : Sx} {m : Nat} {acc : List Int} {x : Int} (h : acc.length ≤ m) : (lawIn p m acc x).length ≤ m := by
  unfold lawIn
  split
  · rename_i z
    rw [List.length_append]
    show acc.length + 1 ≤ m
    omega
  · exact h
section
variable {P : Program} {w : World} {K : PySem.W.Frag} {mg : Str → Option Value} {base : Heap} {CS CP : Addr}
theorem ok_first (T : Txt K mg CS CP) : Cal P w K mg base 1 "_law_first_members" sp_first := by
  refine T.d_first_members.cal sc_lfirstmembers (fun vs H Q E h => ?_) (fun cdv f A outer s H vs Q E hr h => ?_)
  · obtain ⟨lo, hi, m, rfl, _⟩ := h
    rfl
  · obtain ⟨lo, hi, m, rfl, hok, hbb, hm, q⟩ := h
    refine ⟨_, (pss_cons (ps_set (i := 3) sc_lfirstmembers.nd rfl (by first | exact Or.inl rfl | exact Or.inr rfl) (pe_lst pa_nil))
      (pss_cons (ps_set (i := 4) sc_lfirstmembers.nd rfl (by first | exact Or.inl rfl | exact Or.inr rfl) pe_int)
      (pss_cons (ps_if (PW.pt (pw_and (pt_cmpR op_notN (pv 0) pe_non (nomark _)) (pw_and1 (pt_cmpR op_gt (pv 0) pe_int (nomark _))))) (pss_one (ps_set (i := 4) sc_lfirstmembers.nd rfl (by first | exact Or.inl rfl | exact Or.inr rfl) (pv 0))) pss_nil)
      (pss_cons (ps_if (PW.pt (pw_and (pt_cmpR op_notN (pv 1) pe_non (nomark _)) (pw_and1 (pt_cmpR op_lt (pv 1) pe_int (nomark _))))) (pss_one (ps_set (i := 4) sc_lfirstmembers.nd rfl (by first | exact Or.inl rfl | exact Or.inr rfl) (pv 1))) pss_nil)
      (pss_cons (ps_for PassesOwn.never rfl (pi_range2 rfl T.range_ (pa_cons (pe_callB call_abs (by rfl) T.abs_ (by decide +kernel) (pa_cons (pv 4) pa_nil)) (pa_cons (pe_op op_add (pe_callB call_abs (by rfl) T.abs_ (by decide +kernel) (pa_cons (pv 4) pa_nil)) (pv 2)) pa_nil))) (pg_name (i := 5) sc_lfirstmembers.nd rfl (by first | exact Or.inl rfl | exact Or.inr rfl)) (pss_cons (ps_set (i := 6) sc_lfirstmembers.nd rfl (by first | exact Or.inl rfl | exact Or.inr rfl) (pe_lst (pa_cons (pe_un un_neg (pv 5)) (pa_cons (pv 5) pa_nil))))
      (pss_cons (ps_if (pt_cmpR op_eq (pv 5) pe_int (nomark _)) (pss_one (ps_set (i := 6) sc_lfirstmembers.nd rfl (by first | exact Or.inl rfl | exact Or.inr rfl) (pe_lst (pa_cons pe_int pa_nil)))) pss_nil)
      (pss_one (ps_for PassesOwn.never rfl (pi_list (pv 6)) (pg_name (i := 7) sc_lfirstmembers.nd rfl (by first | exact Or.inl rfl | exact Or.inr rfl)) (pss_one (ps_if (PW.pt (pw_and (pt_cmpR op_lt (pe_callB call_len_seq (by rfl) T.len_ PySem.boot_len (pa_cons (pv 3) pa_nil)) (pv 2) (nomark _)) (pw_and (PW.pt (pw_or (pt_cmpR op_isN (pv 0) pe_non (nomark _)) (pw_or1 (pt_cmpR op_le (pv 0) (pv 7) (nomark _))))) (pw_and1 (PW.pt (pw_or (pt_cmpR op_isN (pv 1) pe_non (nomark _)) (pw_or1 (pt_cmpR op_le (pv 7) (pv 1) (nomark _))))))))) (pss_one (ps_expr (pe_bm PySem.F.plainAttrs_list PySem.F.slot_list_append PySem.F.type_list_append mt_append (pv 3) (pa_cons (pv 7) pa_nil)))) pss_nil)))))))
      (pss_one (ps_ret (pv 3)))))))), ?_⟩
    refine q_asgN (en_l (el_lst ea_nil (Nat.zero_le _))) fun res H1 hres e1 hr1 => ?_
    refine q_asg ev_c fun H2 e2 => ?_
    have eH2 := e1.trans e2
    have hr2 := e2 _ _ hr1
    clear e1 e2 hr1
    -- near
    have nearB : -2000000000000 ≤ clampI 0 (lo, hi) ∧ clampI 0 (lo, hi) ≤ 2000000000000 := by
      unfold clampI
      cases lo with
      | none => cases hi with
        | none => exact ⟨by decide, by decide⟩
        | some u =>
          have := hbb u (.inr rfl)
          dsimp only
          split <;> omega
      | some l =>
        have := hbb l (.inl rfl)
        cases hi with
        | none =>
          dsimp only
          split <;> omega
        | some u =>
          have := hbb u (.inr rfl)
          dsimp only
          split
          · omega
          · split <;> omega
    refine q_whenS (fun σ' H3 => Ex H2 H3 ∧ σ' = [some (oV lo), some (oV hi), some (.int (m : Int)), some (.ref res), some (.int (match lo with | some l => if 0 < l then l else 0 | none => 0)), none, none, none]) (b := match lo with | some l => decide (0 < l) | none => false) ?_ (fun hb H3 e3 D' kd => ?_) (fun hb H3 e3 => ?_) ?_
    · cases lo with
      | none => exact et_and (a := !decide (V.non = V.non)) (b := true) (et_T (ev_notN (ev_var rfl))) (fun z => nomatch z)
      | some l => exact et_and (a := !decide (V.int l = V.non)) (b := decide (0 < l)) (et_T (ev_notN (ev_var rfl))) (fun _ => et_T (ev_I (i := l) (j := 0) (g := fun i j => .bl (decide (i > j))) (ev_var rfl) ev_c))
    · cases lo with
      | none => cases hb
      | some l =>
        have h0 : 0 < l := of_decide_eq_true hb
        refine s_asg (ev_var rfl) fun H4 e4 => kd _ H4 ⟨e3.trans e4, ?_⟩
        dsimp only
        rw [if_pos h0]
        rfl
    · refine ⟨e3, ?_⟩
      cases lo with
      | none => rfl
      | some l =>
        have h0 : ¬ 0 < l := of_decide_eq_false hb
        dsimp only
        rw [if_neg h0]
        rfl
    rintro σ3 H3 ⟨e3, rfl⟩
    refine q_whenS (fun σ' H4 => Ex H2 H4 ∧ σ' = [some (oV lo), some (oV hi), some (.int (m : Int)), some (.ref res), some (.int (clampI 0 (lo, hi))), none, none, none]) (b := match hi with | some u => decide (u < 0) | none => false) ?_ (fun hb H4 e4 D' kd => ?_) (fun hb H4 e4 => ?_) ?_
    · cases hi with
      | none => exact et_and (a := !decide (V.non = V.non)) (b := true) (et_T (ev_notN (ev_var rfl))) (fun z => nomatch z)
      | some u => exact et_and (a := !decide (V.int u = V.non)) (b := decide (u < 0)) (et_T (ev_notN (ev_var rfl))) (fun _ => et_T (ev_I (i := u) (j := 0) (g := fun i j => .bl (decide (i < j))) (ev_var rfl) ev_c))
    · cases hi with
      | none => cases hb
      | some u =>
        have h0 : u < 0 := of_decide_eq_true hb
        refine s_asg (ev_var rfl) fun H5 e5 => kd _ H5 ⟨(e3.trans e4).trans e5, ?_⟩
        have : clampI 0 (lo, some u) = u := by
          unfold clampI
          cases lo with
          | none =>
            dsimp only
            rw [if_pos (by omega)]
          | some l =>
            have := hok l u rfl rfl
            dsimp only
            rw [if_neg (by omega), if_pos (by omega)]
        rw [this]
        rfl
    · refine ⟨e3.trans e4, ?_⟩
      have : clampI 0 (lo, hi) = (match lo with | some l => if 0 < l then l else 0 | none => 0) := by
        unfold clampI
        cases hi with
        | none => cases lo <;> rfl
        | some u =>
          have h0 : ¬ u < 0 := of_decide_eq_false hb
          cases lo with
          | none =>
            dsimp only
            rw [if_neg (by omega)]
          | some l =>
            dsimp only
            split
            · rfl
            · first
              | rfl
              | rw [if_neg (by omega)]
      rw [this]
      cases lo <;> rfl
    rintro σ4 H4 ⟨e4, rfl⟩
    clear e3 H3
    have eH4 := eH2.trans e4
    have hr4 := e4 _ _ hr2
    clear e4 hr2 eH2 H2
    rw [← mem_eq (lo, hi) hok m] at q
    unfold lawMem at q
    generalize hp : ((lo, hi) : Sx) = p at *
    generalize clampI 0 p = c at *
    have hab : ∀ {σ : L2.St} {H : Hp}, σ[4]? = some (some (.int c)) → Ev (tCB (fun xs H Q => ∃ i : Int, xs = [.int i] ∧ Q (.int (if i < 0 then -i else i)) H) (tCons (tVar 4) tNil)) σ H (.int ((c.natAbs : Nat) : Int)) := fun h => by
      rw [← abs_nat]
      exact ev_abs (ev_var h)
    refine q_forR2b (lo := ((c.natAbs : Nat) : Int)) (n := ((c.natAbs : Nat) : Int) + (m : Int)) (ea_cons (hab rfl) (ea_cons (ev_I (g := fun i j => .int (i + j)) (hab rfl) (ev_var rfl)) ea_nil)) (by
        have e61 : (2 : Int) ^ 61 = 2305843009213693952 := by decide
        rw [e61]
        omega)
      (fun i σ' H' => ∃ o5 o6 o7 acc, σ' = [some (oV lo), some (oV hi), some (.int (m : Int)), some (.ref res), some (.int c), o5, o6, o7] ∧ Ex H H' ∧ H' res = some (.lst (acc.map V.int)) ∧ acc = (List.range i).foldl (fun acc (i : Nat) => (nums ((c.natAbs : Int) + (i : Int))).foldl (lawIn p m) acc) [] ∧ acc.length ≤ m)
      (fun H5 e5 => ⟨none, none, none, [], rfl, eH4.trans e5, e5 _ _ hr4, rfl, Nat.zero_le _⟩) ?_ ?_
    · rintro i σ' H' hi' ⟨o5, o6, o7, acc, rfl, eH, hac, hae, hla⟩
      generalize hd : (c.natAbs : Int) + (i : Int) = d at *
      refine q_asgL (xs := [.int (-d), .int d]) (el_lst (ea_cons (ev_neg (ev_var rfl)) (ea_cons (ev_var rfl) ea_nil)) (Nat.le_of_ble_eq_true rfl)) fun nb H5 hnb e5 hn5 => ?_
      have nnr : nb ≠ res := fun z => by
        rw [z, hac] at hnb
        cases hnb
      refine q_whenS (fun σ' H6 => ∃ nb, Ex H' H6 ∧ nb ≠ res ∧ H6 nb = some (.lst ((nums d).map V.int)) ∧ σ' = [some (oV lo), some (oV hi), some (.int (m : Int)), some (.ref res), some (.int c), some (.int d), some (.ref nb), o7]) (b := decide (V.int d = V.int 0)) (et_T (ev_eq (ev_var rfl) ev_c rfl)) (fun hb H6 e6 D' kd => ?_) (fun hb H6 e6 => ?_) ?_
      · have d0 : d = 0 := V.int.inj (of_decide_eq_true hb)
        refine s_asgN (en_l (el_lst (vs := [.int 0]) (ea_cons ev_c ea_nil) (Nat.le_of_ble_eq_true rfl))) fun n2 H7 hn2 e7 h7 => kd _ H7 ⟨n2, (e5.trans e6).trans e7, fun z => ?_, ?_, rfl⟩
        · rw [z, (e5.trans e6) _ _ hac] at hn2
          cases hn2
        · unfold nums
          rw [if_pos d0]
          exact h7
      · have d0 : d ≠ 0 := fun z => by
          rw [z, decide_eq_true rfl] at hb
          cases hb
        refine ⟨nb, e5.trans e6, nnr, ?_, rfl⟩
        unfold nums
        rw [if_neg d0]
        exact e6 _ _ hn5
      rintro σ6 H6 ⟨nb, e6, nnr, hn6, rfl⟩
      refine s_forL (ev_var rfl) (SqL.of hn6) (fun j σ' H7 => ∃ o7 acc', σ' = [some (oV lo), some (oV hi), some (.int (m : Int)), some (.ref res), some (.int c), some (.int d), some (.ref nb), o7] ∧ Ex H H7 ∧ H7 nb = some (.lst ((nums d).map V.int)) ∧ H7 res = some (.lst (acc'.map V.int)) ∧ acc' = ((nums d).take j).foldl (lawIn p m) acc ∧ acc'.length ≤ m)
        (fun H7 e7 => ⟨o7, acc, rfl, (eH.trans e6).trans e7, e7 _ _ hn6, (e6.trans e7) _ _ hac, rfl, hla⟩) (fun j σ' H7 _ ⟨_, _, _, _, h, _⟩ => SqL.of h) ?_ ?_
      · rintro j y σ' H7 hj ⟨o7, acc', rfl, eH7, hn7, hac7, hae7, hla7⟩
        rw [List.getElem?_map] at hj
        cases hx : (nums d)[j]? with
        | none => rw [hx] at hj; cases hj
        | some x =>
          rw [hx] at hj
          cases Option.some.inj hj
          have hstep : ((nums d).take (j + 1)).foldl (lawIn p m) acc = lawIn p m acc' x := by
            rw [take_get hx, List.foldl_append, ← hae7]
            rfl
          refine s_when (b := decide (((acc'.map V.int).length : Int) < (m : Int)) && (geL lo x && leH hi x)) (et_and (et_T (ev_I (g := fun i j => .bl (decide (i < j))) (ev_lenL (ev_var rfl) hac7) (ev_var rfl))) (fun _ => et_and (et_lo (ev_var rfl) (ev_var rfl)) (fun _ => et_hi (ev_var rfl) (ev_var rfl)))) (fun hb H8 e8 => ?_) (fun hb H8 e8 => ?_)
          · obtain ⟨hb1, hb2⟩ := Bool.and_eq_true_iff.mp hb
            have hlt : acc'.length < m := by
              have := of_decide_eq_true hb1
              rw [List.length_map] at this
              omega
            refine s_app (e8 _ _ hac7) (ev_var rfl) (ev_var rfl) (by rw [List.length_map]; omega) fun H9 e9 => ?_
            refine ⟨_, acc' ++ [x], rfl, Ex.mut ((eH7.trans e8).trans e9) hres, by rw [upd_ne nnr]; exact (e8.trans e9) _ _ hn7, by rw [upd_same, List.map_append]; rfl, ?_, ?_⟩
            · rw [hstep]
              unfold lawIn
              rw [if_pos ⟨hlt, by rw [← hp]; exact hb2⟩]
            · rw [List.length_append]
              show acc'.length + 1 ≤ m
              omega
          · refine ⟨_, acc', rfl, eH7.trans e8, e8 _ _ hn7, e8 _ _ hac7, ?_, hla7⟩
            rw [hstep]
            unfold lawIn
            rw [if_neg]
            rintro ⟨h1, h2⟩
            rw [← hp] at h2
            have h3 : (geL lo x && leH hi x) = true := h2
            rw [h3, decide_eq_true (by rw [List.length_map]; omega)] at hb
            cases hb
      · rintro σ' H7 ⟨o7, acc', rfl, eH7, hn7, hac7, hae7, hla7⟩
        rw [List.length_map, List.take_length] at hae7
        refine ⟨_, _, _, acc', rfl, eH7, hac7, ?_, hla7⟩
        rw [hae7, List.range_succ, List.foldl_append, ← hae]
        show _ = (nums ((c.natAbs : Int) + (i : Int))).foldl (lawIn p m) acc
        rw [hd]
    · rintro σ' H' ⟨o5, o6, o7, acc, rfl, eH, hac, hae, hla⟩
      have e : (((c.natAbs : Nat) : Int) + (m : Int) - ((c.natAbs : Nat) : Int)).toNat = m := by omega
      rw [e] at hae
      rw [hae] at hac
      exact s_ret (ev_var rfl) fun H5 e5 => q res H5 hres (eH.trans e5) (e5 _ _ hac)
end
end K3

/-! K3P: piece_right, pieces_right. -/
namespace K3
open PySem PySem.Spec PyProof.Rows L2 Evl SlX
section
variable {K : PySem.W.Frag} {σ : L2.St} {H : Hp} {te : TE} {x y z : V} {D : Ends} {tz : TS}
theorem s_unp3 {i j k : Nat} {a : Addr} (h : Ev te σ H (.ref a)) (ht : H a = some (.tup [x, y, z])) (q : ∀ H1, Ex H H1 → D.nx (((σ.set i (some x)).set j (some y)).set k (some z)) H1) : tAsg te (gTup K 3 (gCons (gName i) (gCons (gName j) (gCons (gName k) gNil)))) D σ H :=
  h H (Ex.refl H) _ fun H1 e => ⟨a, [x, y, z], rfl, SqT.of (e _ _ ht), rfl, x, [y, z], rfl, y, [z], rfl, z, [], rfl, rfl, q H1 e⟩
theorem q_unp3 {i j k : Nat} {a : Addr} (h : Ev te σ H (.ref a)) (ht : H a = some (.tup [x, y, z])) (q : ∀ H1, Ex H H1 → tz D (((σ.set i (some x)).set j (some y)).set k (some z)) H1) : tSeq (tAsg te (gTup K 3 (gCons (gName i) (gCons (gName j) (gCons (gName k) gNil))))) tz D σ H :=
  s_unp3 (D := { D with nx := tz D }) h ht q
/-- a new list of one new stretch -/
theorem en_one {l h : Option Int} (eu : EvU te σ H [oV l, oV h]) : EvN (tLst (tCons te tNil)) σ H (fun p H' => ∃ us, H' p = some (.lst us) ∧ Svs H' us [(l, h)]) := fun H1 e Q k =>
  eu H1 e _ fun p H2 hp e2 h2 => ⟨(show 1 ≤ sizeLine by rw [sizeLine_eq]; decide), fun a ha => k a _ (fresh_back e2 ha) (e2.trans (Ex.new ha)) ⟨[.ref p], upd_same, .cons ⟨p, rfl, (Ex.new ha) _ _ h2⟩ .nil⟩⟩
end
section
variable {P : Program} {w : World} {K : PySem.W.Frag} {mg : Str → Option Value} {base : Heap} {CS CP : Addr}
def sp_pieceR (CS CP : Addr) : Sp := fun vs H Q _ => ∃ pv pl b cl us ns cols, vs = [pv, .ref pl, .bl b, .ref cl] ∧ PcAt CS CP H pv ns b cols ∧ H pl = some (.lst us) ∧ Svs H us ns ∧ normal ns = ns ∧ (∀ p ∈ ns, okS p) ∧ ns.length ≤ 1000 ∧
  H cl = some (.lst (cols.map V.bl)) ∧ cols.length ≤ 1000 ∧ RetV (.bl true) H Q
theorem all_true {n : Nat} : ((List.range n).map fun _ => true).all id = true := by
  rw [List.all_map, List.all_eq_true]
  intro x _
  rfl
theorem ok_pieceR (T : Txt K mg CS CP) : Cal P w K mg base 8 "_law_piece_right" (sp_pieceR CS CP) := by
  have cS : SpanC P w K mg base CS := ok_Span T
  have cEq : MCal P w K mg base 1 CS "__eq__" (sp_eq CS) := ok_eq T
  obtain ⟨q0, hq0⟩ := T.s0
  obtain ⟨q1, hq1⟩ := T.s1
  obtain ⟨p0, hp0⟩ := T.p0
  obtain ⟨p1, hp1⟩ := T.p1
  refine T.d_piece_right.cal sc_lpieceright (fun vs H Q E h => ?_) (fun cdv f A outer s H vs Q E hr h => ?_)
  · obtain ⟨pv, pl, b, cl, us, ns, cols, rfl, _⟩ := h
    rfl
  · obtain ⟨pv, pl, b, cl, us, ns, cols, rfl, hP, hpl, hS, hn, hok, hlen, hcl, hlc, q⟩ := h
    obtain ⟨a, dx, sv, c, rfl, hA, hSp, hc⟩ := id hP
    obtain ⟨sa, sdx, t, ts, o, rfl, hSA, ht, hts⟩ := id hSp
    have x2 : ∀ {H1 : Hp}, Ex H H1 → H1 a = some (SlO a CP dx [some (.ref c), some (.ref sa)]) ∧ H1 dx = some (.xd []) := fun e => ⟨e _ _ hA.1, e _ _ hA.2⟩
    have y2 : ∀ {H1 : Hp}, Ex H H1 → H1 sa = some (SlO sa CS sdx [some (.bl b), some (oV o), some (.ref t)]) ∧ H1 sdx = some (.xd []) := fun e => ⟨e _ _ hSA.1, e _ _ hSA.2⟩
    refine ⟨_, (pss_cons (ps_if (PW.pt (pw_or (pt_not (pt_val (pe_callB (call_isiSl (.ref CP)) (by rfl) T.isinstance_ (by decide +kernel) (pa_cons (pv 0) (pa_cons (pe_glob (v := .ref CP) (by rfl) T.Pc.g rfl) pa_nil))))) (pw_or (pt_not (pt_val (pe_callB (call_isiSl (.ref CS)) (by rfl) T.isinstance_ (by decide +kernel) (pa_cons (SlX.pe_sl (pv 0)) (pa_cons (pe_glob (v := .ref CS) (by rfl) T.S.g rfl) pa_nil))))) (pw_or1 (pt_cmpR op_ne (SlX.pe_sl (SlX.pe_sl (pv 0))) (pv 2) (nomark _)))))) (pss_one (ps_ret pe_bl)) pss_nil)
      (pss_cons (ps_if (PW.pt (pw_or (pt_cmpR (op_neS T.S.isi T.ne_ cEq hr (by decide)) (SlX.pe_sl (pv 0)) (pe_spK cS T.S.g hr (by decide) (by rfl) (pa_cons (pe_callTy call_list_of (by rfl) T.list_ (by decide +kernel) (pa_cons (pv 1) pa_nil)) pa_nil) (pk_cons (pv 2) pk_nil)) (nomark _)) (pw_or1 (pt_cmpR (op_neD hr.units) (SlX.pe_sl (SlX.pe_sl (pv 0))) (pe_callTy call_tuple_of (by rfl) T.tuple_ (by decide +kernel) (pa_cons (pv 1) pa_nil)) (nomark _))))) (pss_one (ps_ret pe_bl)) pss_nil)
      (pss_cons (ps_if (PW.pt (pw_or (pt_not (pt_val (pe_callB call_isi (by rfl) T.isinstance_ (by decide +kernel) (pa_cons (SlX.pe_sl (pv 0)) (pa_cons (pe_bltn (v := .ty "tuple") (by rfl) T.tuple_ (by decide +kernel) rfl) pa_nil))))) (pw_or1 (pt_cmpR op_ne (pe_callB call_len_seq (by rfl) T.len_ PySem.boot_len (pa_cons (SlX.pe_sl (pv 0)) pa_nil)) (pe_callB call_len_seq (by rfl) T.len_ PySem.boot_len (pa_cons (pv 3) pa_nil)) (nomark _))))) (pss_one (ps_ret pe_bl)) pss_nil)
      (pss_one (ps_ret (pe_callB (cr_all rfl) (by rfl) T.all_ (by decide +kernel) (pa_cons (pe_lc (own := [("_law_k", 4)]) (g := gName 4) rfl sc_lpieceright.nd (pi_range1 rfl T.range_ (pa_cons (pe_callB call_len_seq (by rfl) T.len_ PySem.boot_len (pa_cons (pv 3) pa_nil)) pa_nil)) (blkOk_by (own := [("_law_k", 4)]) (N := n_lpieceright) (sc := defScope s_lpieceright) (by decide +kernel)) (fun _ _ _ _ _ => pg_name (i := 4) sc_lpieceright.nd rfl (by first | exact Or.inl rfl | exact Or.inr rfl)) (fun _ _ _ _ _ => pts_nil) (fun _ _ _ _ _ => (pe_and (pe_callB (isiK (K := K) rfl) (by rfl) T.isinstance_ (by decide +kernel) (pa_cons (pe_ix (ixtK (K := K) rfl) (pe_slK (K := K) rfl (pv 0)) (pv 4) (fun _ _ => rfl)) (pa_cons (pe_bltn (v := .ty "bool") (by rfl) T.bool_ (by decide +kernel) rfl) pa_nil))) (pe_one (pe_cmpR op_eq (pe_ix (ixtK (K := K) rfl) (pe_slK (K := K) rfl (pv 0)) (pv 4) (fun _ _ => rfl)) (pe_ix (ixlK (K := K) rfl) (pv 3) (pv 4) (fun _ _ => rfl)) (nomark _)))))) pa_nil))))))), ?_⟩
    have evS : ∀ {σ : L2.St} {H1 : Hp}, Ex H H1 → σ[0]? = some (some (.ref a)) → Ev (tSl K (tVar 0) "span") σ H1 (.ref sa) := fun e h => ev_sl (v := .ref sa) (ev_var h) (x2 e) T.Pc.cl hp0 rfl
    have evC : ∀ {σ : L2.St} {H1 : Hp}, Ex H H1 → σ[0]? = some (some (.ref a)) → Ev (tSl K (tVar 0) "colour") σ H1 (.ref c) := fun e h => ev_sl (v := .ref c) (ev_var h) (x2 e) T.Pc.cl hp1 rfl
    refine q_when (b := !true || (!true || !decide (V.bl b = V.bl b))) (et_or (et_not (et_V (ev_isiSl CP (ev_var rfl) ev_c hA T.Pc.cl T.Pc.isi T.Pc.kit))) (fun _ => et_or (et_not (et_V (ev_isiSl CS (evS (Ex.refl _) rfl) ev_c hSA T.S.cl T.S.isi T.S.kit))) (fun _ => et_T (ev_ne (ev_sl (v := .bl b) (evS (Ex.refl _) rfl) hSA T.S.cl hq1 rfl) (ev_var rfl) rfl)))) (fun hb => ?_) (fun _ H1 e1 => ?_)
    · rw [decide_eq_true rfl] at hb
      cases hb
    refine q_when (b := !true || !PyData.eqv (dN ns) (dN ns)) (et_or (et_T (ev_opN (P := fun p H' => SpAt CS H' (.ref p) ns b) (evS e1 rfl) (fun H2 e2 => by
        have h0 := en_spL (K := K) (C := CS) (ta := tVar 1) (tk := tCons (tVar 2) tNil) (σ := [some (.ref a), some (.ref pl), some (.bl b), some (.ref cl), none]) (H := H2) (b := b) (ev_var rfl) ((e1.trans e2) _ _ hpl) (hS.ex (e1.trans e2)) (fun H3 e3 => ea_cons (ev_var rfl) ea_nil) hok hlen
        rw [hn] at h0
        exact h0) (fun H2 p e2 hp H3 e3 Q3 k3 => ?_))) (fun _ => et_T ?_)) (fun hb => ?_) (fun _ H2 e2 => ?_)
    · obtain ⟨pa, pdx, pt, pts, po, hpe, hpA, _⟩ := id hp
      cases hpe
      exact ⟨sa, sdx, _, p, pdx, _, rfl, rfl, .inr (y2 ((e1.trans e2).trans e3)), .inr ⟨e3 _ _ hpA.1, e3 _ _ hpA.2⟩, _, _, ns, b, rfl, hSp.ex ((e1.trans e2).trans e3), hp.ex e3, fun H4 e4 => ⟨_, rfl, k3 H4 e4⟩⟩
    · exact ev_opN (P := fun p H' => H' p = some (.tup us)) (ev_sl (v := .ref t) (evS e1 rfl) (y2 e1) T.S.cl hq0 rfl) (fun H2 e2 => en_tupOf (ev_var rfl) ((e1.trans e2) _ _ hpl)) (fun H2 p e2 hp H3 e3 Q3 k3 => ⟨dN ns, dN ns, dp_n (((e1.trans e2).trans e3) _ _ ht) (hts.ex ((e1.trans e2).trans e3)), dp_n (e3 _ _ hp) (hS.ex ((e1.trans e2).trans e3)), shaped_n ns, shaped_n ns, k3 H3 (Ex.refl _)⟩)
    · rw [show PyData.eqv (dN ns) (dN ns) = true from SeqAt.eqv_refl _ (lay_dn ns)] at hb
      cases hb
    have e12 := e1.trans e2
    refine q_when (b := !true || !decide (V.int ((cols.map V.bl).length : Int) = V.int ((cols.map V.bl).length : Int))) (et_or (et_not (et_V (ev_isi (evC e12 rfl) ev_c (.ty _) kitTT fun H3 e3 => .base (.tup ((e12.trans e3) _ _ hc))))) (fun _ => et_T (ev_ne (ev_lenT (evC e12 rfl) (e12 _ _ hc)) (ev_lenL (ev_var rfl) (e12 _ _ hcl)) rfl))) (fun hb => ?_) (fun _ H3 e3 => ?_)
    · rw [decide_eq_true rfl] at hb
      cases hb
    have e13 := e12.trans e3
    have ex : given (((cols.map V.bl).length : Int)).toNat (fun _ => true) (fun i => V.bl (true && decide (V.bl (cols.getD i false) = V.bl (cols.getD i false)))) = ((List.range cols.length).map fun _ => true).map V.bl := by
      rw [given_all, List.length_map]
      show (List.range cols.length).map _ = _
      rw [List.map_map]
      refine List.map_congr_left fun i _ => ?_
      show V.bl (true && decide (V.bl (cols.getD i false) = V.bl (cols.getD i false))) = V.bl true
      rw [decide_eq_true rfl]
      rfl
    refine s_ret (v := .bl (((List.range cols.length).map fun _ => true).all id)) (ev_all ?_) fun H4 e4 => ?_
    · rw [← ex]
      refine el_lcR1 (j := 4) (vs := [4]) (n := ((cols.map V.bl).length : Int)) (fun _ => true) (fun i => V.bl (true && decide (V.bl (cols.getD i false) = V.bl (cols.getD i false)))) (ea_cons (ev_lenL (ev_var rfl) (e13 _ _ hcl)) ea_nil) ⟨by omega, by rw [List.length_map]; omega⟩ (fun _ => rfl) (fun _ _ _ _ => et_yes) (fun i H5 e5 hi _ => ?_)
      have hi' : i < cols.length := by rw [List.length_map] at hi; omega
      have hg : (cols.map V.bl)[i]? = some (V.bl (cols.getD i false)) := by
        rw [List.getElem?_map, List.getD_eq_getElem?_getD, List.getElem?_eq_getElem hi']
        rfl
      have evI : Ev (tOp (rIxT K) (tSl K (tVar 0) "colour") (tVar 4)) [some (.ref a), some (.ref pl), some (.bl b), some (.ref cl), some (.int (i : Int))] H5 (V.bl (cols.getD i false)) := ev_ixT (evC (e13.trans e5) rfl) (ev_var rfl) ((e13.trans e5) _ _ hc) (atI_nat hg)
      exact ev_andV (ev_isi evI ev_c (.ty _) kitBB fun _ _ => .base (.bl _)) (fun _ => ev_eq evI (ev_ixL (ev_var rfl) (ev_var rfl) ((e13.trans e5) _ _ hcl) (atI_nat hg)) rfl)
    · rw [all_true]
      exact q H4 (e13.trans e4)
def sp_piecesR (CS CP : Addr) : Sp := fun vs H Q _ => ∃ fa dv ca du pvs ds us ws dn db cs its, vs = [.ref fa, dv, .ref ca, .ref du] ∧ H fa = some (.lst pvs) ∧ Pcs CS CP H pvs ds ∧ RwAt H dv dn db ∧ H ca = some (.lst us) ∧ Rws H us cs ∧ cs.length ≤ 1000 ∧ H du = some (.lst ws) ∧ Dues H ws its ∧
  ds = nonP db cs ++ its.map itP ∧ its.length ≤ 1000 ∧ (∀ t ∈ its, okS (t.1, t.2.1) ∧ t.2.2.length ≤ 1000) ∧ RetV (.bl true) H Q
theorem ok_piecesR (T : Txt K mg CS CP) : Cal P w K mg base 9 "_law_pieces_right" (sp_piecesR CS CP) := by
  have c_l_piece_right : Cal P w K mg base 8 "_law_piece_right" (sp_pieceR CS CP) := ok_pieceR T
  have c_l_colour : Cal P w K mg base 2 "_law_colour" sp_lcolour := ok_lcolour T
  refine T.d_pieces_right.cal sc_lpiecesright (fun vs H Q E h => ?_) (fun cdv f A outer s H vs Q E hr h => ?_)
  · obtain ⟨fa, dv, ca, du, pvs, ds, us, ws, dn, db, cs, its, rfl, _⟩ := h
    rfl
  · obtain ⟨fa, dv, ca, du, pvs, ds, us, ws, dn, db, cs, its, rfl, hfa, hPc, hD, hca, hR, hlc, hdu, hW, hds, hli, hok, q⟩ := h
    obtain ⟨sa, l, dus, rfl, hsa, hl, hSd⟩ := id hD
    refine ⟨_, (pss_cons (ps_set (i := 4) sc_lpiecesright.nd rfl (by first | exact Or.inl rfl | exact Or.inr rfl) (pe_callTy call_int1 (by rfl) T.int_ (by decide +kernel) (pa_cons (pe_ix ix_tup (pv 1) pe_int (fun _ _ => rfl)) pa_nil)))
      (pss_cons (ps_if (PW.pt (pw_or (pt_not (pt_val (pe_callB call_isi (by rfl) T.isinstance_ (by decide +kernel) (pa_cons (pv 0) (pa_cons (pe_bltn (v := .ty "list") (by rfl) T.list_ (by decide +kernel) rfl) pa_nil))))) (pw_or1 (pt_cmpR op_ne (pe_callB call_len_seq (by rfl) T.len_ PySem.boot_len (pa_cons (pv 0) pa_nil)) (pe_op op_add (pe_callB call_len_seq (by rfl) T.len_ PySem.boot_len (pa_cons (pv 3) pa_nil)) (pv 4)) (nomark _))))) (pss_one (ps_ret pe_bl)) pss_nil)
      (pss_cons (ps_if (PW.pt (pw_and (pt_cmpR op_eq (pv 4) pe_int (nomark _)) (pw_and1 (pt_not (pt_val (pe_c c_l_piece_right hr (by decide) (by rfl) (pa_cons (pe_ix ix_list (pv 0) pe_int (fun _ _ => rfl)) (pa_cons (pe_lst pa_nil) (pa_cons pe_bl (pa_cons (pe_c c_l_colour hr (by decide) (by rfl) (pa_cons (pv 2) (pa_cons pe_non pa_nil))) pa_nil)))))))))) (pss_one (ps_ret pe_bl)) pss_nil)
      (pss_cons (ps_for PassesOwn.never rfl (pi_range1 rfl T.range_ (pa_cons (pe_callB call_len_seq (by rfl) T.len_ PySem.boot_len (pa_cons (pv 3) pa_nil)) pa_nil)) (pg_name (i := 5) sc_lpiecesright.nd rfl (by first | exact Or.inl rfl | exact Or.inr rfl)) (pss_cons (ps_asg (pe_ix ix_list (pv 3) (pv 5) (fun _ _ => rfl)) (pg_tup rfl (pgs_cons (pg_name (i := 6) sc_lpiecesright.nd rfl (by first | exact Or.inl rfl | exact Or.inr rfl)) (pgs_cons (pg_name (i := 7) sc_lpiecesright.nd rfl (by first | exact Or.inl rfl | exact Or.inr rfl)) (pgs_cons (pg_name (i := 8) sc_lpiecesright.nd rfl (by first | exact Or.inl rfl | exact Or.inr rfl)) pgs_nil)))))
      (pss_one (ps_if (pt_not (pt_val (pe_c c_l_piece_right hr (by decide) (by rfl) (pa_cons (pe_ix ix_list (pv 0) (pe_op op_add (pv 5) (pv 4)) (fun _ _ => rfl)) (pa_cons (pe_lst (pa_cons (pe_tup (pa_cons (pv 6) (pa_cons (pv 7) pa_nil))) pa_nil)) (pa_cons pe_bl (pa_cons (pv 8) pa_nil))))))) (pss_one (ps_ret pe_bl)) pss_nil))))
      (pss_one (ps_ret pe_bl)))))), ?_⟩
    have lws : ws.length = its.length := plen hW
    have lp : pvs.length = ds.length := plen hPc
    have lnon : (nonP db cs).length = (if db then 1 else 0) := by
      unfold nonP
      cases db <;> rfl
    have lds : (pvs.length : Int) = (ws.length : Int) + (if db then 1 else 0) := by
      rw [lp, hds, List.length_append, List.length_map, lnon, lws]
      cases db <;> simp <;> omega
    refine q_asg (v := .int (if db then 1 else 0)) (ev_intB (ev_ixT (ev_var rfl) ev_c hsa rfl)) fun H1 e1 => ?_
    refine q_when (b := !true || !decide (V.int (pvs.length : Int) = V.int ((ws.length : Int) + (if db then 1 else 0)))) (et_or (et_not (et_V (ev_isi (ev_var rfl) ev_c (.ty _) kitLL fun H3 e3 => .base (.lst ((e1.trans e3) _ _ hfa))))) (fun _ => et_T (ev_ne (ev_lenL (ev_var rfl) (e1 _ _ hfa)) (ev_I (g := fun i j => .int (i + j)) (ev_lenL (ev_var rfl) (e1 _ _ hdu)) (ev_var rfl)) rfl))) (fun hb => ?_) (fun _ H2 e2 => ?_)
    · rw [lds, decide_eq_true rfl] at hb
      cases hb
    have e12 := e1.trans e2
    -- None alone
    refine q_when (b := decide (V.int (if db then 1 else 0) = V.int 1) && !true) (et_and (et_T (ev_eq (ev_var rfl) ev_c rfl)) (fun hb => et_not (et_V ?_))) (fun hb => ?_) (fun _ H3 e3 => ?_)
    · have hdb : db = true := by
        cases db with
        | true => rfl
        | false => cases hb
      subst hdb
      refine fun H3 e3 Q3 k3 => ?_
      have e13 := e12.trans e3
      have hn : ds[0]? = some ([], true, colC cs none) := by
        rw [hds]
        rfl
      obtain ⟨pv, hpv, hPa⟩ := pget' hPc hn
      refine ev_ixL (v := pv) (ev_var rfl) ev_c (e13 _ _ hfa) (atI_nat (j := 0) hpv) H3 (Ex.refl _) _ fun H4 e4 => ?_
      refine en_l (el_lst ea_nil (Nat.zero_le _)) H4 (Ex.refl _) _ fun pl H5 hpl e5 h5 => ?_
      show tCl sp_lcolour _ _ _ _
      have e15 := (e13.trans e4).trans e5
      refine en_cl (P := fun t H' => H' t = some (.lst ((colC cs none).map V.bl))) (ea_cons (ev_var rfl) (ea_cons ev_c ea_nil)) (fun H6 e6 Q6 k6 => ⟨ca, us, cs, none, rfl, (e15.trans e6) _ _ hca, Rws.ex (e15.trans e6) hR, by omega, k6⟩) H5 (Ex.refl _) _ fun cl H6 hcl e6 h6 => ?_
      refine ⟨pv, pl, true, cl, [], [], colC cs none, rfl, hPa.ex (e15.trans e6), e6 _ _ h5, .nil, normal_nil, (fun _ h => nomatch h), Nat.zero_le _, h6, ?_, fun H7 e7 => k3 H7 (((e4.trans e5).trans e6).trans e7)⟩
      unfold colC
      rw [List.length_map]
      exact hlc
    · rw [Bool.not_true, Bool.and_false] at hb
      cases hb
    have e13 := e12.trans e3
    refine q_forR1 (ea_cons (ev_lenL (ev_var rfl) (e13 _ _ hdu)) ea_nil) ⟨by omega, by omega⟩ (fun i σ' H' => ∃ o5 o6 o7 o8, σ' = [some (.ref fa), some (.ref sa), some (.ref ca), some (.ref du), some (.int (if db then 1 else 0)), o5, o6, o7, o8] ∧ Ex H H') (fun H4 e4 => ⟨none, none, none, none, rfl, e13.trans e4⟩) ?_ ?_
    · rintro i σ' H' hi ⟨o5, o6, o7, o8, rfl, eH⟩
      have hi' : i < ws.length := by omega
      obtain ⟨t, ht, ta, c, etv, h3, hc⟩ := pget hW (List.getElem?_eq_getElem hi')
      refine q_unp3 (ev_ixL (ev_var rfl) (ev_var rfl) (eH _ _ hdu) (atI_nat (by rw [List.getElem?_eq_getElem hi', etv]))) (eH _ _ h3) fun H4 e4 => ?_
      have hn : ds[i + (if db then 1 else 0)]? = some (itP t) := by
        rw [hds]
        have : (nonP db cs).length = (if db then 1 else 0) := lnon
        rw [List.getElem?_append_right (by rw [this]; omega), this, Nat.add_sub_cancel, List.getElem?_map, ht]
        rfl
      obtain ⟨pv, hpv, hPa⟩ := pget' hPc hn
      have hidx : ((i : Int) + (if db then 1 else 0)) = ((i + (if db then 1 else 0) : Nat) : Int) := by
        cases db <;> simp
      obtain ⟨hok1, hok2⟩ := hok t (List.mem_iff_getElem?.mpr ⟨i, ht⟩)
      have e04 := eH.trans e4
      refine s_when (b := !true) (et_not (et_V fun H5 e5 Q5 k5 => ?_)) (fun hb => nomatch hb) (fun _ H5 e5 => ⟨_, _, _, _, rfl, e04.trans e5⟩)
      have e05 := e04.trans e5
      refine ev_ixL (v := pv) (ev_var rfl) (ev_I (g := fun i j => .int (i + j)) (ev_var rfl) (ev_var rfl)) (e05 _ _ hfa) (by rw [hidx]; exact atI_nat hpv) H5 (Ex.refl _) _ fun H6 e6 => ?_
      refine en_one (l := t.1) (h := t.2.1) (eu_tup (ea_cons (ev_var rfl) (ea_cons (ev_var rfl) ea_nil)) (Nat.le_of_ble_eq_true rfl)) H6 (Ex.refl _) _ fun pl H7 _ e7 ⟨us', hpl, hus⟩ => ?_
      have e07 := (e05.trans e6).trans e7
      have e7t : Ex H4 H7 := (e5.trans e6).trans e7
      exact ⟨_, rfl, pv, pl, false, c, us', [(t.1, t.2.1)], t.2.2, rfl, hPa.ex e07, hpl, hus, normal_one _, (fun p hp => by
        rw [List.mem_singleton.mp hp]
        exact hok1), by simp, e07 _ _ hc, hok2, fun H8 e8 => k5 H8 ((e6.trans e7).trans e8)⟩
    · rintro σ' H' ⟨o5, o6, o7, o8, rfl, eH⟩
      exact s_ret ev_c fun H4 e4 => q H4 (eH.trans e4)
end
end K3

/-! K3Q: members_right, place. -/
namespace K3
open PySem PySem.Spec PyProof.Rows L2 Evl SlX
def mO (ns : List Sx) (m : Nat) : List (Option Int) := match ns with
  | [] => [none].take m
  | p :: _ => (members p m).map some
theorem mL_mO (ns : List Sx) (m : Nat) : mL ns m = (mO ns m).map oV := by
  cases ns with
  | nil =>
    show [V.non].take m = ([none].take m).map oV
    rw [List.map_take]
    rfl
  | cons p r =>
    show (members p m).map V.int = ((members p m).map some).map oV
    rw [List.map_map]
    rfl
theorem mO_len (ns : List Sx) (m : Nat) : (mO ns m).length ≤ m := by
  have := mL_len ns m
  rw [mL_mO, List.length_map] at this
  exact this
theorem flatL_le {α : Type} {f : α → List V} {m : Nat} : ∀ {ds : List α}, (∀ d ∈ ds, (f d).length ≤ m) → (ds.flatMap f).length ≤ ds.length * m
  | [], _ => Nat.zero_le _
  | d :: ds, h => by
    rw [List.flatMap_cons, List.length_append, List.length_cons, Nat.succ_mul]
    have := h d List.mem_cons_self
    have := flatL_le (ds := ds) fun x hx => h x (List.mem_cons_of_mem _ hx)
    omega
section
variable {K : PySem.W.Frag} {σ : L2.St} {H : Hp} {te tf : TE} {CS CP : Addr} {i : Nat} {m : Nat}
theorem en_mem {pv : V} {ns : List Sx} {b : Bool} {cols : List Bool} (ha : Ev te σ H pv) (hv : σ[i]? = some (some (.int (m : Int)))) (h : PcAt CS CP H pv ns b cols) (ok : OkP ns b) (hz : m ≤ 1000) :
    EvN (tMethSl CP (sp_mem CS CP) E0 te (tCons (tVar i) tNil)) σ H (fun l H' => H' l = some (.lst (mL ns m))) := fun H1 e Q q => ha H1 e _ fun H2 e2 => by
  have h2 := h.ex (e.trans e2)
  obtain ⟨a, dx, s, c, rfl, ⟨hA, hx⟩, _⟩ := id h2
  exact ⟨a, dx, _, rfl, .inr ⟨hA, hx⟩, _, hv, .ref a, m, ns, b, cols, rfl, h2, ok, hz, fun p H3 hp e3 h3 => q p H3 (fresh_back e2 hp) (e2.trans e3) h3⟩
theorem en_noneCut (hv : σ[i]? = some (some (.int (m : Int)))) : EvN (L2.tSl (rSlL K) (tLst (tCons (tC .non) tNil)) tNoPart (tPart (tVar i))) σ H (fun l H' => H' l = some (.lst (mL [] m))) := fun H1 e Q q =>
  en_l (el_lst (vs := [.non]) (ea_cons ev_c ea_nil) (Nat.le_of_ble_eq_true rfl)) H1 e _ fun l H2 hl e2 h2 => ⟨_, hv, (m : Int), rfl, l, [.non], rfl, SqL.of h2, fun l2 hl2 => by
    rw [cut_take]
    exact q l2 _ (fresh_back e2 hl2) (e2.trans (Ex.new hl2)) upd_same⟩
/-- _law_is_list of two new lists, or of new and old ones -/
theorem ev_isl {te tf : TE} {os : List (Option Int)} {P : Addr → Hp → Prop} {b : Addr} (ha : EvN te σ H P) (hP : ∀ p H', P p H' → H' p = some (.lst (os.map oV))) (hb : Ev tf σ H (.ref b)) (h : H b = some (.lst (os.map oV))) (hl : os.length ≤ 100000) : Ev (tCl sp_lislist (tCons te (tCons tf tNil))) σ H (.bl true) := fun H1 e Q q =>
  ha H1 e _ fun p H2 hp e2 h2 => hb H2 (e.trans e2) _ fun H3 e3 => ⟨p, b, os, rfl, e3 _ _ (hP p H2 h2), ((e.trans e2).trans e3) _ _ h, hl, fun H4 e4 => q H4 ((e2.trans e3).trans e4)⟩
end
section
variable {K : PySem.W.Frag} {σ : L2.St} {H : Hp} {ta tb : TE} {a b : Addr} {xs zs : List V}
theorem el_catE (ha : Ev ta σ H (.ref a)) (h1 : H a = some (.lst xs)) (hb : Ev tb σ H (.ref b)) (h : H b = some (.lst zs)) (hz : xs.length + zs.length ≤ 100000) : EvL (tOp rCat ta tb) σ H (xs ++ zs) := fun H1 e Q q =>
  ha H1 e _ fun H2 e2 => hb H2 (e.trans e2) _ fun H3 e3 => ⟨a, b, xs, zs, rfl, rfl, ((e.trans e2).trans e3) _ _ h1, ((e.trans e2).trans e3) _ _ h, by rw [sizeLine_eq]; omega, fun p hp => q p _ (fresh_back (e2.trans e3) hp) ((e2.trans e3).trans (Ex.new hp)) upd_same⟩
end
section
variable {P : Program} {w : World} {K : PySem.W.Frag} {mg : Str → Option Value} {base : Heap} {CS CP : Addr}
def sp_membersR (CS CP : Addr) : Sp := fun vs H Q _ => ∃ fa dv du pvs ds ws dn db its, ∃ cs : List Rs, ∃ m : Nat, vs = [.ref fa, dv, .ref du, .int (m : Int)] ∧ H fa = some (.lst pvs) ∧ Pcs CS CP H pvs ds ∧ RwAt H dv dn db ∧ H du = some (.lst ws) ∧ Dues H ws its ∧
  ds = nonP db cs ++ its.map itP ∧ its.length ≤ 100 ∧ (∀ t ∈ its, okS (t.1, t.2.1) ∧ bB (t.1, t.2.1)) ∧ m ≤ 100 ∧ RetN (fun l H' => H' l = some (.lst (ds.flatMap fun d => mL d.1 m))) H Q
theorem ok_membersR (T : Txt K mg CS CP) : Cal P w K mg base 4 "_law_members_right" (sp_membersR CS CP) := by
  have c_l_is_list : Cal P w K mg base 2 "_law_is_list" sp_lislist := ok_lislist T
  have c_l_first_members : Cal P w K mg base 1 "_law_first_members" sp_first := ok_first T
  have cMem : MCal P w K mg base 3 CP "members" (sp_mem CS CP) := ok_mem T
  refine T.d_members_right.cal sc_lmembersright (fun vs H Q E h => ?_) (fun cdv f A outer s H vs Q E hr h => ?_)
  · obtain ⟨fa, dv, du, pvs, ds, ws, dn, db, its, cs, m, rfl, _⟩ := h
    rfl
  · obtain ⟨fa, dv, du, pvs, ds, ws, dn, db, its, cs, m, rfl, hfa, hPc, hD, hdu, hW, hds, hli, hok, hm, q⟩ := h
    obtain ⟨sa, l, dus, rfl, hsa, hl, hSd⟩ := id hD
    refine ⟨_, (pss_cons (ps_set (i := 4) sc_lmembersright.nd rfl (by first | exact Or.inl rfl | exact Or.inr rfl) (pe_callTy call_int1 (by rfl) T.int_ (by decide +kernel) (pa_cons (pe_ix ix_tup (pv 1) pe_int (fun _ _ => rfl)) pa_nil)))
      (pss_cons (ps_set (i := 5) sc_lmembersright.nd rfl (by first | exact Or.inl rfl | exact Or.inr rfl) (pe_lst pa_nil))
      (pss_cons (ps_if (pt_cmpR op_eq (pv 4) pe_int (nomark _)) (pss_cons (ps_set (i := 5) sc_lmembersright.nd rfl (by first | exact Or.inl rfl | exact Or.inr rfl) (pe_slice sl_list (pe_lst (pa_cons pe_non pa_nil)) po_none (po_some (pv 3))))
      (pss_one (ps_if (pt_not (pt_val (pe_c c_l_is_list hr (by decide) (by rfl) (pa_cons (pe_ms (pe_ix ix_list (pv 0) pe_int (fun _ _ => rfl)) T.Pc.cl cMem hr (by decide) (pa_cons (pv 3) pa_nil)) (pa_cons (pv 5) pa_nil))))) (pss_one (ps_ret pe_bl)) pss_nil))) pss_nil)
      (pss_cons (ps_for PassesOwn.never rfl (pi_range1 rfl T.range_ (pa_cons (pe_callB call_len_seq (by rfl) T.len_ PySem.boot_len (pa_cons (pv 2) pa_nil)) pa_nil)) (pg_name (i := 6) sc_lmembersright.nd rfl (by first | exact Or.inl rfl | exact Or.inr rfl)) (pss_cons (ps_set (i := 7) sc_lmembersright.nd rfl (by first | exact Or.inl rfl | exact Or.inr rfl) (pe_c c_l_first_members hr (by decide) (by rfl) (pa_cons (pe_ix ix_tup (pe_ix ix_list (pv 2) (pv 6) (fun _ _ => rfl)) pe_int (fun _ _ => rfl)) (pa_cons (pe_ix ix_tup (pe_ix ix_list (pv 2) (pv 6) (fun _ _ => rfl)) pe_int (fun _ _ => rfl)) (pa_cons (pv 3) pa_nil)))))
      (pss_cons (ps_set (i := 8) sc_lmembersright.nd rfl (by first | exact Or.inl rfl | exact Or.inr rfl) (pe_ms (pe_ix ix_list (pv 0) (pe_op op_add (pv 6) (pv 4)) (fun _ _ => rfl)) T.Pc.cl cMem hr (by decide) (pa_cons (pv 3) pa_nil)))
      (pss_cons (ps_if (pt_not (pt_val (pe_c c_l_is_list hr (by decide) (by rfl) (pa_cons (pv 8) (pa_cons (pv 7) pa_nil))))) (pss_one (ps_ret pe_bl)) pss_nil)
      (pss_cons (ps_expr (pe_bm PySem.F.plainAttrs_list PySem.F.slot_list_append PySem.F.type_list_append mt_append (pv 8) (pa_cons pe_non pa_nil)))
      (pss_cons (ps_if (pt_not (pt_val (pe_c c_l_is_list hr (by decide) (by rfl) (pa_cons (pe_ms (pe_ix ix_list (pv 0) (pe_op op_add (pv 6) (pv 4)) (fun _ _ => rfl)) T.Pc.cl cMem hr (by decide) (pa_cons (pv 3) pa_nil)) (pa_cons (pv 7) pa_nil))))) (pss_one (ps_ret pe_bl)) pss_nil)
      (pss_one (ps_set (i := 5) sc_lmembersright.nd rfl (by first | exact Or.inl rfl | exact Or.inr rfl) (pe_op op_cat (pv 5) (pv 7))))))))))
      (pss_one (ps_ret (pv 5))))))), ?_⟩
    have lws : ws.length = its.length := plen hW
    have lnon : (nonP db cs).length = (if db then 1 else 0) := by
      unfold nonP
      cases db <;> rfl
    have lO : ∀ (ns : List Sx), (mO ns m).length ≤ 100000 := fun ns => by
      have := mO_len ns m
      omega
    refine q_asg (v := .int (if db then 1 else 0)) (ev_intB (ev_ixT (ev_var rfl) ev_c hsa rfl)) fun H1 e1 => ?_
    refine q_asgN (en_l (el_lst ea_nil (Nat.zero_le _))) fun t0 H2 ht0 e2 ht2 => ?_
    have e12 := e1.trans e2
    refine q_whenS (fun σ' H3 => ∃ tl, Ex H H3 ∧ H3 tl = some (.lst ((nonP db cs).flatMap fun d => mL d.1 m)) ∧ H tl = none ∧ σ' = [some (.ref fa), some (.ref sa), some (.ref du), some (.int (m : Int)), some (.int (if db then 1 else 0)), some (.ref tl), none, none, none]) (b := decide (V.int (if db then 1 else 0) = V.int 1)) (et_T (ev_eq (ev_var rfl) ev_c rfl)) (fun hb H3 e3 D' kd => ?_) (fun hb H3 e3 => ?_) ?_
    · have hdb : db = true := by
        cases db with
        | true => rfl
        | false => cases hb
      subst hdb
      have e13 := e12.trans e3
      refine q_asgN (en_noneCut rfl) fun tl H4 htl e4 h4 => ?_
      have hn : ds[0]? = some ([], true, colC cs none) := by
        rw [hds]
        rfl
      obtain ⟨pv, hpv, hPa⟩ := pget' hPc hn
      have e14 := e13.trans e4
      refine s_when (b := !true) (et_not (et_V (ev_isl (os := mO [] m) (en_mem (CS := CS) (ns := []) (ev_ixL (v := pv) (ev_var rfl) ev_c (e14 _ _ hfa) (atI_nat (j := 0) hpv)) rfl (hPa.ex e14) (.inl ⟨rfl, rfl⟩) (by omega)) (fun p H' h => by rw [← mL_mO]; exact h) (ev_var rfl) (by rw [← mL_mO]; exact h4) (lO _)))) (fun hb => nomatch hb) (fun _ H5 e5 => kd _ H5 ⟨tl, e14.trans e5, ?_, fresh_back e13 htl, rfl⟩)
      show H5 tl = some (.lst ((nonP true cs).flatMap fun d => mL d.1 m))
      have : (nonP true cs).flatMap (fun d => mL d.1 m) = mL [] m := by
        show [(([], true, colC cs none) : Pd)].flatMap (fun d => mL d.1 m) = _
        rw [List.flatMap_cons, List.flatMap_nil, List.append_nil]
      rw [this]
      exact e5 _ _ h4
    · have hdb : db = false := by
        cases db with
        | false => rfl
        | true => cases hb
      subst hdb
      exact ⟨t0, e12.trans e3, e3 _ _ ht2, fresh_back e1 ht0, rfl⟩
    rintro σ3 H3 ⟨tl, eH3, htl, htl0, rfl⟩
    refine q_forR1 (ea_cons (ev_lenL (ev_var rfl) (eH3 _ _ hdu)) ea_nil) ⟨by omega, by omega⟩ (fun i σ' H' => ∃ tl o6 o7 o8, σ' = [some (.ref fa), some (.ref sa), some (.ref du), some (.int (m : Int)), some (.int (if db then 1 else 0)), some (.ref tl), o6, o7, o8] ∧ Ex H H' ∧ H tl = none ∧ H' tl = some (.lst ((nonP db cs ++ (its.take i).map itP).flatMap fun d => mL d.1 m)))
      (fun H4 e4 => ⟨tl, none, none, none, rfl, eH3.trans e4, htl0, by simpa using e4 _ _ htl⟩) ?_ ?_
    · rintro i σ' H' hi ⟨tl, o6, o7, o8, rfl, eH, htl0, htl⟩
      have hi' : i < ws.length := by omega
      obtain ⟨t, ht, ta, c, etv, h3, hc⟩ := pget hW (List.getElem?_eq_getElem hi')
      have hn : ds[i + (if db then 1 else 0)]? = some (itP t) := by
        rw [hds]
        have : (nonP db cs).length = (if db then 1 else 0) := lnon
        rw [List.getElem?_append_right (by rw [this]; omega), this, Nat.add_sub_cancel, List.getElem?_map, ht]
        rfl
      obtain ⟨pv, hpv, hPa⟩ := pget' hPc hn
      have hidx : ((i : Int) + (if db then 1 else 0)) = ((i + (if db then 1 else 0) : Nat) : Int) := by
        cases db <;> simp
      obtain ⟨hok1, hok2⟩ := hok t (List.mem_iff_getElem?.mpr ⟨i, ht⟩)
      have evD : ∀ {σ : L2.St} {H1 : Hp}, Ex H H1 → σ[2]? = some (some (.ref du)) → σ[6]? = some (some (.int (i : Int))) → Ev (tOp (rIxL K) (tVar 2) (tVar 6)) σ H1 (.ref ta) := fun e h2 h6 => ev_ixL (ev_var h2) (ev_var h6) (e _ _ hdu) (atI_nat (by rw [List.getElem?_eq_getElem hi', etv]))
      have evP : ∀ {σ : L2.St} {H1 : Hp}, Ex H H1 → σ[0]? = some (some (.ref fa)) → σ[6]? = some (some (.int (i : Int))) → σ[4]? = some (some (.int (if db then 1 else 0))) → Ev (tOp (rIxL K) (tVar 0) (tOp (rI0 fun i j => .int (i + j)) (tVar 6) (tVar 4))) σ H1 pv := fun e h0 h6 h4 => ev_ixL (v := pv) (ev_var h0) (ev_I (g := fun i j => .int (i + j)) (ev_var h6) (ev_var h4)) (e _ _ hfa) (by rw [hidx]; exact atI_nat hpv)
      have okp : OkP [(t.1, t.2.1)] false := .inr ⟨_, rfl, rfl, hok1⟩
      have emO : ∀ {xs : List V}, xs = (members (t.1, t.2.1) m).map V.int → xs = (mO [(t.1, t.2.1)] m).map oV := fun h => by rw [h, ← mL_mO]; rfl
      refine q_asgN (P := fun p H' => H' p = some (.lst ((mO [(t.1, t.2.1)] m).map oV))) (en_cl (ea_cons (ev_ixT (evD eH rfl rfl) ev_c (eH _ _ h3) rfl) (ea_cons (ev_ixT (evD eH rfl rfl) ev_c (eH _ _ h3) rfl) (ea_cons (ev_var rfl) ea_nil))) fun H1 e Q q => ⟨t.1, t.2.1, m, rfl, hok1, hok2, hm, fun p H2 hp e2 h2 => q p H2 hp e2 (by rw [← emO rfl]; exact h2)⟩) fun mb H4 hmb e4 h4 => ?_
      have e04 := eH.trans e4
      refine q_asgN (en_mem (CS := CS) (ns := [(t.1, t.2.1)]) (evP e04 rfl rfl rfl) rfl (hPa.ex e04) okp (by omega)) fun an H5 han e5 h5 => ?_
      have e05 := e04.trans e5
      have nma : mb ≠ an := fun z => by
        rw [← z, h4] at han
        cases han
      refine q_when (b := !true) (et_not (et_V ?_)) (fun hb => nomatch hb) (fun _ H6 e6 => ?_)
      · exact ev_cl (ea_cons (ev_var (i := 8) rfl) (ea_cons (ev_var (i := 7) rfl) ea_nil)) fun H6 e6 Q k => ⟨an, mb, mO [(t.1, t.2.1)] m, rfl, by rw [← mL_mO]; exact e6 _ _ h5, e6 _ _ (e5 _ _ h4), lO _, k⟩
      have h56 := e6 _ _ h5
      refine q_app h56 (ev_var (i := 8) rfl) ev_c (by have := mL_len [(t.1, t.2.1)] m; omega) fun H7 e7 => ?_
      have hanH : H an = none := fresh_back e04 han
      have e08 : Ex H (upd H7 an (.lst (mL [(t.1, t.2.1)] m ++ [.non]))) := Ex.mut ((e05.trans e6).trans e7) hanH
      have ntla : tl ≠ an := fun z => by
        rw [← z, e4 _ _ htl] at han
        cases han
      have h8m : (upd H7 an (.lst (mL [(t.1, t.2.1)] m ++ [.non]))) mb = some (.lst ((mO [(t.1, t.2.1)] m).map oV)) := by
        rw [upd_ne nma]
        exact ((e5.trans e6).trans e7) _ _ h4
      have h8t : (upd H7 an (.lst (mL [(t.1, t.2.1)] m ++ [.non]))) tl = some (.lst ((nonP db cs ++ (its.take i).map itP).flatMap fun d => mL d.1 m)) := by
        rw [upd_ne ntla]
        exact (((e4.trans e5).trans e6).trans e7) _ _ htl
      generalize upd H7 an (.lst (mL [(t.1, t.2.1)] m ++ [.non])) = H8 at e08 h8m h8t
      refine q_when (b := !true) (et_not (et_V (ev_isl (os := mO [(t.1, t.2.1)] m) (en_mem (CS := CS) (ns := [(t.1, t.2.1)]) (evP e08 rfl rfl rfl) rfl (hPa.ex e08) okp (by omega)) (fun p H' h => by rw [← mL_mO]; exact h) (ev_var (i := 7) rfl) h8m (lO _)))) (fun hb => nomatch hb) (fun _ H9 e9 => ?_)
      refine s_asgN (en_l (el_catE (ev_var rfl) (e9 _ _ h8t) (ev_var rfl) (e9 _ _ h8m) ?_)) fun tl2 H10 htl2 e10 h10 => ⟨tl2, _, _, _, rfl, (e08.trans e9).trans e10, fresh_back (e08.trans e9) htl2, ?_⟩
      · have a1 := flatL_le (f := fun d : Pd => mL d.1 m) (m := m) (ds := nonP db cs ++ (its.take i).map itP) fun d _ => mL_len _ _
        have a2 : (nonP db cs ++ (its.take i).map itP).length ≤ 101 := by
          rw [List.length_append, List.length_map, List.length_take, lnon]
          split <;> omega
        have a3 : (nonP db cs ++ (its.take i).map itP).length * m ≤ 101 * 100 := Nat.mul_le_mul a2 hm
        have a4 := mO_len [(t.1, t.2.1)] m
        rw [List.length_map]
        omega
      · rw [h10, ← mL_mO, take_get ht, List.map_append, ← List.append_assoc, List.flatMap_append]
        have e1 : (List.map itP [t]).flatMap (fun d => mL d.1 m) = mL [(t.1, t.2.1)] m := by
          show [itP t].flatMap (fun d => mL d.1 m) = _
          rw [List.flatMap_cons, List.flatMap_nil, List.append_nil]
          rfl
        rw [List.flatMap_append (xs := nonP db cs ++ _), e1, List.flatMap_append]
    · rintro σ' H' ⟨tl, o6, o7, o8, rfl, eH, htl0, htl⟩
      have e : ((ws.length : Int)).toNat = ws.length := by omega
      rw [e, lws, List.take_length, ← hds] at htl
      exact s_ret (ev_var rfl) fun H4 e4 => q tl H4 htl0 (eH.trans e4) (e4 _ _ htl)
end
end K3

/-! K3U: place, parted. -/
namespace K3
open PySem PySem.Spec PyProof.Rows L2 Evl SlX
theorem neDK {X : Cx} {K : PySem.W.Frag} (h : X.K = K) (hu : X.A.units + 64 < cLine) : OpR X (compareOp .NotEq) (rNeD K) := h ▸ op_neD hu
theorem given_one {n k : Nat} (v : Nat → V) (h : k < n) : given n (fun i => decide (i = k)) v = [v k] := by
  unfold given
  have : (List.range n).filter (fun i => decide (i = k)) = [k] := by
    have h1 := List.nodup_range (n := n)
    have h2 : k ∈ List.range n := List.mem_range.mpr h
    have h3 : ∀ x, x ∈ (List.range n).filter (fun i => decide (i = k)) ↔ x = k := fun x => by
      rw [List.mem_filter]
      constructor
      · intro z
        exact of_decide_eq_true z.2
      · rintro rfl
        exact ⟨h2, decide_eq_true rfl⟩
    have h4 := h1.filter (fun i => decide (i = k))
    generalize (List.range n).filter (fun i => decide (i = k)) = l at h3 h4
    cases l with
    | nil => exact absurd ((h3 k).mpr rfl) (by simp)
    | cons a r =>
      have ea := (h3 a).mp List.mem_cons_self
      cases r with
      | nil => rw [ea]
      | cons b r =>
        have eb := (h3 b).mp (by simp)
        rw [ea, eb] at h4
        simp at h4
  rw [this]
  rfl
theorem given_filter {α : Type} (p : α → Bool) (f : α → V) (d : α) (xs : List α) : given xs.length (fun i => p (xs.getD i d)) (fun i => f (xs.getD i d)) = (xs.filter p).map f := by
  unfold given
  have h : xs = (List.range xs.length).map (fun k => xs.getD k d) := by
    apply List.ext_getElem?
    intro i
    by_cases hi : i < xs.length
    · rw [List.getElem?_map, List.getElem?_range hi]
      show xs[i]? = some (xs.getD i d)
      rw [List.getD_eq_getElem?_getD, List.getElem?_eq_getElem hi]
      rfl
    · rw [List.getElem?_eq_none (by simpa using hi), List.getElem?_eq_none (by simpa using hi)]
  conv => rhs; rw [h]
  rw [List.filter_map, List.map_map]
  rfl
theorem map_get {α : Type} {f : α → V} {xs : List α} {i : Nat} {y : V} (h : (xs.map f)[i]? = some y) : ∃ x, xs[i]? = some x ∧ f x = y := by
  rw [List.getElem?_map] at h
  cases e : xs[i]? with
  | none => rw [e] at h; cases h
  | some x =>
    rw [e] at h
    exact ⟨x, rfl, Option.some.inj h⟩
section
variable {K : PySem.W.Frag} {σ : L2.St} {H : Hp} {ta tb te : TE} {a b : Addr} {xs : List V}
theorem et_truN (h : EvL te σ H xs) : EvT (fun σ H Q => te σ H fun x H' => ∃ k, TruV K x H' k ∧ Q k H') σ H (!xs.isEmpty) := fun H1 e Q q => h H1 e _ fun p H2 hp e2 h2 => ⟨_, .inl ⟨xs, SqL.of h2, rfl⟩, q H2 e2⟩
theorem ev_eqLN {as bs : List Bool} (ha : EvN ta σ H (fun t H' => H' t = some (.lst (as.map V.bl)))) (hb : ∀ H1, Ex H H1 → EvN tb σ H1 (fun t H' => H' t = some (.lst (bs.map V.bl)))) : Ev (tOp (rEqD K) ta tb) σ H (.bl (decide (as = bs))) := fun H1 e Q q =>
  ha H1 e _ fun p H2 hp e2 h2 => hb H2 (e.trans e2) H2 (Ex.refl _) _ fun r H3 hr e3 h3 => by
    have e4 : PyData.eqv (.list (as.map PyData.bool)) (.list (bs.map PyData.bool)) = decide (as = bs) := by
      simp only [PyData.eqv]
      exact eqv_all _ eqv_b as bs
    refine ⟨.list (as.map .bool), .list (bs.map .bool), .lst (SqL.of (e3 _ _ h2)) (dp_bs as), .lst (SqL.of h3) (dp_bs bs), shaped_l _ lay_b _, shaped_l _ lay_b _, ?_⟩
    rw [e4]
    exact q H3 (e2.trans e3)
theorem ev_eqTB {as bs : List Bool} (ha : Ev ta σ H (.ref a)) (hb : Ev tb σ H (.ref b)) (h1 : H a = some (.tup (as.map V.bl))) (h2 : H b = some (.tup (bs.map V.bl))) : Ev (tOp (rEqD K) ta tb) σ H (.bl (decide (as = bs))) := by
  have e : PyData.eqv (.tuple (as.map PyData.bool)) (.tuple (bs.map PyData.bool)) = decide (as = bs) := by
    simp only [PyData.eqv]
    exact eqv_all _ eqv_b as bs
  rw [← e]
  exact ev_eqD ha hb (fun H1 e => .tup (SqT.of (e _ _ h1)) (dp_bs as)) (fun H1 e => .tup (SqT.of (e _ _ h2)) (dp_bs bs)) (shaped_t _ lay_b _) (shaped_t _ lay_b _)
theorem ev_neLN {os ps : List (Option Int)} (ha : Ev ta σ H (.ref a)) (h1 : H a = some (.lst (os.map oV))) (hb : ∀ H1, Ex H H1 → EvL tb σ H1 (ps.map oV)) : Ev (tOp (rNeD K) ta tb) σ H (.bl (!decide (os = ps))) := fun H1 e Q q =>
  ha H1 e _ fun H2 e2 => hb H2 (e.trans e2) H2 (Ex.refl _) _ fun r H3 hr e3 h3 => by
    have e4 : PyData.eqv (.list (os.map dO)) (.list (ps.map dO)) = decide (os = ps) := by
      simp only [PyData.eqv]
      exact eqv_all _ eqv_o os ps
    refine ⟨.list (os.map dO), .list (ps.map dO), .lst (SqL.of (((e.trans e2).trans e3) _ _ h1)) (dp_os os), .lst (SqL.of h3) (dp_os ps), shaped_l _ lay_o _, shaped_l _ lay_o _, ?_⟩
    rw [e4]
    exact q H3 (e2.trans e3)
theorem scal_o (a b : Option Int) : scal (oV a) (oV b) = true := by cases a <;> cases b <;> rfl
theorem dec_o (a b : Option Int) : decide (oV a = oV b) = decide (a = b) := by
  by_cases h : a = b
  · rw [h, decide_eq_true rfl, decide_eq_true rfl]
  · rw [decide_eq_false h, decide_eq_false (fun z => h (oV_inj z))]
end
section
variable {P : Program} {w : World} {K : PySem.W.Frag} {mg : Str → Option Value} {base : Heap} {CS CP : Addr}
def sp_place (CS CP : Addr) : Sp := fun vs H Q _ => ∃ fa c pvs ds, ∃ k : Nat, vs = [.ref fa, oV c] ∧ H fa = some (.lst pvs) ∧ Pcs CS CP H pvs ds ∧ ds.length ≤ 1000 ∧ k < ds.length ∧ (∀ j d, ds[j]? = some d → inC d.1 d.2.1 c = decide (j = k)) ∧ RetV (.int (k : Int)) H Q
theorem ok_place (T : Txt K mg CS CP) : Cal P w K mg base 3 "_law_place" (sp_place CS CP) := by
  have cCon : MCal P w K mg base 2 CS "__contains__" (sp_con CS) := ok_con T
  obtain ⟨p0, hp0⟩ := T.p0
  refine T.d_place.cal sc_lplace (fun vs H Q E h => ?_) (fun cdv f A outer s H vs Q E hr h => ?_)
  · obtain ⟨fa, c, pvs, ds, k, rfl, _⟩ := h
    rfl
  · obtain ⟨fa, c, pvs, ds, k, rfl, hfa, hPc, hl, hk, hu, q⟩ := h
    have lp : pvs.length = ds.length := plen hPc
    refine ⟨_, (pss_cons (ps_setLc (i := 2) (own := [("_law_k", 3)]) (g := gName 3) rfl sc_lplace.nd rfl rfl (sw_true rfl rfl rfl (by decide +kernel)) (pi_range1 rfl T.range_ (pa_cons (pe_callB call_len_seq (by rfl) T.len_ PySem.boot_len (pa_cons (pv 0) pa_nil)) pa_nil)) (blkOk_by (own := [("_law_k", 3)]) (N := n_lplace) (sc := defScope s_lplace) (by decide +kernel)) (fun _ _ _ _ _ => pg_name (i := 3) sc_lplace.nd rfl (by first | exact Or.inl rfl | exact Or.inr rfl)) (fun _ _ _ _ _ => (pts_one (pt_cmpR (op_in cCon hr (by decide)) (pv 1) (pe_slK (K := K) rfl (pe_ix (ixlK (K := K) rfl) (pv 0) (pv 3) (fun _ _ => rfl))) (by rfl)))) (fun _ _ _ _ _ => (pv 3)))
      (pss_cons (ps_if (pt_cmpR op_ne (pe_callB call_len_seq (by rfl) T.len_ PySem.boot_len (pa_cons (pv 2) pa_nil)) pe_int (nomark _)) (pss_one (ps_ret (pe_un un_neg pe_int))) pss_nil)
      (pss_one (ps_ret (pe_ix ix_list (pv 2) pe_int (fun _ _ => rfl)))))), ?_⟩
    refine q_asgL (xs := [.int (k : Int)]) ?_ fun l H1 hl1 e1 h1 => ?_
    · rw [← given_one (n := ((pvs.length : Int)).toNat) (fun i => V.int (i : Int)) (by omega)]
      refine el_lcR1 (j := 3) (vs := [3]) (n := (pvs.length : Int)) (fun i => decide (i = k)) (fun i => V.int (i : Int)) (ea_cons (ev_lenL (ev_var rfl) hfa) ea_nil) ⟨by omega, by omega⟩ (fun _ => rfl) (fun i H5 e5 hi => ?_) (fun i H5 e5 hi _ => ev_var rfl)
      have hi' : i < pvs.length := by omega
      obtain ⟨d, hd, hP⟩ := pget hPc (List.getElem?_eq_getElem hi')
      rw [← hu i d hd]
      obtain ⟨a, dx, sv, cc, ea, hA, hSp, hc⟩ := id hP
      exact et_T (ev_in (ev_var rfl) (ev_sl (v := sv) (ev_ixL (v := .ref a) (ev_var rfl) (ev_var rfl) (e5 _ _ hfa) (atI_nat (by rw [List.getElem?_eq_getElem hi', ea]))) ⟨e5 _ _ hA.1, e5 _ _ hA.2⟩ T.Pc.cl hp0 rfl) (hSp.ex e5))
    · refine q_when (b := !decide (V.int (([V.int (k : Int)].length : Nat) : Int) = V.int 1)) (et_T (ev_ne (ev_lenL (ev_var rfl) h1) ev_c rfl)) (fun hb => nomatch hb) (fun _ H2 e2 => ?_)
      exact s_ret (ev_ixL (ev_var rfl) ev_c (e2 _ _ h1) rfl) fun H3 e3 => q H3 ((e1.trans e2).trans e3)
def fewO (ds : List Pd) : List (Option Int) := ds.flatMap fun d => mO d.1 2
structure PartOk (ds : List Pd) (cs : List Rs) (cts : List (Option Int)) : Prop where
  one : ∀ c ∈ cts, ∃ (k : Nat) (d : Pd), ds[k]? = some d ∧ (∀ j e, ds[j]? = some e → inC e.1 e.2.1 c = decide (j = k)) ∧ d.2.2 = colC cs c
  mine : ∀ c ∈ cts, ∀ d ∈ ds, inC d.1 d.2.1 c = true → (fewO ds).filter (inC d.1 d.2.1) ≠ []
  two : ∀ c ∈ cts, ∀ c' ∈ cts, c ≠ c' → ∀ d ∈ ds, ∀ d' ∈ ds, inC d.1 d.2.1 c = true → inC d'.1 d'.2.1 c' = true → ∃ x ∈ (fewO ds).filter (inC d.1 d.2.1), (fewO ds).filter (inC d'.1 d'.2.1) ≠ [x]
def sp_parted (CS CP : Addr) : Sp := fun vs H Q _ => ∃ fa co ca fw pvs ds, ∃ cts : List (Option Int), ∃ us cs, vs = [.ref fa, .ref co, .ref ca, .ref fw] ∧ H fa = some (.lst pvs) ∧ Pcs CS CP H pvs ds ∧ ds.length ≤ 1000 ∧ H co = some (.lst (cts.map oV)) ∧ H ca = some (.lst us) ∧ Rws H us cs ∧ cs.length ≤ 1000 ∧
  H fw = some (.lst ((fewO ds).map oV)) ∧ PartOk ds cs cts ∧ RetV (.bl true) H Q
theorem ok_parted (T : Txt K mg CS CP) : Cal P w K mg base 4 "_law_parted" (sp_parted CS CP) := by
  have cCon : MCal P w K mg base 2 CS "__contains__" (sp_con CS) := ok_con T
  have c_l_place : Cal P w K mg base 3 "_law_place" (sp_place CS CP) := ok_place T
  have c_l_colour : Cal P w K mg base 2 "_law_colour" sp_lcolour := ok_lcolour T
  obtain ⟨p0, hp0⟩ := T.p0
  obtain ⟨p1, hp1⟩ := T.p1
  refine T.d_parted.cal sc_lparted (fun vs H Q E h => ?_) (fun cdv f A outer s H vs Q E hr h => ?_)
  · obtain ⟨fa, co, ca, fw, pvs, ds, cts, us, cs, rfl, _⟩ := h
    rfl
  · obtain ⟨fa, co, ca, fw, pvs, ds, cts, us, cs, rfl, hfa, hPc, hl, hco, hca, hR, hlc, hfw, hok, q⟩ := h
    have lp : pvs.length = ds.length := plen hPc
    have lf : (fewO ds).length ≤ 2000 := by
      have := flatL_le (f := fun d : Pd => mL d.1 2) (m := 2) (ds := ds) fun d _ => mL_len _ _
      have e : ds.flatMap (fun d : Pd => mL d.1 2) = (fewO ds).map oV := by
        unfold fewO
        rw [List.map_flatMap]
        congr 1
        funext d
        exact mL_mO _ _
      rw [e, List.length_map] at this
      omega
    refine ⟨_, (pss_cons (ps_for PassesOwn.never rfl (pi_list (pv 1)) (pg_name (i := 4) sc_lparted.nd rfl (by first | exact Or.inl rfl | exact Or.inr rfl)) (pss_one (ps_for PassesOwn.never rfl (pi_list (pv 1)) (pg_name (i := 5) sc_lparted.nd rfl (by first | exact Or.inl rfl | exact Or.inr rfl)) (pss_cons (ps_set (i := 6) sc_lparted.nd rfl (by first | exact Or.inl rfl | exact Or.inr rfl) (pe_c c_l_place hr (by decide) (by rfl) (pa_cons (pv 0) (pa_cons (pv 4) pa_nil))))
      (pss_cons (ps_set (i := 7) sc_lparted.nd rfl (by first | exact Or.inl rfl | exact Or.inr rfl) (pe_c c_l_place hr (by decide) (by rfl) (pa_cons (pv 0) (pa_cons (pv 5) pa_nil))))
      (pss_cons (ps_if (PW.pt (pw_or (pt_cmpR op_lt (pv 6) pe_int (nomark _)) (pw_or1 (pt_cmpR op_lt (pv 7) pe_int (nomark _))))) (pss_one (ps_ret pe_bl)) pss_nil)
      (pss_cons (ps_set (i := 8) sc_lparted.nd rfl (by first | exact Or.inl rfl | exact Or.inr rfl) (pe_cmpR (op_eqD hr.units) (pe_c c_l_colour hr (by decide) (by rfl) (pa_cons (pv 2) (pa_cons (pv 4) pa_nil))) (pe_c c_l_colour hr (by decide) (by rfl) (pa_cons (pv 2) (pa_cons (pv 5) pa_nil))) (nomark _)))
      (pss_cons (ps_if (pt_cmpR op_ne (pe_cmpR (op_eqD hr.units) (SlX.pe_sl (pe_ix ix_list (pv 0) (pv 6) (fun _ _ => rfl))) (SlX.pe_sl (pe_ix ix_list (pv 0) (pv 7) (fun _ _ => rfl))) (nomark _)) (pv 8) (nomark _)) (pss_one (ps_ret pe_bl)) pss_nil)
      (pss_cons (ps_setLc (i := 9) (own := [("_law_content", 10)]) (g := gName 10) rfl sc_lparted.nd rfl rfl (sw_true rfl rfl rfl (by decide +kernel)) (pi_list (pv 3)) (blkOk_by (own := [("_law_content", 10)]) (N := n_lparted) (sc := defScope s_lparted) (by decide +kernel)) (fun _ _ _ _ _ => pg_name (i := 10) sc_lparted.nd rfl (by first | exact Or.inl rfl | exact Or.inr rfl)) (fun _ _ _ _ _ => (pts_one (pt_cmpR (op_in cCon hr (by decide)) (pv 10) (pe_slK (K := K) rfl (pe_ix (ixlK (K := K) rfl) (pv 0) (pv 6) (fun _ _ => rfl))) (by rfl)))) (fun _ _ _ _ _ => (pv 10)))
      (pss_cons (ps_set (i := 11) sc_lparted.nd rfl (by first | exact Or.inl rfl | exact Or.inr rfl) (pe_lc (own := [("_law_content", 10)]) (g := gName 10) rfl sc_lparted.nd (pi_list (pv 3)) (blkOk_by (own := [("_law_content", 10)]) (N := n_lparted) (sc := defScope s_lparted) (by decide +kernel)) (fun _ _ _ _ _ => pg_name (i := 10) sc_lparted.nd rfl (by first | exact Or.inl rfl | exact Or.inr rfl)) (fun _ _ _ _ _ => (pts_one (pt_cmpR (op_in cCon hr (by decide)) (pv 10) (pe_slK (K := K) rfl (pe_ix (ixlK (K := K) rfl) (pv 0) (pv 7) (fun _ _ => rfl))) (by rfl)))) (fun _ _ _ _ _ => (pv 10))))
      (pss_cons (ps_if (PW.pt (pw_and (pt_cmpR op_ne (pv 4) (pv 5) (nomark _)) (pw_and1 (pt_not (pt_truth (pe_lc (own := [("_law_content", 10)]) (g := gName 10) rfl sc_lparted.nd (pi_list (pv 9)) (blkOk_by (own := [("_law_content", 10)]) (N := n_lparted) (sc := defScope s_lparted) (by decide +kernel)) (fun _ _ _ _ _ => pg_name (i := 10) sc_lparted.nd rfl (by first | exact Or.inl rfl | exact Or.inr rfl)) (fun _ _ _ _ _ => (pts_one (pt_cmpR (neDK (K := K) rfl hr.units) (pv 11) (pe_lst (pa_cons (pv 10) pa_nil)) (nomark _)))) (fun _ _ _ _ _ => (pv 10))) (by intro _; rfl)))))) (pss_one (ps_ret pe_bl)) pss_nil)
      (pss_one (ps_if (PW.pt (pw_or (pt_not (pt_truth (pv 9) (by intro _; rfl))) (pw_or1 (pt_not (pt_truth (pv 11) (by intro _; rfl)))))) (pss_one (ps_ret pe_bl)) pss_nil)))))))))))))
      (pss_one (ps_ret pe_bl))), ?_⟩
    refine q_forL (ev_var (i := 1) rfl) (SqL.of hco) (fun i σ' H' => ∃ o4 o5 o6 o7 o8 o9 o10 o11, σ' = [some (.ref fa), some (.ref co), some (.ref ca), some (.ref fw), o4, o5, o6, o7, o8, o9, o10, o11] ∧ Ex H H') (fun H1 e1 => ⟨none, none, none, none, none, none, none, none, rfl, e1⟩) (fun i σ' H' _ ⟨_, _, _, _, _, _, _, _, _, e⟩ => SqL.of (e _ _ hco)) ?_ ?_
    · rintro i y σ' H' hi ⟨o4, o5, o6, o7, o8, o9, o10, o11, rfl, eH⟩
      obtain ⟨c1, hc1, rfl⟩ := map_get hi
      have m1 : c1 ∈ cts := List.mem_iff_getElem?.mpr ⟨i, hc1⟩
      refine s_forL (ev_var (i := 1) rfl) (SqL.of (eH _ _ hco)) (fun i σ' H' => ∃ o5 o6 o7 o8 o9 o10 o11, σ' = [some (.ref fa), some (.ref co), some (.ref ca), some (.ref fw), some (oV c1), o5, o6, o7, o8, o9, o10, o11] ∧ Ex H H') (fun H1 e1 => ⟨_, _, _, _, _, _, _, rfl, eH.trans e1⟩) (fun i σ' H' _ ⟨_, _, _, _, _, _, _, _, e⟩ => SqL.of (e _ _ hco)) ?_ ?_
      · clear eH hi o4 o5 o6 o7 o8 o9 o10 o11
        rintro i y σ' H' hi ⟨o5, o6, o7, o8, o9, o10, o11, rfl, eH⟩
        obtain ⟨c2, hc2, rfl⟩ := map_get hi
        have m2 : c2 ∈ cts := List.mem_iff_getElem?.mpr ⟨i, hc2⟩
        obtain ⟨k1, d1, hd1, hu1, hcol1⟩ := hok.one c1 m1
        obtain ⟨k2, d2, hd2, hu2, hcol2⟩ := hok.one c2 m2
        have md1 : d1 ∈ ds := List.mem_iff_getElem?.mpr ⟨k1, hd1⟩
        have md2 : d2 ∈ ds := List.mem_iff_getElem?.mpr ⟨k2, hd2⟩
        have in1 : inC d1.1 d1.2.1 c1 = true := by rw [hu1 k1 d1 hd1]; exact decide_eq_true rfl
        have in2 : inC d2.1 d2.2.1 c2 = true := by rw [hu2 k2 d2 hd2]; exact decide_eq_true rfl
        obtain ⟨pv1, hpv1, hP1⟩ := pget' hPc hd1
        obtain ⟨pv2, hpv2, hP2⟩ := pget' hPc hd2
        have plc : ∀ {σ : L2.St} {H1 : Hp} {j : Nat} {c : Option Int} {k : Nat} {d : Pd}, Ex H H1 → ds[k]? = some d → (∀ j e, ds[j]? = some e → inC e.1 e.2.1 c = decide (j = k)) → σ[0]? = some (some (.ref fa)) → σ[j]? = some (some (oV c)) → Ev (tCl (sp_place CS CP) (tCons (tVar 0) (tCons (tVar j) tNil))) σ H1 (.int (k : Int)) := fun e hd hu h0 hj =>
          ev_cl (ea_cons (ev_var h0) (ea_cons (ev_var hj) ea_nil)) fun H2 e2 Q2 q2 => ⟨fa, _, pvs, ds, _, rfl, (e.trans e2) _ _ hfa, Pcs.ex (e.trans e2) hPc, hl, (List.getElem?_eq_some_iff.mp hd).1, hu, q2⟩
        refine q_asg (plc eH hd1 hu1 rfl rfl) fun H1 e1 => ?_
        refine q_asg (plc (eH.trans e1) hd2 hu2 rfl rfl) fun H2 e2 => ?_
        refine q_when (b := decide ((k1 : Int) < 0) || decide ((k2 : Int) < 0)) (et_or (et_T (ev_I (g := fun i j => .bl (decide (i < j))) (ev_var rfl) ev_c)) (fun _ => et_T (ev_I (g := fun i j => .bl (decide (i < j))) (ev_var rfl) ev_c))) (fun hb => ?_) (fun _ H3 e3 => ?_)
        · rw [decide_eq_false (by omega), decide_eq_false (by omega)] at hb
          cases hb
        have e03 := ((eH.trans e1).trans e2).trans e3
        clear e1 e2 e3 H1 H2 eH
        have colE : ∀ {σ : L2.St} {H1 : Hp} {c : Option Int} {j : Nat}, Ex H H1 → σ[2]? = some (some (.ref ca)) → σ[j]? = some (some (oV c)) → EvN (tCl sp_lcolour (tCons (tVar 2) (tCons (tVar j) tNil))) σ H1 (fun t H' => H' t = some (.lst ((colC cs c).map V.bl))) := fun e h2 hj => en_cl (ea_cons (ev_var h2) (ea_cons (ev_var hj) ea_nil)) fun H1 e1 Q q => ⟨ca, us, cs, _, rfl, (e.trans e1) _ _ hca, Rws.ex (e.trans e1) hR, by omega, q⟩
        refine q_asg (ev_eqLN (colE e03 rfl rfl) (fun H1 e1 => colE (e03.trans e1) rfl rfl)) fun H4 e4 => ?_
        have e04 := e03.trans e4
        obtain ⟨a1, dx1, sv1, cc1, rfl, hA1, hSp1, hcc1⟩ := id hP1
        obtain ⟨a2, dx2, sv2, cc2, rfl, hA2, hSp2, hcc2⟩ := id hP2
        have at1 : ∀ {σ : L2.St} {H1 : Hp}, Ex H H1 → σ[0]? = some (some (.ref fa)) → σ[6]? = some (some (.int (k1 : Int))) → Ev (tOp (rIxL K) (tVar 0) (tVar 6)) σ H1 (.ref a1) := fun e h0 h6 => ev_ixL (ev_var h0) (ev_var h6) (e _ _ hfa) (atI_nat hpv1)
        have at2 : ∀ {σ : L2.St} {H1 : Hp}, Ex H H1 → σ[0]? = some (some (.ref fa)) → σ[7]? = some (some (.int (k2 : Int))) → Ev (tOp (rIxL K) (tVar 0) (tVar 7)) σ H1 (.ref a2) := fun e h0 h6 => ev_ixL (ev_var h0) (ev_var h6) (e _ _ hfa) (atI_nat hpv2)
        refine q_when (b := !decide (V.bl (decide (d1.2.2 = d2.2.2)) = V.bl (decide (colC cs c1 = colC cs c2)))) (et_T (ev_ne (ev_eqTB (ev_sl (v := .ref cc1) (at1 e04 rfl rfl) ⟨e04 _ _ hA1.1, e04 _ _ hA1.2⟩ T.Pc.cl hp1 rfl) (ev_sl (v := .ref cc2) (at2 e04 rfl rfl) ⟨e04 _ _ hA2.1, e04 _ _ hA2.2⟩ T.Pc.cl hp1 rfl) (e04 _ _ hcc1) (e04 _ _ hcc2)) (ev_var rfl) rfl)) (fun hb => ?_) (fun _ H5 e5 => ?_)
        · rw [hcol1, hcol2, decide_eq_true rfl] at hb
          cases hb
        have e05 := e04.trans e5
        clear e4 e5 e03 e04
        have fg : ∀ {σ : L2.St} {H1 : Hp} {d : Pd} {sv : V} {a dx cc : Addr} {te : TE}, Ex H H1 → (H a = some (SlO a CP dx [some (.ref cc), some sv]) ∧ H dx = some (.xd [])) → SpAt CS H sv d.1 d.2.1 → (∀ (o : Option V) (H2 : Hp), Ex H H2 → Ev te ((wipe σ [10]).set 10 o) H2 (.ref a)) → σ[3]? = some (some (.ref fw)) → (∀ o, wipe ((wipe σ [10]).set 10 o) [10] = wipe σ [10]) → (∀ o : Option V, ((wipe σ [10]).set 10 o)[10]? = some o) →
            EvL (tLc (iList K (tVar 3)) (gName 10) (tTest (tOp (K3R.rInOwn CS false (sp_con CS) E0) (tVar 10) (tSl K te "span"))) (tVar 10) [10]) σ H1 (((fewO ds).filter (inC d.1 d.2.1)).map oV) := by
          intro σ H1 d sv a dx cc te e hA hSp hte h3 hw hv
          rw [← given_filter (inC d.1 d.2.1) oV none (fewO ds)]
          have hlen : ((fewO ds).map oV).length = (fewO ds).length := List.length_map ..
          rw [← hlen]
          refine el_gL (K := K) (fun i => inC d.1 d.2.1 ((fewO ds).getD i none)) (fun i => oV ((fewO ds).getD i none)) (fun i => (wipe σ [10]).set 10 (some (oV ((fewO ds).getD i none)))) (ev_var h3) (e _ _ hfw) (by omega) (fun i => hw _) (fun i x H2 R e2 hi k => ?_) (fun i H2 e2 hi => ?_) (fun i H2 e2 hi _ => ev_var (hv _))
          · obtain ⟨c, hc, rfl⟩ := map_get hi
            have : (fewO ds).getD i none = c := by rw [List.getD_eq_getElem?_getD, hc]; rfl
            rw [this] at k
            exact k
          · exact et_T (ev_in (ev_var (hv _)) (ev_sl (v := sv) (hte _ H2 (e.trans e2)) ⟨(e.trans e2) _ _ hA.1, (e.trans e2) _ _ hA.2⟩ T.Pc.cl hp0 rfl) (hSp.ex (e.trans e2)))
        refine q_asgL (fg (d := d1) e05 hA1 hSp1 (fun o H2 e2 => at1 e2 rfl rfl) rfl (fun _ => rfl) (fun _ => rfl)) fun mi H6 hmi e6 hmi6 => ?_
        have e06 := e05.trans e6
        refine q_asgL (fg (d := d2) e06 hA2 hSp2 (fun o H2 e2 => at2 e2 rfl rfl) rfl (fun _ => rfl) (fun _ => rfl)) fun ot H7 hot e7 hot7 => ?_
        have e07 := e06.trans e7
        have hmi7 := e7 _ _ hmi6
        have nm1 := hok.mine c1 m1 d1 md1 in1
        have nm2 := hok.mine c2 m2 d2 md2 in2
        have htwo := hok.two c1 m1 c2 m2
        generalize hM : (fewO ds).filter (inC d1.1 d1.2.1) = mine at *
        generalize hO : (fewO ds).filter (inC d2.1 d2.2.1) = others at *
        have lmi : mine.length ≤ 2000 := by
          rw [← hM]
          exact Nat.le_trans (List.length_filter_le _ _) lf
        refine q_when (b := !decide (oV c1 = oV c2) && !(!((mine.filter fun x => !decide (others = [x])).map oV).isEmpty)) (et_and (et_T (ev_ne (ev_var rfl) (ev_var rfl) (scal_o _ _))) (fun _ => et_not (et_truN ?_))) (fun hb => ?_) (fun _ H8 e8 => ?_)
        · rw [← given_filter (fun x => !decide (others = [x])) oV none mine]
          have hlen : (mine.map oV).length = mine.length := List.length_map ..
          rw [← hlen]
          refine el_gL (K := K) (fun i => !decide (others = [mine.getD i none])) (fun i => oV (mine.getD i none)) (fun i => [some (.ref fa), some (.ref co), some (.ref ca), some (.ref fw), some (oV c1), some (oV c2), some (.int (k1 : Int)), some (.int (k2 : Int)), some (.bl (decide (colC cs c1 = colC cs c2))), some (.ref mi), some (oV (mine.getD i none)), some (.ref ot)]) (ev_var (i := 9) rfl) hmi7 (by omega) (fun i => rfl) (fun i x H2 R e2 hi k => ?_) (fun i H2 e2 hi => ?_) (fun i H2 e2 hi _ => ev_var rfl)
          · obtain ⟨c, hc, rfl⟩ := map_get hi
            have : mine.getD i none = c := by rw [List.getD_eq_getElem?_getD, hc]; rfl
            rw [this] at k
            exact k
          · exact et_T (ev_neLN (ps := [mine.getD i none]) (ev_var rfl) (e2 _ _ hot7) (fun H3 e3 => el_lst (ea_cons (ev_var rfl) ea_nil) (Nat.le_of_ble_eq_true rfl)))
        · obtain ⟨hb1, hb2⟩ := Bool.and_eq_true_iff.mp hb
          rw [dec_o] at hb1
          have hne : c1 ≠ c2 := fun z => by
            rw [z, decide_eq_true rfl] at hb1
            cases hb1
          obtain ⟨x, hx, hxo⟩ := htwo hne d1 md1 d2 md2 in1 in2
          rw [hM] at hx
          rw [hO] at hxo
          have : x ∈ mine.filter fun x => !decide (others = [x]) := List.mem_filter.mpr ⟨hx, by rw [decide_eq_false hxo]; rfl⟩
          cases hf : mine.filter fun x => !decide (others = [x]) with
          | nil => rw [hf] at this; cases this
          | cons y r => rw [hf] at hb2; cases hb2
        have e08 := e07.trans e8
        refine s_when (b := !(!(mine.map oV).isEmpty) || !(!(others.map oV).isEmpty)) (et_or (et_not (et_truL (ev_var rfl) (e8 _ _ hmi7))) (fun _ => et_not (et_truL (ev_var rfl) (e8 _ _ hot7)))) (fun hb => ?_) (fun _ H9 e9 => ⟨_, _, _, _, _, _, _, rfl, e08.trans e9⟩)
        cases mine with
        | nil => exact absurd rfl nm1
        | cons _ _ => cases others with
          | nil => exact absurd rfl nm2
          | cons _ _ => cases hb
      · rintro σ' H' ⟨o5, o6, o7, o8, o9, o10, o11, rfl, eH⟩
        exact ⟨_, _, _, _, _, _, _, _, rfl, eH⟩
    · rintro σ' H' ⟨o4, o5, o6, o7, o8, o9, o10, o11, rfl, eH⟩
      exact s_ret ev_c fun H2 e2 => q H2 (eH.trans e2)
end
end K3

/-! K3X: the plain law. -/
namespace K3
open PySem PySem.Spec PyProof.Rows L2 Evl SlX
section
variable {β : Type} [DecidableEq β]
theorem seg_find : ∀ (S : List Int) (lo : Option Int) (x : Int), (∀ a, lo = some a → a ≤ x) → ∃ p ∈ segsFrom lo S, inS p x = true
  | [], lo, x, h => ⟨(lo, none), List.mem_cons_self, (inS_iff _ _ _).mpr ⟨h, fun a z => nomatch z⟩⟩
  | s :: r, lo, x, h => by
    by_cases hx : x < s
    · exact ⟨(lo, some (s - 1)), List.mem_cons_self, (inS_iff _ _ _).mpr ⟨h, fun a z => by cases z; omega⟩⟩
    · obtain ⟨p, hp, hi⟩ := seg_find r (some s) x (fun a z => by cases z; omega)
      exact ⟨p, List.mem_cons_of_mem _ hp, hi⟩
theorem seg_lo : ∀ (S : List Int) (lo : Option Int), S.Pairwise (· < ·) → (∀ s ∈ S, ∀ a, lo = some a → a < s) → ∀ p ∈ segsFrom lo S, ∀ x, inS p x = true → ∀ a, lo = some a → a ≤ x
  | [], lo, _, _, p, hp, x, hx, a, e => by
    rcases List.mem_singleton.mp hp with rfl
    exact ((inS_iff _ _ _).mp hx).1 a e
  | s :: r, lo, hS, hb, p, hp, x, hx, a, e => by
    obtain ⟨hS1, hS2⟩ := List.pairwise_cons.mp hS
    rcases List.mem_cons.mp hp with rfl | hp
    · exact ((inS_iff _ _ _).mp hx).1 a e
    · have h1 := seg_lo r (some s) hS2 (fun t ht b eb => by cases eb; exact hS1 t ht) p hp x hx s rfl
      have h2 := hb s List.mem_cons_self a e
      omega
theorem seg_disj : ∀ (S : List Int) (lo : Option Int), S.Pairwise (· < ·) → (segsFrom lo S).Pairwise fun p q => ∀ x, inS p x = true → inS q x = true → False
  | [], lo, _ => by
    show [(lo, none)].Pairwise _
    simp
  | s :: r, lo, hS => by
    obtain ⟨hS1, hS2⟩ := List.pairwise_cons.mp hS
    refine List.pairwise_cons.mpr ⟨fun q hq x hx hy => ?_, seg_disj r (some s) hS2⟩
    have h1 := seg_lo r (some s) hS2 (fun t ht b eb => by cases eb; exact hS1 t ht) q hq x hy s rfl
    have h2 := ((inS_iff _ _ _).mp hx).2 (s - 1) rfl
    omega
theorem seg_same (f : Int → Bool × β) : ∀ (S : List Int) (lo : Option Int), S.Pairwise (· < ·) → (∀ s ∈ S, ∀ a, lo = some a → a < s) → (∀ z, (∀ a, lo = some a → a < z) → f z ≠ f (z - 1) → z ∈ S) → ∀ p ∈ segsFrom lo S, ∀ x y, x ≤ y → inS p x = true → inS p y = true → f y = f x
  | [], lo, _, _, hc, p, hp, x, y, hxy, hx, hy => by
    rcases List.mem_singleton.mp hp with rfl
    obtain ⟨h1, _⟩ := (inS_iff _ _ _).mp hx
    refine const_le f hxy fun z z1 z2 => Classical.byContradiction fun hn => ?_
    exact nomatch hc z (fun a e => by have := h1 a e; omega) hn
  | s :: r, lo, hS, hb, hc, p, hp, x, y, hxy, hx, hy => by
    obtain ⟨hS1, hS2⟩ := List.pairwise_cons.mp hS
    rcases List.mem_cons.mp hp with rfl | hp
    · obtain ⟨h1, _⟩ := (inS_iff _ _ _).mp hx
      obtain ⟨_, h2⟩ := (inS_iff _ _ _).mp hy
      have := h2 (s - 1) rfl
      refine const_le f hxy fun z z1 z2 => Classical.byContradiction fun hn => ?_
      rcases List.mem_cons.mp (hc z (fun a e => by have := h1 a e; omega) hn) with e | e
      · omega
      · have := hS1 z e
        omega
    · exact seg_same f r (some s) hS2 (fun t ht b eb => by cases eb; exact hS1 t ht) (fun z hz hn => by
        have hsz := hz s rfl
        rcases List.mem_cons.mp (hc z (fun a e => by have := hb s List.mem_cons_self a e; omega) hn) with e | e
        · omega
        · exact e) p hp x y hxy hx hy
theorem seg_all (f : Int → Bool × β) {S : List Int} (hS : S.Pairwise (· < ·)) (hc : ∀ z, f z ≠ f (z - 1) → z ∈ S) {p : Sx} (hp : p ∈ segsFrom none S) {x y : Int} (hx : inS p x = true) (hy : inS p y = true) : f y = f x := by
  rcases Int.le_total x y with h | h
  · exact seg_same f S none hS (fun _ _ _ e => nomatch e) (fun z _ hn => hc z hn) p hp x y h hx hy
  · exact (seg_same f S none hS (fun _ _ _ e => nomatch e) (fun z _ hn => hc z hn) p hp y x h hy hx).symm
end
/-! ### the raw spans and their normal forms -/
def nor (cs : List Rs) : List Rs := cs.map fun s => (normal s.1, s.2)
theorem inC_nor {ps : List Sx} (h : ∀ p ∈ ps, okS p) (b : Bool) (c : Option Int) : inC (normal ps) b c = inC ps b c := by
  cases c with
  | none => rfl
  | some x => exact (normal_ok h).2 x
theorem colC_nor {cs : List Rs} (h : ∀ s ∈ cs, ∀ p ∈ s.1, okS p) (c : Option Int) : colC (nor cs) c = colC cs c := by
  unfold colC nor
  rw [List.map_map]
  exact List.map_congr_left fun s hs => inC_nor (h s hs) s.2 c
theorem fD_nor {dn : List Sx} {cs : List Rs} (hd : ∀ p ∈ dn, okS p) (h : ∀ s ∈ cs, ∀ p ∈ s.1, okS p) : fD (normal dn) (nor cs) = fD dn cs := by
  funext x
  unfold fD
  rw [(normal_ok hd).2 x, colC_nor h]
theorem nonP_nor {cs : List Rs} (h : ∀ s ∈ cs, ∀ p ∈ s.1, okS p) (db : Bool) : nonP db (nor cs) = nonP db cs := by
  unfold nonP
  rw [colC_nor h]
theorem map_ne {α β : Type} {f g : α → β} : ∀ {l : List α}, l.map f ≠ l.map g → ∃ a ∈ l, f a ≠ g a
  | [], h => absurd rfl h
  | a :: l, h => by
    by_cases e : f a = g a
    · obtain ⟨b, hb, hn⟩ := map_ne (l := l) fun z => h (by rw [List.map_cons, List.map_cons, e, z])
      exact ⟨b, List.mem_cons_of_mem _ hb, hn⟩
    · exact ⟨a, List.mem_cons_self, e⟩
/-- a change is a start -/
theorem raw_change {dn : List Sx} {db : Bool} {cs : List Rs} {x : Int} (h : fD dn cs x ≠ fD dn cs (x - 1)) : x ∈ allStarts ((dn, db) :: cs) := by
  unfold allStarts
  by_cases e : inL dn x = inL dn (x - 1)
  · have e2 : colC cs (some x) ≠ colC cs (some (x - 1)) := fun z => h (by unfold fD; rw [e, z])
    obtain ⟨s, hs, hn⟩ := map_ne e2
    exact List.mem_flatMap.mpr ⟨s, List.mem_cons_of_mem _ hs, change_start hn⟩
  · exact List.mem_flatMap.mpr ⟨(dn, db), List.mem_cons_self, change_start e⟩
theorem nor_change {dn : List Sx} {db : Bool} {cs : List Rs} (hd : NF dn) (hc : ∀ s ∈ cs, NF s.1) {x : Int} : x ∈ allStarts ((dn, db) :: cs) ↔ fD dn cs x ≠ fD dn cs (x - 1) := by
  refine ⟨fun h z => ?_, raw_change⟩
  unfold allStarts at h
  obtain ⟨s, hs, hx⟩ := List.mem_flatMap.mp h
  unfold fD at z
  injection z with z1 z2
  rcases List.mem_cons.mp hs with rfl | hs
  · exact start_change hd hx z1
  · unfold colC at z2
    have := List.map_inj_left.mp z2 s hs
    exact start_change (hc s hs) hx this
/-- what is drawn -/
structure Raw (dn : List Sx) (cs : List Rs) : Prop where
  d : ∀ p ∈ dn, okB p
  c : ∀ s ∈ cs, ∀ p ∈ s.1, okB p
  dl : dn.length ≤ 12
  cl : cs.length ≤ 5
  sl : ∀ s ∈ cs, s.1.length ≤ 3
theorem Raw.dS {dn : List Sx} {cs : List Rs} (R : Raw dn cs) : ∀ p ∈ dn, okS p := fun p h => (R.d p h).1
theorem Raw.cS {dn : List Sx} {cs : List Rs} (R : Raw dn cs) : ∀ s ∈ cs, ∀ p ∈ s.1, okS p := fun s hs p h => (R.c s hs p h).1
theorem starts_cs : ∀ {cs : List Rs}, (∀ s ∈ cs, s.1.length ≤ 3) → (cs.flatMap fun s => startsOf s.1).length ≤ 6 * cs.length
  | [], _ => Nat.zero_le _
  | s :: cs, h => by
    rw [List.flatMap_cons, List.length_append, List.length_cons]
    have h1 := starts_len s.1
    have h2 := h s List.mem_cons_self
    have h3 := starts_cs (cs := cs) fun t ht => h t (List.mem_cons_of_mem _ ht)
    omega
theorem Raw.starts {dn : List Sx} {cs : List Rs} (R : Raw dn cs) (db : Bool) : (allStarts ((dn, db) :: cs)).length < 63 := by
  unfold allStarts
  rw [List.flatMap_cons, List.length_append]
  have h1 := starts_len dn
  have h2 := starts_cs R.sl
  have h3 := R.dl
  have h4 := R.cl
  show (startsOf dn).length + _ < 63
  omega
theorem Raw.nstarts {dn : List Sx} {cs : List Rs} (R : Raw dn cs) (db : Bool) : (allStarts ((normal dn, db) :: nor cs)).length < 63 := by
  unfold allStarts
  rw [List.flatMap_cons, List.length_append]
  have h1 := starts_len (normal dn)
  have h2 := starts_cs (cs := nor cs) fun s hs => by
    obtain ⟨t, ht, rfl⟩ := List.mem_map.mp hs
    exact Nat.le_trans (normal_len t.1) (R.sl t ht)
  have h5 : (nor cs).length = cs.length := List.length_map ..
  have h6 := normal_len dn
  have h3 := R.dl
  have h4 := R.cl
  show (startsOf (normal dn)).length + _ < 63
  omega
theorem low_of : ∀ S : List Int, ∃ b : Int, ∀ s ∈ S, b < s
  | [] => ⟨0, fun _ h => nomatch h⟩
  | x :: S => by
    obtain ⟨b, hb⟩ := low_of S
    refine ⟨min b (x - 1), fun s hs => ?_⟩
    rcases List.mem_cons.mp hs with rfl | h
    · omega
    · have := hb s h
      omega
section
variable {dn : List Sx} {db : Bool} {cs : List Rs} {ds : List Pd} {its : List (It (List Bool))}
/-- the pieces are those that are due -/
theorem due_pcs (R : Raw dn cs) (h : IsPcs (normal dn) db (nor cs) ds) (h' : IsDue dn db cs its) : ds = nonP db cs ++ its.map itP := by
  obtain ⟨S', hS', _, rfl⟩ := h
  obtain ⟨S, hS, _, rfl⟩ := h'
  unfold pcs
  rw [nonP_nor R.cS, fD_nor R.dS R.cS]
  obtain ⟨b, hb⟩ := low_of S
  rw [runs_eq (fD dn cs) repL (clampI 0) repL_in (clamp_in 0) hS.1 hS'.1 (fun x hn => (hS.2 x).mpr (raw_change hn)) (fun x => ?_) b hb]
  rw [hS'.2 x, nor_change (normal_ok R.dS).1 (fun s hs => by
    obtain ⟨t, ht, rfl⟩ := List.mem_map.mp hs
    exact (normal_ok (R.cS t ht)).1), fD_nor R.dS R.cS]
theorem pcs_seg (h : IsPcs dn db cs ds) : ∃ S, IsStarts ((dn, db) :: cs) S ∧ S.length < 63 ∧ ds = nonP db cs ++ ((segsFrom none S).filterMap (pick (fD dn cs) (clampI 0))).map itP := by
  obtain ⟨S, h1, h2, h3⟩ := h
  exact ⟨S, h1, h2, h3⟩
theorem pick_some {p : Sx} {t : It (List Bool)} (h : pick (fD dn cs) (clampI 0) p = some t) : inL dn (clampI 0 p) = true ∧ t = (p.1, p.2, colC cs (some (clampI 0 p))) := by
  unfold pick at h
  split at h
  · rename_i z
    exact ⟨z, (Option.some.inj h).symm⟩
  · cases h
theorem starts_bd {ps : List Sx} (h : ∀ p ∈ ps, okB p) {x : Int} (hx : x ∈ startsOf ps) : -1000000000001 ≤ x ∧ x ≤ 1000000000001 := by
  obtain ⟨p, hp, e⟩ := mem_starts.mp hx
  have hb := (h p hp).2
  rcases e with e | e
  · have := hb x (.inl e)
    omega
  · have := hb (x - 1) (.inr e)
    omega
theorem raw_bd (R : Raw dn cs) {x : Int} (hx : x ∈ allStarts ((dn, db) :: cs)) : -1000000000001 ≤ x ∧ x ≤ 1000000000001 := by
  unfold allStarts at hx
  obtain ⟨s, hs, hx⟩ := List.mem_flatMap.mp hx
  rcases List.mem_cons.mp hs with rfl | hs
  · exact starts_bd R.d hx
  · exact starts_bd (R.c s hs) hx
theorem its_ok (R : Raw dn cs) (h : IsPcs (normal dn) db (nor cs) ds) (h' : ds = nonP db cs ++ its.map itP) : its.length ≤ 64 ∧ ∀ t ∈ its, okS (t.1, t.2.1) ∧ bB (t.1, t.2.1) ∧ t.2.2.length ≤ 5 := by
  obtain ⟨S, hS, h63, e⟩ := pcs_seg h
  rw [h', nonP_nor R.cS] at e
  have e2 := List.append_cancel_left e
  rw [fD_nor R.dS R.cS] at e2
  have inj : ∀ a b : It (List Bool), itP a = itP b → a = b := fun a b z => by
    obtain ⟨a1, a2, a3⟩ := a
    obtain ⟨b1, b2, b3⟩ := b
    simp only [itP, Prod.mk.injEq, List.cons.injEq] at z
    simp [z]
  have e3 := List.map_inj_right inj |>.mp e2
  subst e3
  refine ⟨?_, fun t ht => ?_⟩
  · have b := List.length_filterMap_le (pick (fD dn cs) (clampI 0)) (segsFrom none S)
    rw [segs_len] at b
    omega
  · obtain ⟨p, hp, hpk⟩ := List.mem_filterMap.mp ht
    obtain ⟨_, rfl⟩ := pick_some hpk
    obtain ⟨k, hk⟩ := List.mem_iff_getElem?.mp hp
    have hk' := (List.getElem?_eq_some_iff.mp hk).1
    rw [segs_len] at hk'
    have hs := segs_at S k (by omega)
    rw [hk] at hs
    cases Option.some.inj hs
    refine ⟨seg_ok hS.1 k, ?_, ?_⟩
    · have bd : ∀ x ∈ S, -1000000000001 ≤ x ∧ x ≤ 1000000000001 := fun x hx => by
        have h1 := (hS.2 x).mp hx
        rw [nor_change (normal_ok R.dS).1 (fun s hs => by
          obtain ⟨t, ht, rfl⟩ := List.mem_map.mp hs
          exact (normal_ok (R.cS t ht)).1), fD_nor R.dS R.cS] at h1
        exact raw_bd (db := db) R (raw_change h1)
      intro x hx
      unfold segAt at hx
      rcases hx with hx | hx
      · dsimp only at hx
        split at hx
        · cases hx
        · have := bd x (List.mem_iff_getElem?.mpr ⟨_, hx⟩)
          omega
      · dsimp only at hx
        cases e : S[k]? with
        | none => rw [e] at hx; cases hx
        | some y =>
          rw [e] at hx
          have := bd y (List.mem_iff_getElem?.mpr ⟨_, e⟩)
          have hx' : y - 1 = x := Option.some.inj hx
          omega
    · show (colC cs _).length ≤ 5
      unfold colC
      rw [List.length_map]
      exact R.cl
/-- two pieces share no content -/
def Dj (d e : Pd) : Prop := ∀ c, inC d.1 d.2.1 c = true → inC e.1 e.2.1 c = true → False
theorem one_in {p : Sx} {x : Int} : inL [p] x = inS p x := by
  rw [inL_cons, inL_nil, Bool.or_false]
theorem pcs_disj (h : IsPcs dn db cs ds) : ds.Pairwise Dj := by
  obtain ⟨S, hS, _, rfl⟩ := pcs_seg h
  refine List.pairwise_append.mpr ⟨?_, ?_, ?_⟩
  · unfold nonP
    split
    · simp
    · exact .nil
  · refine List.pairwise_map.mpr ?_
    refine List.pairwise_filterMap.mpr ?_
    refine List.Pairwise.imp ?_ (seg_disj S none hS.1)
    intro p q hpq t ht u hu c h1 h2
    obtain ⟨_, rfl⟩ := pick_some ht
    obtain ⟨_, rfl⟩ := pick_some hu
    cases c with
    | none => cases h1
    | some x =>
      have h1' : inL [(p.1, p.2)] x = true := h1
      have h2' : inL [(q.1, q.2)] x = true := h2
      rw [one_in] at h1' h2'
      exact hpq x h1' h2'
  · intro d hd e he c h1 h2
    obtain ⟨t, _, rfl⟩ := List.mem_map.mp he
    unfold nonP at hd
    split at hd
    · rcases List.mem_singleton.mp hd with rfl
      cases c with
      | none => cases h2
      | some x => cases h1
    · cases hd
/-- each content of the domain stands in a piece of its colour -/
theorem pcs_find (h : IsPcs dn db cs ds) (hch : ∀ z, fD dn cs z ≠ fD dn cs (z - 1) → z ∈ allStarts ((dn, db) :: cs)) {c : Option Int} (hc : inC dn db c = true) : ∃ d ∈ ds, inC d.1 d.2.1 c = true ∧ d.2.2 = colC cs c := by
  obtain ⟨S, hS, _, rfl⟩ := pcs_seg h
  cases c with
  | none =>
    have : db = true := hc
    subst this
    exact ⟨([], true, colC cs none), List.mem_append_left _ List.mem_cons_self, rfl, rfl⟩
  | some x =>
    obtain ⟨p, hp, hx⟩ := seg_find S none x (fun a z => nomatch z)
    obtain ⟨k, hk⟩ := List.mem_iff_getElem?.mp hp
    have hk' := (List.getElem?_eq_some_iff.mp hk).1
    rw [segs_len] at hk'
    have hs := segs_at S k (by omega)
    rw [hk] at hs
    have hok := seg_ok hS.1 k
    rw [← Option.some.inj hs] at hok
    have he := seg_all (fD dn cs) hS.1 (fun z hn => (hS.2 z).mpr (hch z hn)) hp hx (clamp_in 0 p hok)
    have h1 : (fD dn cs (clampI 0 p)).1 = true := by
      rw [he]
      exact hc
    have h2 : colC cs (some (clampI 0 p)) = colC cs (some x) := congrArg Prod.snd he
    refine ⟨itP (p.1, p.2, (fD dn cs (clampI 0 p)).2), List.mem_append_right _ (List.mem_map.mpr ⟨_, List.mem_filterMap.mpr ⟨p, hp, ?_⟩, rfl⟩), ?_, h2⟩
    · unfold pick
      rw [if_pos h1]
    · show inL [(p.1, p.2)] x = true
      rw [one_in]
      exact hx
end
theorem mO_in {d : Pd} (ho : OkP d.1 d.2.1) {m : Nat} {x : Option Int} (h : x ∈ mO d.1 m) : inC d.1 d.2.1 x = true := by
  obtain ⟨ns, b, cols⟩ := d
  dsimp only at ho h ⊢
  rcases ho with ⟨rfl, rfl⟩ | ⟨p, rfl, rfl, hp⟩
  · have h' : x ∈ [none].take m := h
    have := List.mem_of_mem_take h'
    rw [List.mem_singleton.mp this]
    rfl
  · have h' : x ∈ (members p m).map some := h
    obtain ⟨y, hy, rfl⟩ := List.mem_map.mp h'
    show inL [p] y = true
    rw [one_in]
    exact members_in hy
theorem mO_two {d : Pd} (ho : OkP d.1 d.2.1) : (∃ x, x ∈ mO d.1 2) ∧ ∀ c c', inC d.1 d.2.1 c = true → inC d.1 d.2.1 c' = true → c ≠ c' → (mO d.1 2).length = 2 := by
  obtain ⟨ns, b, cols⟩ := d
  dsimp only at ho ⊢
  rcases ho with ⟨rfl, rfl⟩ | ⟨p, rfl, rfl, hp⟩
  · refine ⟨⟨none, List.mem_cons_self⟩, fun c c' h h' hn => ?_⟩
    cases c with
    | some x => cases h
    | none => cases c' with
      | some x => cases h'
      | none => exact absurd rfl hn
  · obtain ⟨⟨x, hx⟩, h2⟩ := members_two p hp
    refine ⟨⟨some x, List.mem_map.mpr ⟨x, hx, rfl⟩⟩, fun c c' h h' hn => ?_⟩
    cases c with
    | none => cases h
    | some y => cases c' with
      | none => cases h'
      | some y' =>
        show ((members p 2).map some).length = 2
        rw [List.length_map]
        have h1 : inL [p] y = true := h
        have h1' : inL [p] y' = true := h'
        rw [one_in] at h1 h1'
        exact h2 y y' h1 h1' fun z => hn (by rw [z])
theorem few_filter : ∀ {ds : List Pd}, ds.Pairwise Dj → (∀ d ∈ ds, OkP d.1 d.2.1) → ∀ d ∈ ds, (fewO ds).filter (inC d.1 d.2.1) = mO d.1 2
  | [], _, _, d, h => nomatch h
  | e :: ds, hd, ho, d, h => by
    obtain ⟨h1, h2⟩ := List.pairwise_cons.mp hd
    unfold fewO
    rw [List.flatMap_cons, List.filter_append]
    have oe := ho e List.mem_cons_self
    have ih := few_filter h2 fun x hx => ho x (List.mem_cons_of_mem _ hx)
    have off : ∀ {d : Pd}, Dj e d → (mO e.1 2).filter (inC d.1 d.2.1) = [] := fun hj => List.filter_eq_nil_iff.mpr fun x hx hn => hj x (mO_in oe hx) hn
    rcases List.mem_cons.mp h with rfl | h
    · have a1 : (mO d.1 2).filter (inC d.1 d.2.1) = mO d.1 2 := List.filter_eq_self.mpr fun x hx => mO_in oe hx
      have a2 : (ds.flatMap fun d => mO d.1 2).filter (inC d.1 d.2.1) = [] := List.filter_eq_nil_iff.mpr fun x hx hn => by
        obtain ⟨f, hf, hxf⟩ := List.mem_flatMap.mp hx
        exact h1 f hf x hn (mO_in (ho f (List.mem_cons_of_mem _ hf)) hxf)
      rw [a1, a2, List.append_nil]
    · rw [off (h1 d h), List.nil_append]
      exact ih d h
theorem dj_of {ds : List Pd} (h : ds.Pairwise Dj) {j k : Nat} {d e : Pd} (hj : ds[j]? = some d) (hk : ds[k]? = some e) (hn : j ≠ k) : Dj d e := by
  obtain ⟨l1, e1⟩ := List.getElem?_eq_some_iff.mp hj
  obtain ⟨l2, e2⟩ := List.getElem?_eq_some_iff.mp hk
  have hp := List.pairwise_iff_getElem.mp h
  rcases Nat.lt_or_gt_of_ne hn with z | z
  · have := hp j k l1 l2 z
    rw [e1, e2] at this
    exact this
  · have := hp k j l2 l1 z
    rw [e1, e2] at this
    exact fun c a b => this c b a
theorem part_ok {dn : List Sx} {db : Bool} {cs : List Rs} {ds : List Pd} {cts : List (Option Int)} (R : Raw dn cs) (h : IsPcs (normal dn) db (nor cs) ds) (hc : ∀ c ∈ cts, inC dn db c = true) : PartOk ds cs cts := by
  have hd := pcs_disj h
  have ho := (pcs_okP h).2
  have ff := few_filter hd ho
  have hfind : ∀ c ∈ cts, ∃ d ∈ ds, inC d.1 d.2.1 c = true ∧ d.2.2 = colC cs c := fun c hcc => by
    obtain ⟨d, h1, h2, h3⟩ := pcs_find h (fun z hn => raw_change hn) (c := c) (by rw [inC_nor R.dS]; exact hc c hcc)
    exact ⟨d, h1, h2, by rw [h3, colC_nor R.cS]⟩
  refine ⟨fun c hcc => ?_, fun c _ d hdd hin => ?_, fun c _ c' _ hn d hdd d' hdd' hi hi' => ?_⟩
  · obtain ⟨d, h1, h2, h3⟩ := hfind c hcc
    obtain ⟨k, hk⟩ := List.mem_iff_getElem?.mp h1
    refine ⟨k, d, hk, fun j e hj => ?_, h3⟩
    by_cases z : j = k
    · subst z
      rw [hk] at hj
      cases Option.some.inj hj
      rw [h2, decide_eq_true rfl]
    · rw [decide_eq_false z]
      cases hb : inC e.1 e.2.1 c with
      | false => rfl
      | true => exact (dj_of hd hj hk z c hb h2).elim
  · rw [ff d hdd]
    obtain ⟨⟨x, hx⟩, _⟩ := mO_two (ho d hdd)
    exact fun z => by rw [z] at hx; cases hx
  · rw [ff d hdd, ff d' hdd']
    obtain ⟨⟨x, hx⟩, h2⟩ := mO_two (ho d hdd)
    refine ⟨x, hx, fun z => ?_⟩
    obtain ⟨j, hj⟩ := List.mem_iff_getElem?.mp hdd
    obtain ⟨k, hk⟩ := List.mem_iff_getElem?.mp hdd'
    by_cases e : j = k
    · subst e
      rw [hj] at hk
      cases Option.some.inj hk
      have := h2 c c' hi hi' hn
      rw [z] at this
      cases this
    · have hx' : x ∈ mO d'.1 2 := by rw [z]; exact List.mem_cons_self
      exact dj_of hd hj hk e x (mO_in (ho d hdd) hx) (mO_in (ho d' hdd') hx')
end K3

/-! K3V: the words of the law's own walk. -/
namespace K3
open PySem PySem.Spec PyProof.Rows L2 Evl SlX
section
variable {X : Cx} {K : PySem.W.Frag}
/-- a list is never a truth value -/
abbrev rIsRB : R2 := fun x y H Q => ∃ (a : Addr) (b : Bool), x = .ref a ∧ y = .bl b ∧ Q (.bl false) H
theorem op_isRB : OpR X (compareOp .Is) rIsRB := by
  intro pins s σ H x y v u Q I rx ry h
  obtain ⟨a, b, rfl, rfl, q⟩ := h
  cases (show v = Value.ref a from rx)
  cases (show u = Value.bool b from ry)
  exact wpAny_is_other rfl (fun z => nomatch z) ⟨.bl false, H, I, rfl, q⟩
/-- a != b, two lists of the same objects -/
abbrev rNeSame : R2 := fun x y H Q => ∃ (a b : Addr) (xs : List V), x = .ref a ∧ y = .ref b ∧ H a = some (.lst xs) ∧ H b = some (.lst xs) ∧ (∀ v ∈ xs, ∃ r, v = .ref r) ∧ Q (.bl false) H
theorem refs_one {xs : List V} (h : ∀ v ∈ xs, ∃ r, v = V.ref r) : ∀ {us ws : List Value}, Vals xs us → Vals xs ws → us = ws := by
  induction xs with
  | nil =>
    intro us ws r1 r2
    cases r1
    cases r2
    rfl
  | cons v xs ih =>
    intro us ws r1 r2
    cases r1 with
    | cons a1 b1 =>
      cases r2 with
      | cons a2 b2 =>
        obtain ⟨r, rfl⟩ := h v List.mem_cons_self
        rw [ih (fun x hx => h x (List.mem_cons_of_mem _ hx)) b1 b2, show _ = Value.ref r from a1, show _ = Value.ref r from a2]
theorem op_neSame (hu : X.A.units + 64 < cLine) : OpR X (compareOp .NotEq) rNeSame := by
  intro pins s σ H x y v u Q I rx ry h
  obtain ⟨a, b, xs, rfl, rfl, ha, hb, hr, q⟩ := h
  cases (show v = Value.ref a from rx)
  cases (show u = Value.ref b from ry)
  obtain ⟨us, r1, p1, _⟩ := I.list (SqL.of ha)
  obtain ⟨ws, r2, p2, _⟩ := I.list (SqL.of hb)
  cases refs_one hr r1 r2
  refine SeqAt.RcNeAt.lists (e := fun _ => true) p1.isList p2.isList rfl (by omega) (fun j h1 h2 => SeqAt.EqAt.same _) _ _ _ _ ?_
  rw [show ((List.range us.toArray.size).all fun _ => true) = true from List.all_eq_true.mpr fun _ _ => rfl]
  exact ⟨.bl false, H, I, rfl, q⟩
theorem listOfK (h : X.K = K) : CallR X (.type "list") (fun xs H Q => ∃ p ys, xs = [.ref p] ∧ (SqL K H p ys ∨ SqT K H p ys) ∧ ∀ l, H l = none → Q (.ref l) (upd H l (.lst ys))) := h ▸ call_list_of
end
/-! ### stirring and new objects -/
/-- reading te from H on stirs the pot and gives a new object -/
def EvMN (p : Addr) (te : TE) (σ : L2.St) (H : Hp) (P : Addr → Hp → Prop) : Prop := ∀ H1, Mv p H H1 → ∀ Q : VK, (∀ l H2, H1 l = none → Mv p H1 H2 → P l H2 → Q (.ref l) H2) → te σ H1 Q
theorem Mv.back {p l : Addr} {H H' : Hp} (m : Mv p H H') (h : H' l = none) : H l = none := by
  have n : l ≠ p := fun z => by
    obtain ⟨a, b, e, _⟩ := m.1
    rw [z, e] at h
    cases h
  cases e : H l with
  | none => rfl
  | some o =>
    have := m.2 l o (by rw [hide_ne n]; exact e)
    rw [h] at this
    cases this
theorem Mv.exF {p : Addr} {H H' H2 : Hp} (e : Ex H H') (hp : H p = none) (m : Mv p H' H2) : Ex H H2 := fun b o h => m.2 b o (by
  rw [hide_ne (ne_of_none h hp)]
  exact e b o h)
theorem hide_two {p l : Addr} {H : Hp} {o : HO} : hide l (hide p (upd H l o)) = hide l (hide p H) := by
  funext b
  by_cases e : b = l
  · rw [e, hide_self, hide_self]
  · rw [hide_ne e, hide_ne e]
    by_cases e2 : b = p
    · rw [e2, hide_self, hide_self]
    · rw [hide_ne e2, hide_ne e2, upd_ne e]
theorem paired_take {α β : Type} {R : α → β → Prop} : ∀ (n : Nat) {as : List α} {bs : List β}, Paired R as bs → Paired R (as.take n) (bs.take n)
  | 0, _, _, _ => by simpa using .nil
  | n + 1, _, _, .nil => by simpa using .nil
  | n + 1, _, _, .cons h t => by
    rw [List.take_succ_cons, List.take_succ_cons]
    exact .cons h (paired_take n t)
/-- a list of stretches, drawn -/
def DrAt (H : Hp) (l : Addr) (n : Nat) (ps : List Sx) : Prop := ∃ us, H l = some (.lst us) ∧ Svs H us ps ∧ (∀ q ∈ ps, okB q) ∧ ps.length ≤ n
section
variable {p : Addr} {σ : L2.St} {H : Hp} {ta tb te : TE} {K : PySem.W.Frag} {D : Ends} {tz tu tw : TS} {P : Addr → Hp → Prop} {xs : List V} {l : Addr}
theorem Svs.hideP (hp : PotAt H p) {us : List V} {ps : List Sx} (h : Svs H us ps) : Svs (hide p H) us ps := Paired.mapP h fun v q ⟨a, h1, h2⟩ => by
  obtain ⟨x, y, hp, _⟩ := hp
  exact ⟨a, h1, by rw [hide_ne (ne_of h2 hp (fun z => nomatch z))]; exact h2⟩
theorem emn_drawn {i : Nat} (hv : σ[i]? = some (some (.ref p))) : EvMN p (tCl sp_drawn (tCons (tVar i) tNil)) σ H (fun l H' => l ≠ p ∧ ∃ ps, DrAt (hide p H') l 12 ps) := fun H1 m Q q =>
  ⟨_, hv, p, rfl, m.1, fun l us ps H2 hl m2 h2 hs ho hz => q l H2 hl m2 ⟨pot_ne m.1 hl, ps, us, by rw [hide_ne (pot_ne m.1 hl)]; exact h2, hs.hideP m2.1, ho, hz⟩⟩
theorem emn_cut {n : Nat} (h : EvMN p te σ H (fun l H' => l ≠ p ∧ ∃ ps, DrAt (hide p H') l 12 ps)) : EvMN p (L2.tSl (rSlL K) te tNoPart (tPart (tC (.int (n : Int))))) σ H (fun l H' => l ≠ p ∧ ∃ ps, DrAt (hide p H') l n ps) := fun H1 m Q q =>
  h H1 m _ fun l H2 hl m2 ⟨nl, ps, us, h2, hs, ho, hz⟩ => ⟨(n : Int), rfl, l, us, rfl, SqL.of (hide_some h2).2, fun l2 hl2 => by
    rw [cut_take]
    have n2 := pot_ne m2.1 hl2
    refine q l2 _ (m2.back hl2) (m2.ex (Ex.new hl2)) ⟨n2, ps.take n, us.take n, by rw [hide_ne n2, upd_same], ?_, fun x hx => ho x (List.mem_of_mem_take hx), by rw [List.length_take]; omega⟩
    have e : Ex (hide p H2) (hide p (upd H2 l2 (.lst (us.take n)))) := hide_mono (Ex.new hl2)
    exact paired_take n (Svs.ex e hs)⟩
/-- (a list drawn, a truth drawn) -/
theorem emn_pair {i : Nat} {n : Nat} (h : EvMN p te σ H (fun l H' => l ≠ p ∧ ∃ ps, DrAt (hide p H') l n ps)) (hv : σ[i]? = some (some (.ref p))) :
    EvMN p (tTup (tCons te (tCons (tOp rEq (tCl sp_draw (tCons (tVar i) (tCons (tC (.int 3)) tNil))) (tC (.int 1))) tNil))) σ H (fun t H' => ∃ ps b, RwAt (hide p H') (.ref t) ps b ∧ (∀ q ∈ ps, okB q) ∧ ps.length ≤ n) := fun H1 m Q q =>
  h H1 m _ fun l H2 hl m2 ⟨nl, ps, us, h2, hs, ho, hz⟩ => em_eq (em_drawC hv (by decide)) H2 (m.trans m2) _ fun v H3 m3 ⟨b, e⟩ => by
    subst e
    refine ⟨Nat.le_of_ble_eq_true rfl, fun t ht => ?_⟩
    have nt := pot_ne m3.1 ht
    have e3 : Ex (hide p H2) (hide p (upd H3 t (.tup [.ref l, .bl b]))) := m3.hid.trans (hide_mono (Ex.new ht))
    exact q t _ ((m2.trans m3).back ht) ((m2.trans m3).ex (Ex.new ht)) ⟨ps, b, ⟨t, l, us, rfl, by rw [hide_ne nt, upd_same], e3 _ _ h2, Svs.ex e3 hs⟩, ho, hz⟩
theorem emn_pairV {i j : Nat} {ps : List Sx} {us : List V} (hl : H l = some (.lst us)) (nl : l ≠ p) (hs : Svs H us ps) (h0 : σ[j]? = some (some (.ref l))) (hv : σ[i]? = some (some (.ref p))) :
    EvMN p (tTup (tCons (tVar j) (tCons (tOp rEq (tCl sp_draw (tCons (tVar i) (tCons (tC (.int 3)) tNil))) (tC (.int 1))) tNil))) σ H (fun t H' => ∃ b, H' t = some (.tup [.ref l, .bl b])) := fun H1 m Q q =>
  ⟨_, h0, em_eq (em_drawC hv (by decide)) H1 m _ fun v H3 m3 ⟨b, e⟩ => by
    subst e
    exact ⟨Nat.le_of_ble_eq_true rfl, fun t ht => q t _ (m3.back ht) (m3.ex (Ex.new ht)) ⟨b, upd_same⟩⟩⟩
theorem q_asgMN {i : Nat} (hp : PotAt H p) (h : EvMN p te σ H P) (k : ∀ l H1, H l = none → Mv p H H1 → P l H1 → tz D (σ.set i (some (.ref l))) H1) : tSeq (tAsg te (gName i)) tz D σ H := h H (Mv.refl hp) _ fun l H1 hl m g => k l H1 hl m g
theorem s_asgMN {i : Nat} (hp : PotAt H p) (h : EvMN p te σ H P) (k : ∀ l H1, H l = none → Mv p H H1 → P l H1 → D.nx (σ.set i (some (.ref l))) H1) : tAsg te (gName i) D σ H := h H (Mv.refl hp) _ fun l H1 hl m g => k l H1 hl m g
theorem s_appM {i : Nat} (hp : PotAt H p) (hl : H l = some (.lst xs)) (nl : l ≠ p) (hv : σ[i]? = some (some (.ref l))) (h : EvMN p te σ H P) (hz : xs.length < 100000) (k : ∀ t H1, H t = none → Mv p H H1 → P t H1 → D.nx σ (upd H1 l (.lst (xs ++ [.ref t])))) :
    tDrop (tBM K "list" rAppend (tVar i) (tCons te tNil)) D σ H := ⟨_, hv, Or.inl ⟨rfl, xs, SqL.of hl⟩, h H (Mv.refl hp) _ fun t H2 ht m h2 => ⟨l, xs, .ref t, rfl, rfl, m.2 l _ (by rw [hide_ne nl]; exact hl), sz_lt hz, k t H2 ht m h2⟩⟩
/-- [_law_member(pot, domain) for .. in range(n)] -/
theorem emn_members {i j k : Nat} {n : Nat} {vs : List Nat} {dv : V} {dn : List Sx} {db : Bool} (hD : RwAt (hide p H) dv dn db) (ho : ∀ q ∈ dn, okB q) (hl : dn.length ≤ 12) (hne : dn ≠ [] ∨ db = true) (hn : n ≤ 1000)
    (hv : ∀ x, ((wipe σ vs).set k (some x))[i]? = some (some (.ref p))) (hd : ∀ x, ((wipe σ vs).set k (some x))[j]? = some (some dv)) (hw : ∀ x, wipe ((wipe σ vs).set k (some x)) vs = wipe σ vs) :
    EvMN p (tLc (iRng1 (tCons (tC (.int (n : Int))) tNil)) (gName k) tYes (tCl sp_lmember (tCons (tVar i) (tCons (tVar j) tNil))) vs) σ H (fun l H' => ∃ cts : List (Option Int), H' l = some (.lst (cts.map oV)) ∧ ∀ c ∈ cts, inC dn db c = true) := fun H1 m Q q =>
  ⟨(n : Int), rfl, by omega, by omega, fun Dl hD0 => by
    have nD := pot_ne m.1 hD0
    have e : ((n : Int)).toNat = n := by omega
    refine lc_range (lo := 0) (n := ((n : Int)).toNat) (fun i H' => Mv p H1 H' ∧ ∃ cts : List (Option Int), H' Dl = some (.lst (cts.map oV)) ∧ (∀ c ∈ cts, inC dn db c = true) ∧ cts.length = i)
      ⟨Mv.of m.1 (Ex.new hD0), [], upd_same, (fun _ h => nomatch h), rfl⟩ ?_ ?_
    · rintro a H' ha ⟨m', cts, hc, hin, hlen⟩
      refine ⟨hw _, ?_⟩
      refine ⟨_, hv _, _, hd _, p, dv, dn, db, rfl, m'.1, hD.ex (m.trans m').hid, ho, hl, hne, fun c H2 hcin m2 => ?_⟩
      have h2 : H2 Dl = some (.lst (cts.map oV)) := m2.2 _ _ (by rw [hide_ne nD]; exact hc)
      refine ⟨_, h2, sz_lt (by rw [List.length_map]; omega), ⟨?_, ?_⟩, cts ++ [c], by rw [upd_same, List.map_append]; rfl, fun x hx => ?_, by rw [List.length_append, hlen]; rfl⟩
      · obtain ⟨x, y, hx, h3⟩ := m2.1
        exact ⟨x, y, by rw [upd_ne nD.symm]; exact hx, h3⟩
      · intro b o hb
        have nb : b ≠ Dl := ne_of_none (hide_some hb).2 hD0
        rw [upd_ne nb]
        exact (m'.trans m2).2 b o hb
      · rcases List.mem_append.mp hx with h | h
        · exact hin x h
        · rw [List.mem_singleton.mp h]
          exact hcin
    · rintro H' ⟨m', cts, hc, hin, _⟩
      exact q Dl H' hD0 m' ⟨cts, hc, hin⟩⟩
/-- [a new object for .. in a list] -/
theorem el_new {β : Type} {g : TG} {vs : List Nat} {a : Addr} {ys : List β} (R : Addr → Hp → β → Prop) (hR : ∀ x H H' b, Kt H H' → R x H b → R x H' b) (h : Ev ta σ H (.ref a)) (hx : H a = some (.lst xs)) (hl : xs.length = ys.length) (hz : xs.length ≤ 40000)
    (hg : ∀ (i : Nat) (x : V) (y : β) H1 (W : L2.St → Hp → Prop), Ex H H1 → xs[i]? = some x → ys[i]? = some y → (∀ σ2, wipe σ2 vs = wipe σ vs → EvN te σ2 H1 (fun p H' => R p H' y) → W σ2 H1) → g x (wipe σ vs) H1 W) :
    EvN (tLc (iList K ta) g tYes te vs) σ H (fun l H' => ∃ us, H' l = some (.lst us) ∧ Paired (fun v y => ∃ p, v = .ref p ∧ R p H' y) us ys) := fun H0 e Q q => h H0 e _ fun H1 e1 => ⟨a, rfl, ⟨xs, SqL.of ((e.trans e1) _ _ hx)⟩, fun Dl hD => by
  have mo : ∀ {H H' : Hp} {us : List V} {zs : List β}, Kt H H' → Paired (fun v y => ∃ p, v = .ref p ∧ R p H y) us zs → Paired (fun v y => ∃ p, v = .ref p ∧ R p H' y) us zs := fun k h => Paired.mapP h fun _ _ ⟨p, h1, h2⟩ => ⟨p, h1, hR _ _ _ _ k h2⟩
  refine lc_list (xs := xs) (fun i H' => Ex H1 H' ∧ ∃ us, H' Dl = some (.lst us) ∧ Paired (fun v y => ∃ p, v = .ref p ∧ R p H' y) us (ys.take i) ∧ us.length = i) ⟨Ex.new hD, [], upd_same, .nil, rfl⟩ (fun i H' _ p => SqL.of (((e.trans e1).trans p.1) _ _ hx)) ?_ ?_
  · rintro i x H' hi ⟨e', us, hus, hp, hlen⟩
    have hi' := (List.getElem?_eq_some_iff.mp hi).1
    have hy : ys[i]? = some ys[i] := List.getElem?_eq_getElem (by omega)
    refine hg i x ys[i] H' _ ((e.trans e1).trans e') hi hy fun σ2 hw he => ⟨hw, ?_⟩
    refine he H' (Ex.refl _) _ fun p H2 hpn e2 h2 => ?_
    have kt : Kt H2 (upd H2 Dl (.lst (us ++ [.ref p]))) := Kt.upd (e2 _ _ hus) _
    refine ⟨us, e2 _ _ hus, sz_lt (by omega), Ex.mut (e'.trans e2) hD, us ++ [.ref p], upd_same, ?_, by rw [List.length_append, hlen]; rfl⟩
    rw [take_get hy]
    exact psnoc ⟨p, rfl, hR _ _ _ _ kt h2⟩ (mo ((Kt.of e2).trans kt) hp)
  · rintro H' ⟨e', us, hus, hp, hlen⟩
    rw [hl, List.take_length] at hp
    exact q Dl H' (fresh_back e1 hD) (e1.trans e') ⟨us, hus, hp⟩⟩
theorem paired_map {α β γ : Type} {S : α → γ → Prop} {f : β → γ} {as : List α} {bs : List β} (h : Paired (fun v y => S v (f y)) as bs) : Paired S as (bs.map f) := by
  induction h with
  | nil => exact .nil
  | cons r _ ih => exact .cons r ih
theorem ev_neSame {a b : Addr} (ha : Ev ta σ H (.ref a)) (hb : Ev tb σ H (.ref b)) (h1 : H a = some (.lst xs)) (h2 : H b = some (.lst xs)) (hr : ∀ v ∈ xs, ∃ r, v = .ref r) : Ev (tOp rNeSame ta tb) σ H (.bl false) := ev_op ha hb fun H1 e1 Q q => ⟨a, b, xs, rfl, rfl, e1 _ _ h1, e1 _ _ h2, hr, q H1 (Ex.refl _)⟩
theorem ev_isRB {a : Addr} {c : Bool} (ha : Ev ta σ H (.ref a)) (hb : Ev tb σ H (.bl c)) : Ev (tOp rIsRB ta tb) σ H (.bl false) := ev_op ha hb fun H1 e1 Q q => ⟨a, c, rfl, rfl, q H1 (Ex.refl _)⟩
end
end K3

/-! K3W: the law's own walk. -/
namespace K3
open PySem PySem.Spec PyProof.Rows L2 Evl SlX
theorem flat_mO (ds : List Pd) (m : Nat) : (ds.flatMap fun d => mL d.1 m) = (ds.flatMap fun d => mO d.1 m).map oV := by
  rw [List.map_flatMap]
  congr 1
  funext d
  exact mL_mO _ _
theorem RwAt.hideL {H : Hp} {l : Addr} {xs : List V} {us : List V} {ps : List Sx} (hl : H l = some (.lst xs)) (h : Svs H us ps) : Svs (hide l H) us ps := Paired.mapP h fun _ _ => Sv.hide hl
section
variable {P : Program} {w : World} {K : PySem.W.Frag} {mg : Str → Option Value} {base : Heap} {CS CP : Addr}
def sp_law (K : PySem.W.Frag) : Sp := fun vs H Q _ => ∃ (a : Addr) (ns : List Int), vs = [.ref a] ∧ SqL K H a (ns.map V.int) ∧ ns.length ≤ 63 ∧ ∀ H', Q (.bl true) H'
theorem ok_law {f : Addr} {fd : FuncData} (T : Txt K mg CS CP) (F : Fun K "law" "law" s_law f fd) : FnOk P w K mg base CX0 11 f fd p_law (sp_law K) := by
  have c_l_pot : Cal P w K mg base 1 "_law_pot" (sp_pot K) := ok_pot T
  have c_l_draw : Cal P w K mg base 1 "_law_draw" sp_draw := ok_draw T
  have c_l_drawn_pairs : Cal P w K mg base 3 "_law_drawn_pairs" sp_drawn := ok_drawn T
  have c_l_member : Cal P w K mg base 2 "_law_member" sp_lmember := ok_lmember T
  have c_l_is_list : Cal P w K mg base 2 "_law_is_list" sp_lislist := ok_lislist T
  have c_l_due_pieces : Cal P w K mg base 3 "_law_due_pieces" sp_due := ok_due T
  have c_l_pieces_right : Cal P w K mg base 9 "_law_pieces_right" (sp_piecesR CS CP) := ok_piecesR T
  have c_l_members_right : Cal P w K mg base 4 "_law_members_right" (sp_membersR CS CP) := ok_membersR T
  have c_l_parted : Cal P w K mg base 4 "_law_parted" (sp_parted CS CP) := ok_parted T
  have c_pieces : Cal P w K mg base 9 "pieces" (sp_pieces CS CP) := ok_pieces T
  have c_samples : Cal P w K mg base 10 "samples" (sp_samples CS CP) := ok_samples T
  have cS : SpanC P w K mg base CS := ok_Span T
  have cEq : MCal P w K mg base 1 CS "__eq__" (sp_eq CS) := ok_eq T
  refine F.ok sc_law (fun vs H Q E h => ?_) (fun cdv A outer s H vs Q E hr h => ?_)
  · obtain ⟨a, ns, rfl, _⟩ := h
    rfl
  · obtain ⟨a, ns, rfl, hS, hns, q⟩ := h
    refine ⟨_, PSs.nox (pss_cons (ps_set (i := 1) sc_law.nd rfl (by first | exact Or.inl rfl | exact Or.inr rfl) (pe_c c_l_pot hr (by decide) (by rfl) (pa_cons (pv 0) (pa_cons pe_int pa_nil))))
      (pss_cons (ps_set (i := 2) sc_law.nd rfl (by first | exact Or.inl rfl | exact Or.inr rfl) (pe_tup (pa_cons (pe_c c_l_drawn_pairs hr (by decide) (by rfl) (pa_cons (pv 1) pa_nil)) (pa_cons (pe_cmpR op_eq (pe_c c_l_draw hr (by decide) (by rfl) (pa_cons (pv 1) (pa_cons pe_int pa_nil))) pe_int (nomark _)) pa_nil))))
      (pss_cons (ps_set (i := 1) sc_law.nd rfl (by first | exact Or.inl rfl | exact Or.inr rfl) (pe_c c_l_pot hr (by decide) (by rfl) (pa_cons (pv 0) (pa_cons pe_int pa_nil))))
      (pss_cons (ps_set (i := 3) sc_law.nd rfl (by first | exact Or.inl rfl | exact Or.inr rfl) (pe_lst pa_nil))
      (pss_cons (ps_for PassesOwn.never rfl (pi_range1 rfl T.range_ (pa_cons (pe_ix ix_list (pe_lst (pa_cons pe_int (pa_cons pe_int (pa_cons pe_int (pa_cons pe_int (pa_cons pe_int pa_nil)))))) (pe_c c_l_draw hr (by decide) (by rfl) (pa_cons (pv 1) (pa_cons pe_int pa_nil))) (fun _ _ => rfl)) pa_nil)) (pg_name (i := 4) sc_law.nd rfl (by first | exact Or.inl rfl | exact Or.inr rfl)) (pss_cons (ps_set (i := 5) sc_law.nd rfl (by first | exact Or.inl rfl | exact Or.inr rfl) (pe_slice sl_list (pe_c c_l_drawn_pairs hr (by decide) (by rfl) (pa_cons (pv 1) pa_nil)) po_none (po_some pe_int)))
      (pss_one (ps_expr (pe_bm PySem.F.plainAttrs_list PySem.F.slot_list_append PySem.F.type_list_append mt_append (pv 3) (pa_cons (pe_tup (pa_cons (pv 5) (pa_cons (pe_cmpR op_eq (pe_c c_l_draw hr (by decide) (by rfl) (pa_cons (pv 1) (pa_cons pe_int pa_nil))) pe_int (nomark _)) pa_nil))) pa_nil))))))
      (pss_cons (ps_set (i := 1) sc_law.nd rfl (by first | exact Or.inl rfl | exact Or.inr rfl) (pe_c c_l_pot hr (by decide) (by rfl) (pa_cons (pv 0) (pa_cons pe_int pa_nil))))
      (pss_cons (ps_set (i := 6) sc_law.nd rfl (by first | exact Or.inl rfl | exact Or.inr rfl) (pe_c c_l_draw hr (by decide) (by rfl) (pa_cons (pv 1) (pa_cons pe_int pa_nil))))
      (pss_cons (ps_set (i := 7) sc_law.nd rfl (by first | exact Or.inl rfl | exact Or.inr rfl) (pe_lst pa_nil))
      (pss_cons (ps_if (PW.pt (pw_or (pt_truth (pe_ix ix_tup (pv 2) pe_int (fun _ _ => rfl)) (by intro _; rfl)) (pw_or1 (pt_val (pe_ix ix_tup (pv 2) pe_int (fun _ _ => rfl)))))) (pss_one (ps_setLc (i := 7) (own := [("_law_k", 4)]) (g := gName 4) rfl sc_law.nd rfl rfl (sw_true rfl rfl rfl (by decide +kernel)) (pi_range1 rfl T.range_ (pa_cons pe_int pa_nil)) (blkOk_by (own := [("_law_k", 4)]) (N := n_law) (sc := defScope s_law) (by decide +kernel)) (fun _ _ _ _ _ => pg_name (i := 4) sc_law.nd rfl (by first | exact Or.inl rfl | exact Or.inr rfl)) (fun _ _ _ _ _ => pts_nil) (fun _ _ _ _ _ => (pe_c c_l_member hr (by decide) (by rfl) (pa_cons (pv 1) (pa_cons (pv 2) pa_nil)))))) pss_nil)
      (pss_cons (ps_set (i := 8) sc_law.nd rfl (by first | exact Or.inl rfl | exact Or.inr rfl) (pe_spK cS T.S.g hr (by decide) (by rfl) (pa_cons (pe_callTy call_list_of (by rfl) T.list_ (by decide +kernel) (pa_cons (pe_ix ix_tup (pv 2) pe_int (fun _ _ => rfl)) pa_nil)) pa_nil) (pk_cons (pe_ix ix_tup (pv 2) pe_int (fun _ _ => rfl)) pk_nil)))
      (pss_cons (ps_setLc (i := 9) (own := [("_law_pairs", 5), ("_law_none", 10)]) (g := gTup K 2 (gCons (gName 5) (gCons (gName 10) gNil))) rfl sc_law.nd rfl rfl (sw_true rfl rfl rfl (by decide +kernel)) (pi_list (pv 3)) (blkOk_by (own := [("_law_pairs", 5), ("_law_none", 10)]) (N := n_law) (sc := defScope s_law) (by decide +kernel)) (fun _ _ _ _ _ => pg_tup rfl (pgs_cons (pg_name (i := 5) sc_law.nd rfl (by first | exact Or.inl rfl | exact Or.inr rfl)) (pgs_cons (pg_name (i := 10) sc_law.nd rfl (by first | exact Or.inl rfl | exact Or.inr rfl)) pgs_nil))) (fun _ _ _ _ _ => pts_nil) (fun _ _ _ _ _ => (pe_spK cS T.S.g hr (by decide) (by rfl) (pa_cons (pe_callTy (listOfK (K := K) rfl) (by rfl) T.list_ (by decide +kernel) (pa_cons (pv 5) pa_nil)) pa_nil) (pk_cons (pv 10) pk_nil))))
      (pss_cons (ps_set (i := 11) sc_law.nd rfl (by first | exact Or.inl rfl | exact Or.inr rfl) (pe_callTy call_list_of (by rfl) T.list_ (by decide +kernel) (pa_cons (pv 9) pa_nil)))
      (pss_cons (ps_set (i := 12) sc_law.nd rfl (by first | exact Or.inl rfl | exact Or.inr rfl) (pe_c c_pieces hr (by decide) (by rfl) (pa_cons (pv 8) (pa_cons (pv 9) pa_nil))))
      (pss_cons (ps_set (i := 13) sc_law.nd rfl (by first | exact Or.inl rfl | exact Or.inr rfl) (pe_c c_l_due_pieces hr (by decide) (by rfl) (pa_cons (pv 2) (pa_cons (pv 3) pa_nil))))
      (pss_cons (ps_if (PW.pt (pw_or (pt_cmpR (op_neSame hr.units) (pv 9) (pv 11) (nomark _)) (pw_or1 (pt_not (pt_val (pe_c c_l_pieces_right hr (by decide) (by rfl) (pa_cons (pv 12) (pa_cons (pv 2) (pa_cons (pv 3) (pa_cons (pv 13) pa_nil)))))))))) (pss_one (ps_ret pe_bl)) pss_nil)
      (pss_cons (ps_if (pt_not (pt_val (pe_c c_l_pieces_right hr (by decide) (by rfl) (pa_cons (pe_c c_pieces hr (by decide) (by rfl) (pa_cons (pv 8) (pa_cons (pe_callTy call_tuple_of (by rfl) T.tuple_ (by decide +kernel) (pa_cons (pv 9) pa_nil)) pa_nil))) (pa_cons (pv 2) (pa_cons (pv 3) (pa_cons (pv 13) pa_nil))))))) (pss_one (ps_ret pe_bl)) pss_nil)
      (pss_cons (ps_for PassesOwn.never rfl (pi_list (pe_lst (pa_cons pe_int (pa_cons pe_int (pa_cons pe_int (pa_cons (pv 6) pa_nil)))))) (pg_name (i := 14) sc_law.nd rfl (by first | exact Or.inl rfl | exact Or.inr rfl)) (pss_cons (ps_set (i := 15) sc_law.nd rfl (by first | exact Or.inl rfl | exact Or.inr rfl) (pe_c c_l_members_right hr (by decide) (by rfl) (pa_cons (pv 12) (pa_cons (pv 2) (pa_cons (pv 13) (pa_cons (pv 14) pa_nil))))))
      (pss_cons (ps_set (i := 16) sc_law.nd rfl (by first | exact Or.inl rfl | exact Or.inr rfl) (pe_c c_samples hr (by decide) (by rfl) (pa_cons (pv 8) (pa_cons (pv 9) (pa_cons (pv 14) pa_nil)))))
      (pss_cons (ps_if (PW.pt (pw_or (pt_cmpR op_isRB (pv 15) pe_bl (nomark _)) (pw_or1 (pt_not (pt_val (pe_c c_l_is_list hr (by decide) (by rfl) (pa_cons (pv 16) (pa_cons (pv 15) pa_nil)))))))) (pss_one (ps_ret pe_bl)) pss_nil)
      (pss_cons (ps_expr (pe_bm PySem.F.plainAttrs_list PySem.F.slot_list_append PySem.F.type_list_append mt_append (pv 16) (pa_cons pe_int pa_nil)))
      (pss_one (ps_if (pt_not (pt_val (pe_c c_l_is_list hr (by decide) (by rfl) (pa_cons (pe_c c_samples hr (by decide) (by rfl) (pa_cons (pv 8) (pa_cons (pe_callTy call_tuple_of (by rfl) T.tuple_ (by decide +kernel) (pa_cons (pv 9) pa_nil)) (pa_cons (pv 14) pa_nil)))) (pa_cons (pv 15) pa_nil))))) (pss_one (ps_ret pe_bl)) pss_nil)))))))
      (pss_cons (ps_if (PW.pt (pw_or (pt_cmpR (op_neSame hr.units) (pv 9) (pv 11) (nomark _)) (pw_or1 (pt_cmpR (op_neS T.S.isi T.ne_ cEq hr (by decide)) (pv 8) (pe_spK cS T.S.g hr (by decide) (by rfl) (pa_cons (pe_callTy call_list_of (by rfl) T.list_ (by decide +kernel) (pa_cons (pe_ix ix_tup (pv 2) pe_int (fun _ _ => rfl)) pa_nil)) pa_nil) (pk_cons (pe_ix ix_tup (pv 2) pe_int (fun _ _ => rfl)) pk_nil)) (nomark _))))) (pss_one (ps_ret pe_bl)) pss_nil)
      (pss_one (ps_ret (pe_c c_l_parted hr (by decide) (by rfl) (pa_cons (pv 12) (pa_cons (pv 7) (pa_cons (pv 3) (pa_cons (pe_c c_samples hr (by decide) (by rfl) (pa_cons (pv 8) (pa_cons (pv 9) (pa_cons pe_int pa_nil)))) pa_nil))))))))))))))))))))))))), ?_⟩
    -- the domain
    refine q_asgN (en_cl (P := fun p H' => PotAt H' p) (ea_cons (ev_var rfl) (ea_cons ev_c ea_nil)) fun H1 e1 Q1 k1 => ⟨a, ns, 0, rfl, ex_l e1 hS, k1⟩) fun p0 H1 hp0 e1 hpot0 => ?_
    refine q_asgMN hpot0 (emn_pair (emn_drawn rfl) rfl) fun d0 H2 hd0 m2 ⟨dn, db, hDh, hdok, hdl⟩ => ?_
    have e02 : Ex H H2 := m2.exF e1 hp0
    have hD2 : RwAt H2 (.ref d0) dn db := hDh.ex (hide_ex _ _)
    clear hDh m2 hpot0 hd0 e1
    -- the cuts
    refine q_asgN (en_cl (P := fun p H' => PotAt H' p) (ea_cons (ev_var rfl) (ea_cons ev_c ea_nil)) fun H1 e1 Q1 k1 => ⟨a, ns, 1, rfl, ex_l (e02.trans e1) hS, k1⟩) fun p1 H3 hp1 e3 hpot1 => ?_
    refine q_asgL (el_lst ea_nil (Nat.zero_le _)) fun cu H4 hcu e4 hcu4 => ?_
    have ncp : cu ≠ p1 := pot_ne hpot1 hcu
    have hcu2 : H2 cu = none := fresh_back e3 hcu
    refine q_forRM (N := 5) (by decide) (hpot1.ex e4) (em_pick (is := [0, 1, 2, 3, 5]) (el_lst (ea_cons ev_c (ea_cons ev_c (ea_cons ev_c (ea_cons ev_c (ea_cons ev_c ea_nil))))) (by decide)) (em_drawC rfl (by decide)) (by decide))
      (fun i σ' H' => ∃ o4 o5 us, ∃ cs : List Rs, σ' = [some (.ref a), some (.ref p1), some (.ref d0), some (.ref cu), o4, o5, none, none, none, none, none, none, none, none, none, none, none] ∧ Ex H2 H' ∧ PotAt H' p1 ∧ H' cu = some (.lst us) ∧ Rws (hide cu (hide p1 H')) us cs ∧ (∀ s ∈ cs, ∀ q ∈ s.1, okB q) ∧ (∀ s ∈ cs, s.1.length ≤ 3) ∧ cs.length ≤ i)
      (fun H5 m5 => ⟨none, none, [], [], rfl, m5.exF (e3.trans e4) hp1, m5.1, m5.2 _ _ (by rw [hide_ne ncp]; exact hcu4), .nil, (fun _ h => nomatch h), (fun _ h => nomatch h), Nat.le_refl _⟩) ?_ ?_
    · rintro i σ' H' hi ⟨o4, o5, us, cs, rfl, eH, hpt, hus, hR, hok, hsl, hlen⟩
      refine q_asgMN hpt (emn_cut (n := 3) (emn_drawn rfl)) fun pr H6 hpr m6 ⟨npr, ps, pus, hpu, hps, hpo, hpl⟩ => ?_
      have npc : pr ≠ cu := fun z => by
        rw [z, hus] at hpr
        cases hpr
      have hcu6 : H6 cu = some (.lst us) := m6.2 _ _ (by rw [hide_ne ncp]; exact hus)
      refine s_appM m6.1 hcu6 ncp rfl (emn_pairV (ps := ps) (us := pus) (hide_some hpu).2 npr (Svs.ex (hide_ex _ _) hps) rfl rfl) (by have : us.length = cs.length := plen hR; omega) fun t H7 ht m7 ⟨b, h7⟩ => ?_
      have m67 := m6.trans m7
      have ntc : t ≠ cu := fun z => by
        rw [z, hcu6] at ht
        cases ht
      have ntp : t ≠ p1 := pot_ne m6.1 ht
      have hcu7 : hide p1 H7 cu = some (.lst us) := m7.hid _ _ (by rw [hide_ne ncp]; exact hcu6)
      refine ⟨_, _, us ++ [.ref t], cs ++ [(ps, b)], rfl, Ex.mut (Mv.exF eH hp1 m67) hcu2, ?_, upd_same, ?_, ?_, ?_, ?_⟩
      · obtain ⟨x, y, h, h'⟩ := m7.1
        exact ⟨x, y, by rw [upd_ne ncp.symm]; exact h, h'⟩
      · rw [hide_two]
        refine psnoc ⟨t, pr, pus, rfl, by rw [hide_ne ntc, hide_ne ntp]; exact h7, ?_, ?_⟩ (Rws.ex (hide_mono m67.hid) hR)
        · rw [hide_ne npc]
          exact m7.hid _ _ hpu
        · exact RwAt.hideL hcu7 (Svs.ex m7.hid hps)
      · intro s hs
        rcases List.mem_append.mp hs with h | h
        · exact hok s h
        · rw [List.mem_singleton.mp h]
          exact hpo
      · intro s hs
        rcases List.mem_append.mp hs with h | h
        · exact hsl s h
        · rw [List.mem_singleton.mp h]
          exact hpl
      · rw [List.length_append]
        show cs.length + 1 ≤ i + 1
        omega
    rintro n σ' H5 hn ⟨o4, o5, us, cs, rfl, eH, hpt, hus, hRh, hcok, hcs, hlen⟩
    have hR : Rws H5 us cs := Rws.ex ((hide_ex _ _).trans (hide_ex _ _)) hRh
    have R : Raw dn cs := ⟨hdok, hcok, hdl, by omega, hcs⟩
    clear hRh hcok hcs hpt
    -- how many, which contents
    refine q_asgN (en_cl (P := fun p H' => PotAt H' p) (ea_cons (ev_var rfl) (ea_cons ev_c ea_nil)) fun H1 e1 Q1 k1 => ⟨a, ns, 2, rfl, ex_l ((e02.trans eH).trans e1) hS, k1⟩) fun p2 H6 hp2 e6 hpot2 => ?_
    refine q_asgM hpot2 (em_drawC rfl (by decide)) fun v H7 m7 ⟨many, em, hm0, hm1⟩ => ?_
    subst em
    refine q_asgL (xs := []) (el_lst ea_nil (Nat.zero_le _)) fun c0 H8 hc0 e8 hc08 => ?_
    have e58 : Ex H5 H8 := (m7.exF e6 hp2).trans e8
    have hpot8 : PotAt H8 p2 := m7.1.ex e8
    have hD5 : RwAt H5 (.ref d0) dn db := hD2.ex eH
    obtain ⟨sa, l, dus, hsa, hdt5, hdl5, hSd5⟩ := id hD5
    cases hsa
    have ldn : dus.length = dn.length := plen hSd5
    refine q_whenS (fun σ' H' => ∃ (ct : Addr) (cts : List (Option Int)), σ' = [some (.ref a), some (.ref p2), some (.ref d0), some (.ref cu), o4, o5, some (.int many), some (.ref ct), none, none, none, none, none, none, none, none, none] ∧ H' ct = some (.lst (cts.map oV)) ∧ (∀ c ∈ cts, inC dn db c = true) ∧ Ex H5 H') (b := !dus.isEmpty || db) (et_or (et_truL (ev_ixT (v := .ref l) (ev_var rfl) ev_c (e58 _ _ hdt5) rfl) (e58 _ _ hdl5)) (fun _ => et_V (ev_ixT (ev_var rfl) ev_c (e58 _ _ hdt5) rfl))) (fun hb H9 e9 D' kd => ?_) (fun hb H9 e9 => ⟨c0, [], rfl, e9 _ _ hc08, (fun _ h => nomatch h), e58.trans e9⟩) ?_
    · have e59 := e58.trans e9
      refine s_asgMN (hpot8.ex e9) (emn_members (n := 6) (i := 1) (j := 2) (k := 4) (vs := [4]) (dv := .ref d0) (dn := dn) (db := db) (hD5.ex (ex_hide hp2 e59)) hdok hdl ?_ (by decide) (fun _ => rfl) (fun _ => rfl) (fun _ => rfl)) fun ct H10 hct m10 ⟨cts, h, hin⟩ => kd _ H10 ⟨ct, cts, rfl, h, hin, m10.exF e59 hp2⟩
      cases dn with
      | cons _ _ => exact .inl (fun z => nomatch z)
      | nil =>
        have : dus = [] := List.length_eq_zero_iff.mp ldn
        rw [this] at hb
        cases db with
        | true => exact .inr rfl
        | false => cases hb
    rintro σ7 HB ⟨ct, cts, rfl, hct, hin, e5B⟩
    have hdt := e5B _ _ hdt5
    have hdl := e5B _ _ hdl5
    have hSd := Svs.ex e5B hSd5
    have hD : RwAt HB (.ref d0) dn db := hD5.ex e5B
    have hcuB := e5B _ _ hus
    have hRB := Rws.ex e5B hR
    have lus : us.length = cs.length := plen hRB
    have hcl := R.cl
    have hdn : dn.length ≤ 1000 := by have := R.dl; omega
    clear e58 hpot8 hc08 e8 hc0 m7 hpot2 e6 hp2 hdt5 hdl5 hSd5 hD5 hR hus e5B eH hD2
    -- the spans
    have spW : ∀ {σ : L2.St} {H1 : Hp}, Ex HB H1 → σ[2]? = some (some (.ref d0)) → EvN (tMakeK CS 1 1 (sp_init CS) (fun vs zs => vs ++ zs) E0 (tCons (tCB (fun xs H Q => ∃ p ys, xs = [.ref p] ∧ (SqL K H p ys ∨ SqT K H p ys) ∧ ∀ l, H l = none → Q (.ref l) (upd H l (.lst ys))) (tCons (tOp (rIxT K) (tVar 2) (tC (.int 0))) tNil)) tNil) (tCons (tOp (rIxT K) (tVar 2) (tC (.int 1))) tNil)) σ H1 (fun p H' => SpAt CS H' (.ref p) (normal dn) db) := fun e h2 =>
      en_spL (K := K) (C := CS) (us := dus) (ns := dn) (b := db) (ev_ixT (v := .ref l) (ev_var h2) ev_c (e _ _ hdt) rfl) (e _ _ hdl) (hSd.ex e) (fun H1 e1 => ea_cons (ev_ixT (ev_var h2) ev_c ((e.trans e1) _ _ hdt) rfl) ea_nil) R.dS hdn
    refine q_asgN (spW (Ex.refl _) rfl) fun wh H10 hwh e10 hW => ?_
    refine q_asgN (el_new (β := Rs) (ys := cs) (fun p H' c => SpAt CS H' (.ref p) (normal c.1) c.2) (fun x H H' b k h => h.kt k) (ev_var (i := 3) rfl) (e10 _ _ hcuB) lus (by omega) ?_) fun gv H11 hgv e11 ⟨gvs, hgvs, hgp⟩ => ?_
    · intro i x y H1 W e1 hx hy k
      obtain ⟨y', hy', hRy⟩ := pget hRB hx
      rw [hy] at hy'
      cases Option.some.inj hy'
      obtain ⟨t, pl, pus, rfl, ht, hpl, hps⟩ := id hRy
      have my : y ∈ cs := List.mem_iff_getElem?.mpr ⟨i, hy⟩
      refine g_unp2 ((e10.trans e1) _ _ ht) (k _ rfl ?_)
      exact en_spL (K := K) (C := CS) (us := pus) (ns := y.1) (b := y.2) (ev_var (i := 5) rfl) ((e10.trans e1) _ _ hpl) (hps.ex (e10.trans e1)) (fun H1 e1 => ea_cons (ev_var rfl) ea_nil) (R.cS y my) (by have := R.sl y my; omega)
    have hSps : Sps CS H11 gvs (nor cs) := paired_map (Paired.mapP hgp fun v y ⟨p, e, h⟩ => by rw [e]; exact h)
    have hrefs : ∀ v ∈ gvs, ∃ r, v = V.ref r := fun v hv => by
      obtain ⟨i, hi⟩ := List.mem_iff_getElem?.mp hv
      obtain ⟨y, _, p, e, _⟩ := pget hgp hi
      exact ⟨p, e⟩
    have lnor : (nor cs).length ≤ 1000 := by
      unfold nor
      rw [List.length_map]
      omega
    refine q_asgN (en_listOf (ev_var (i := 9) rfl) (.inl hgvs)) fun kp H12 hkp e12 hkp12 => ?_
    have eB2 : Ex HB H12 := (e10.trans e11).trans e12
    have hW12 : SpAt CS H12 (.ref wh) (normal dn) db := hW.ex (e11.trans e12)
    have hgv12 := e12 _ _ hgvs
    have hSps12 := Sps.ex e12 hSps
    refine q_asgN (en_cl (P := fun p H' => ∃ pvs ds, IsPcs (normal dn) db (nor cs) ds ∧ H' p = some (.lst pvs) ∧ Pcs CS CP H' pvs ds) (ea_cons (ev_var rfl) (ea_cons (ev_var rfl) ea_nil)) fun H1 e1 Q1 k1 => ⟨.ref wh, .ref gv, normal dn, db, nor cs, rfl, hW12.ex e1, ⟨gv, gvs, rfl, .inl (e1 _ _ hgv12), hSps12.ex e1⟩, lnor, R.nstarts db, k1⟩) fun fa H13 hfa e13 ⟨pvs, ds, hI, hpv, hPc⟩ => ?_
    refine q_asgN (en_cl (P := fun p H' => ∃ its us', IsDue dn db cs its ∧ H' p = some (.lst us') ∧ Dues H' us' its ∧ us'.length ≤ 64) (ea_cons (ev_var rfl) (ea_cons (ev_var rfl) ea_nil)) fun H1 e1 Q1 k1 => ⟨.ref d0, cu, us, dn, db, cs, rfl, hD.ex ((eB2.trans e13).trans e1), ((eB2.trans e13).trans e1) _ _ hcuB, Rws.ex ((eB2.trans e13).trans e1) hRB, by omega, R.starts db, k1⟩) fun du H14 hdu e14 ⟨its, ws, hDue, hws, hDs, hwl⟩ => ?_
    have hds : ds = nonP db cs ++ its.map itP := due_pcs R hI hDue
    obtain ⟨hil, hio⟩ := its_ok R hI hds
    -- all that stands from here on
    have eB4 : Ex HB H14 := (eB2.trans e13).trans e14
    have hD14 : RwAt H14 (.ref d0) dn db := hD.ex eB4
    have hcu14 := eB4 _ _ hcuB
    have hR14 := Rws.ex eB4 hRB
    have hct14 := eB4 _ _ hct
    have hW14 : SpAt CS H14 (.ref wh) (normal dn) db := hW12.ex (e13.trans e14)
    have hgv14 := (e13.trans e14) _ _ hgv12
    have hSps14 := Sps.ex (e13.trans e14) hSps12
    have hkp14 := (e13.trans e14) _ _ hkp12
    have hpv14 := e14 _ _ hpv
    have hPc14 := Pcs.ex e14 hPc
    clear hW hgp hSps hW12 hgv12 hSps12 hkp12 hpv hPc hgvs
    have prOk : ∀ {H1 : Hp} {fb : Addr} {qvs : List V} {Q1 : VK}, Ex H14 H1 → H1 fb = some (.lst qvs) → Pcs CS CP H1 qvs ds → RetV (.bl true) H1 Q1 → sp_piecesR CS CP [.ref fb, .ref d0, .ref cu, .ref du] H1 Q1 E0 := fun e h1 h2 k =>
      ⟨_, .ref d0, cu, du, _, ds, us, ws, dn, db, cs, its, rfl, h1, h2, hD14.ex e, e _ _ hcu14, Rws.ex e hR14, by omega, e _ _ hws, Dues.ex e hDs, hds, by omega, fun t ht => ⟨(hio t ht).1, by have := (hio t ht).2.2; omega⟩, k⟩
    refine q_when (b := false || !true) (et_or (et_T (ev_neSame (ev_var rfl) (ev_var rfl) hgv14 hkp14 hrefs)) (fun _ => et_not (et_V (ev_cl (ea_cons (ev_var rfl) (ea_cons (ev_var rfl) (ea_cons (ev_var rfl) (ea_cons (ev_var rfl) ea_nil)))) fun H1 e1 Q1 k1 => prOk e1 (e1 _ _ hpv14) (Pcs.ex e1 hPc14) k1)))) (fun hb => nomatch hb) (fun _ H15 e15 => ?_)
    have tupG : ∀ {σ : L2.St} {H1 : Hp}, Ex H14 H1 → σ[9]? = some (some (.ref gv)) → EvN (tCB (fun xs H Q => ∃ p ys, xs = [.ref p] ∧ ((SqL K H p ys ∧ ∀ l, H l = none → Q (.ref l) (upd H l (.tup ys))) ∨ (SqT K H p ys ∧ Q (.ref p) H))) (tCons (tVar 9) tNil)) σ H1 (fun p H' => H' p = some (.tup gvs)) := fun e h9 => en_tupOf (ev_var h9) (e _ _ hgv14)
    refine q_when (b := !true) (et_not (et_V fun H1 e1 Q1 k1 => ?_)) (fun hb => nomatch hb) (fun _ H16 e16 => ?_)
    · -- pieces(whole, tuple(given))
      have e41 := e15.trans e1
      refine ⟨_, rfl, tupG e41 rfl H1 (Ex.refl _) _ fun tg H2 htg e2 h2 => ?_⟩
      have e42 := e41.trans e2
      refine ⟨.ref wh, .ref tg, normal dn, db, nor cs, rfl, hW14.ex e42, ⟨tg, gvs, rfl, .inr h2, hSps14.ex e42⟩, lnor, R.nstarts db, fun fb H3 hfb e3 ⟨qvs, ds', hI', hq3, hPq⟩ => ?_⟩
      cases hI'.one hI
      exact ⟨_, rfl, _, rfl, _, rfl, prOk (e42.trans e3) hq3 hPq fun H4 e4 => k1 H4 ((e2.trans e3).trans e4)⟩
    -- the samples
    have e46 := e15.trans e16
    obtain ⟨mn, rfl⟩ : ∃ mn : Nat, many = (mn : Int) := ⟨many.toNat, by omega⟩
    refine q_forNL (xs := [.int 0, .int 1, .int 2, .int (mn : Int)]) (el_lst (ea_cons ev_c (ea_cons ev_c (ea_cons ev_c (ea_cons (ev_var rfl) ea_nil)))) (Nat.le_of_ble_eq_true rfl)) (fun p i σ' H' => ∃ o14 o15 o16, σ' = [some (.ref a), some (.ref p2), some (.ref d0), some (.ref cu), o4, o5, some (.int (mn : Int)), some (.ref ct), some (.ref wh), some (.ref gv), none, some (.ref kp), some (.ref fa), some (.ref du), o14, o15, o16] ∧ Ex H14 H' ∧ H' p = some (.lst [.int 0, .int 1, .int 2, .int (mn : Int)]))
      (fun p H1 hp e1 h1 => ⟨none, none, none, rfl, e46.trans e1, h1⟩) (fun p i σ' H' _ ⟨_, _, _, _, _, h⟩ => SqL.of h) ?_ ?_
    · rintro p i x σ' H' hx ⟨o14, o15, o16, rfl, eH, hp⟩
      obtain ⟨m, rfl, hm⟩ : ∃ m : Nat, x = .int (m : Int) ∧ m ≤ 100 := by
        have hx' := List.mem_iff_getElem?.mpr ⟨i, hx⟩
        rcases List.mem_cons.mp hx' with rfl | hx'
        · exact ⟨0, rfl, by decide⟩
        rcases List.mem_cons.mp hx' with rfl | hx'
        · exact ⟨1, rfl, by decide⟩
        rcases List.mem_cons.mp hx' with rfl | hx'
        · exact ⟨2, rfl, by decide⟩
        rw [List.mem_singleton.mp hx']
        exact ⟨mn, rfl, by omega⟩
      show tSeq _ _ _ _ _
      have l6 : (ds.flatMap fun d => mO d.1 m).length ≤ 6400 := by
        have h1 := flatL_le (f := fun d : Pd => mL d.1 m) (m := m) (ds := ds) fun d _ => mL_len _ _
        rw [flat_mO, List.length_map] at h1
        have h2 := (pcs_okP hI).1
        have h3 : ds.length * m ≤ 64 * 100 := Nat.mul_le_mul h2 hm
        omega
      have lO : (ds.flatMap fun d => mO d.1 m).length ≤ 100000 := by omega
      refine q_asgN (en_cl (P := fun l H' => H' l = some (.lst (ds.flatMap fun d => mL d.1 m))) (ea_cons (ev_var rfl) (ea_cons (ev_var rfl) (ea_cons (ev_var rfl) (ea_cons (ev_var rfl) ea_nil)))) fun H1 e1 Q1 k1 => ⟨fa, .ref d0, du, pvs, ds, ws, dn, db, its, cs, m, rfl, (eH.trans e1) _ _ hpv14, Pcs.ex (eH.trans e1) hPc14, hD14.ex (eH.trans e1), (eH.trans e1) _ _ hws, Dues.ex (eH.trans e1) hDs, hds, by omega, fun t ht => ⟨(hio t ht).1, (hio t ht).2.1⟩, hm, k1⟩) fun tl H1 htl e1 h1 => ?_
      have e41 := eH.trans e1
      have smp : ∀ {H2 : Hp} {sv : V} {Q2 : VK}, Ex H14 H2 → SqAt CS H2 sv (nor cs) → RetN (fun p H' => H' p = some (.lst (ds.flatMap fun d => mL d.1 m))) H2 Q2 → sp_samples CS CP [.ref wh, sv, .int (m : Int)] H2 Q2 E0 := fun e hsv k =>
        ⟨.ref wh, _, normal dn, db, nor cs, m, rfl, hW14.ex e, hsv, lnor, R.nstarts db, hm, fun p H3 hp e3 ⟨Rl, ⟨ds', hI', er⟩, h3⟩ => k p H3 hp e3 (by
          cases hI'.one hI
          rw [← er]
          exact h3)⟩
      refine q_asgN (en_cl (P := fun l H' => H' l = some (.lst (ds.flatMap fun d => mL d.1 m))) (ea_cons (ev_var rfl) (ea_cons (ev_var rfl) (ea_cons (ev_var rfl) ea_nil))) fun H2 e2 Q2 k2 => smp (e41.trans e2) ⟨gv, gvs, rfl, .inl ((e41.trans e2) _ _ hgv14), hSps14.ex (e41.trans e2)⟩ k2) fun fw H2 hfw e2 h2 => ?_
      have e42 := e41.trans e2
      have ntf : tl ≠ fw := fun z => by
        rw [← z, h1] at hfw
        cases hfw
      refine q_when (b := false || !true) (et_or (et_T (ev_isRB (ev_var rfl) ev_c)) (fun _ => et_not (et_V (ev_cl (ea_cons (ev_var rfl) (ea_cons (ev_var rfl) ea_nil)) fun H3 e3 Q3 k3 => ⟨fw, tl, ds.flatMap fun d => mO d.1 m, rfl, by rw [← flat_mO]; exact e3 _ _ h2, by rw [← flat_mO]; exact (e2.trans e3) _ _ h1, lO, k3⟩)))) (fun hb => nomatch hb) (fun _ H3 e3 => ?_)
      refine q_app (e3 _ _ h2) (ev_var rfl) ev_c (by rw [flat_mO, List.length_map]; omega) fun H4 e4 => ?_
      have hfw14 : H14 fw = none := fresh_back e41 hfw
      have e45 : Ex H14 (upd H4 fw (.lst ((ds.flatMap fun d => mL d.1 m) ++ [.int 0]))) := Ex.mut ((e42.trans e3).trans e4) hfw14
      have hfwH : H' fw = none := fresh_back e1 hfw
      have e'5 : Ex H' (upd H4 fw (.lst ((ds.flatMap fun d => mL d.1 m) ++ [.int 0]))) := Ex.mut (((e1.trans e2).trans e3).trans e4) hfwH
      have htl5 : (upd H4 fw (.lst ((ds.flatMap fun d => mL d.1 m) ++ [.int 0]))) tl = some (.lst (ds.flatMap fun d => mL d.1 m)) := by
        rw [upd_ne ntf]
        exact ((e2.trans e3).trans e4) _ _ h1
      generalize upd H4 fw (.lst ((ds.flatMap fun d => mL d.1 m) ++ [.int 0])) = H5 at e45 e'5 htl5
      refine s_when (b := !true) (et_not (et_V (ev_isl (os := ds.flatMap fun d => mO d.1 m) (P := fun l H' => H' l = some (.lst (ds.flatMap fun d => mL d.1 m))) (fun H6 e6 Q6 k6 => ?_) (fun p H' h => by rw [← flat_mO]; exact h) (ev_var rfl) (by rw [← flat_mO]; exact htl5) lO))) (fun hb => nomatch hb) (fun _ H6 e6 => ⟨_, _, _, rfl, e45.trans e6, e6 _ _ (e'5 _ _ hp)⟩)
      have e46 := e45.trans e6
      refine ⟨_, rfl, tupG e46 rfl H6 (Ex.refl _) _ fun tg H7 htg e7 h7 => ?_⟩
      exact ⟨_, rfl, smp (e46.trans e7) ⟨tg, gvs, rfl, .inr h7, hSps14.ex (e46.trans e7)⟩ fun l2 H8 hl2 e8 h8 => k6 l2 H8 (fresh_back e7 hl2) (e7.trans e8) h8⟩
    · rintro p σ' H' ⟨o14, o15, o16, rfl, eH, hp⟩
      refine q_when (b := false || !true) (et_or (et_T (ev_neSame (ev_var rfl) (ev_var rfl) (eH _ _ hgv14) (eH _ _ hkp14) hrefs)) (fun _ => et_T (ev_opN (ev_var rfl) (fun H2 e2 => spW ((eB4.trans eH).trans e2) rfl) (fun H2 p e2 hp H3 e3 Q3 k3 => ?_)))) (fun hb => nomatch hb) (fun _ H1 e1 => ?_)
      · have hw3 := hW14.ex ((eH.trans e2).trans e3)
        obtain ⟨pa, pdx, pt, pts, po, hpe, hpA, _⟩ := id (hp.ex e3)
        cases hpe
        obtain ⟨wa, wdx, wt, wts, wo, hwe, hwA, _⟩ := id hw3
        cases hwe
        exact ⟨wh, wdx, _, p, pdx, _, rfl, rfl, .inr hwA, .inr hpA, _, _, normal dn, db, rfl, hw3, hp.ex e3, fun H4 e4 => ⟨_, rfl, k3 H4 e4⟩⟩
      have e41 := eH.trans e1
      refine ⟨_, rfl, _, rfl, _, rfl, ?_⟩
      show tCl (sp_samples CS CP) _ _ _ _
      refine ⟨_, rfl, _, rfl, ?_⟩
      refine ⟨.ref wh, .ref gv, normal dn, db, nor cs, 2, rfl, hW14.ex e41, ⟨gv, gvs, rfl, .inl (e41 _ _ hgv14), hSps14.ex e41⟩, lnor, R.nstarts db, by decide, fun fw H2 hfw e2 ⟨Rl, ⟨ds', hI', er⟩, h2⟩ => ?_⟩
      cases hI'.one hI
      have e42 := e41.trans e2
      exact ⟨fa, ct, cu, fw, pvs, ds, cts, us, cs, rfl, e42 _ _ hpv14, Pcs.ex e42 hPc14, by have := (pcs_okP hI).1; omega, e42 _ _ hct14, e42 _ _ hcu14, Rws.ex e42 hR14, by omega, by rw [h2, er, flat_mO]; rfl, part_ok R hI hin, fun H3 e3 => q H3⟩
end
end K3

/-! K3Y: what the top has left. Printed by mkend.py. -/
namespace K3
open PySem PySem.Spec PyProof.Rows L2 Evl SlX
section
variable {K : PySem.W.Frag} {h : Heap} {mg : Str → Option Value} {f : Addr} {oc kV dc pm cd ct : Value} {od an : Option Addr} {sl : Array (Option Value)}
theorem kit_self (C : Addr) : PySem.W.kitOne K (.ref C) (.ref C) = some true := by
  unfold PySem.W.kitOne
  rw [if_pos (beq_self_eq_true _)]
theorem def_mk {x : Str} {st : Stmt} {ps : List Str} (X : K.In h) (G : h.Ns mainGlobals mg) (a : PySem.W.nsIn K mainGlobals x = some (some (.ref f))) (l : K.lookup f = some ⟨oc, od, .func (PySem.W.fnOf x x (defArgs st) (defBody st) (defScope st) .none kV dc pm an cd ct), sl⟩) (c : PySem.W.codeIn K cd x = true) (k : PySem.W.keepIn K (.ref f) = true)
    (hb : ∀ (kV doc pm : Value) (an : Option Addr) (cdv ct : Value) (us : List Value), us.length = ps.length → bindArgs (PySem.W.fnOf x x (defArgs st) (defBody st) (defScope st) .none kV doc pm an cdv ct) ⟨us, []⟩ = pure (ps.zip us)) : DefAt K mg x st ps :=
  ⟨f, _, fun_mk l c k, PySem.W.mg_of X G a, (fun_mk l c k).binds hb⟩
theorem meth_mk {C : Addr} {x q : Str} {st : Stmt} {ps : List Str} (a : PySem.W.findIn K (.ref C) x = some (some (.ref f))) (i : PySem.W.isFn K (.ref f) = true) (l : K.lookup f = some ⟨oc, od, .func (PySem.W.fnOf x q (defArgs st) (defBody st) (defScope st) .none kV dc pm an cd ct), sl⟩) (c : PySem.W.codeIn K cd q = true) (k : PySem.W.keepIn K (.ref f) = true)
    (hb : ∀ (kV doc pm : Value) (an : Option Addr) (cdv ct : Value) (us : List Value), us.length = ps.length → bindArgs (PySem.W.fnOf x q (defArgs st) (defBody st) (defScope st) .none kV doc pm an cdv ct) ⟨us, []⟩ = pure (ps.zip us)) : MethAt K C x q st ps :=
  ⟨f, _, fun_mk l c k, (fun_mk l c k).binds hb, ⟨a, i, k⟩⟩
theorem spanMk_mk {CS TT DD te tn : Nat} {tc : Value} {td : Option Addr} {ts : Array (Option Value)} (mk : PySem.W.makesIn K CS = true) (kp : PySem.W.keepIn K (.ref CS) = true) (a : PySem.W.findIn K (.ref CS) "__init__" = some (some (.ref f))) (i : PySem.W.isFn K (.ref f) = true)
    (l : K.lookup f = some ⟨oc, od, .func (PySem.W.fnOf "__init__" "Span.__init__" (defArgs s_spaninit) (defBody s_spaninit) (defScope s_spaninit) (.ref TT) (.ref DD) dc pm an cd ct), sl⟩) (c : PySem.W.codeIn K cd "Span.__init__" = true) (k : PySem.W.keepIn K (.ref f) = true)
    (lT : K.lookup TT = some ⟨tc, td, .seq #[.ref te] tn, ts⟩) (nD : PySem.W.nsIn K DD "has_none" = some (some (.bool false))) : ∃ f fd, SpanMk K CS f fd := by
  have F : FunD K "__init__" "Span.__init__" (defArgs s_spaninit) (defBody s_spaninit) (defScope s_spaninit) [V.ref te] [("has_none", V.bl false)] f (PySem.W.fnOf "__init__" "Span.__init__" (defArgs s_spaninit) (defBody s_spaninit) (defScope s_spaninit) (.ref TT) (.ref DD) dc pm an cd ct) :=
    ⟨⟨oc, od, _, _, _, _, _, _, _, _, rfl, l, c, .inr ⟨by simp, TT, _, [.ref te], tn, rfl, lT, rfl, .cons rfl .nil⟩, .inr ⟨DD, rfl, fun q hq => by
      rcases List.mem_singleton.mp hq with rfl
      exact ⟨_, nD, rfl⟩⟩⟩, k⟩
  refine ⟨f, _, ⟨⟨_, _, F⟩, ⟨mk, a, i, kp⟩, ⟨fun s us ws X l1 l2 => ?_, fun r1 r2 => r1.append r2⟩, ?_⟩⟩
  · match us, ws, l1, l2 with
    | [u0, u1], [w0], _, _ =>
      refine BindsTo.of_looks fun M => ?_
      exact looks_items X lT rfl (.of_pure rfl)
  · have := FunD.binds (ps := p_spaninit) F 2 1 (by simp) rfl (fun T D doc pm an cdv ct us its ks h1 h2 h3 => by
      match us, its, ks, h1, h2, h3 with
      | [u0, u1], [i0], [k0], _, _, _ => exact ⟨_, rfl, _, _, _, _, _, _, rfl, rfl, rfl⟩) (by simp)
    exact this
theorem spanOf_mk {CS qO : Nat} {restO : List Value} {dV : Value} (rd : PySem.W.readsIn K CS (.type "type") = true) (ga : PySem.W.specialIn K (.ref CS) "__getattribute__" = some (some (.builtin "type.__getattribute__")))
    (fc : PySem.W.findCls K (.ref CS) (.type "type") "of" = some (.get (.builtin "staticmethod.__get__") (.ref qO) .none (.ref CS))) (rc : PySem.W.recIn K qO "staticmethod" = some (.ref f :: restO))
    (l : K.lookup f = some ⟨oc, od, .func (PySem.W.fnOf "of" "Span.of" (defArgs s_spanof) (defBody s_spanof) (defScope s_spanof) dV kV dc pm an cd ct), sl⟩) (c : PySem.W.codeIn K cd "Span.of" = true) (k : PySem.W.keepIn K (.ref f) = true)
    (hdV : dV = .none) : ∃ f, SpanOf K CS f := by
  subst hdV
  refine ⟨f, ⟨⟨oc, od, .none, kV, dc, pm, an, cd, ct, sl, l, c, fun us rest h => ?_⟩, ⟨.type "type", qO, ⟨rd, ga⟩, ⟨fc, ⟨restO, rc⟩, k⟩⟩⟩⟩
  match us, h with
  | [], _ => cases rest <;> rfl
end
set_option maxHeartbeats 0 in
theorem all_mk {l : PySem.W.OpenLaw} {w : World} {K : PySem.W.Frag} {h : Heap} {mg : Str → Option Value} {fa : Addr} (X : K.In h) (G : h.Ns mainGlobals mg) (hfa : mg "law" = some (.ref fa))
    {f0 f1 f2 f3 f4 f5 f6 f7 f8 f9 f10 f11 f12 f13 f14 f15 f16 f17 f18 f19 f20 f21 f22 f23 f24 f25 f26 f27 f28 f29 f30 CS CP q0 q1 q2 q3 q4 f31 f32 f33 f34 f35 f36 f37 qO : Addr}
    {oc0 kV0 dc0 pm0 cd0 ct0 : Value} {od0 an0 : Option Addr} {sl0 : Array (Option Value)}
    {oc1 kV1 dc1 pm1 cd1 ct1 : Value} {od1 an1 : Option Addr} {sl1 : Array (Option Value)}
    {oc2 kV2 dc2 pm2 cd2 ct2 : Value} {od2 an2 : Option Addr} {sl2 : Array (Option Value)}
    {oc3 kV3 dc3 pm3 cd3 ct3 : Value} {od3 an3 : Option Addr} {sl3 : Array (Option Value)}
    {oc4 kV4 dc4 pm4 cd4 ct4 : Value} {od4 an4 : Option Addr} {sl4 : Array (Option Value)}
    {oc5 kV5 dc5 pm5 cd5 ct5 : Value} {od5 an5 : Option Addr} {sl5 : Array (Option Value)}
    {oc6 kV6 dc6 pm6 cd6 ct6 : Value} {od6 an6 : Option Addr} {sl6 : Array (Option Value)}
    {oc7 kV7 dc7 pm7 cd7 ct7 : Value} {od7 an7 : Option Addr} {sl7 : Array (Option Value)}
    {oc8 kV8 dc8 pm8 cd8 ct8 : Value} {od8 an8 : Option Addr} {sl8 : Array (Option Value)}
    {oc9 kV9 dc9 pm9 cd9 ct9 : Value} {od9 an9 : Option Addr} {sl9 : Array (Option Value)}
    {oc10 kV10 dc10 pm10 cd10 ct10 : Value} {od10 an10 : Option Addr} {sl10 : Array (Option Value)}
    {oc11 kV11 dc11 pm11 cd11 ct11 : Value} {od11 an11 : Option Addr} {sl11 : Array (Option Value)}
    {oc12 kV12 dc12 pm12 cd12 ct12 : Value} {od12 an12 : Option Addr} {sl12 : Array (Option Value)}
    {oc13 kV13 dc13 pm13 cd13 ct13 : Value} {od13 an13 : Option Addr} {sl13 : Array (Option Value)}
    {oc14 kV14 dc14 pm14 cd14 ct14 : Value} {od14 an14 : Option Addr} {sl14 : Array (Option Value)}
    {oc15 kV15 dc15 pm15 cd15 ct15 : Value} {od15 an15 : Option Addr} {sl15 : Array (Option Value)}
    {oc16 kV16 dc16 pm16 cd16 ct16 : Value} {od16 an16 : Option Addr} {sl16 : Array (Option Value)}
    {oc17 kV17 dc17 pm17 cd17 ct17 : Value} {od17 an17 : Option Addr} {sl17 : Array (Option Value)}
    {oc18 kV18 dc18 pm18 cd18 ct18 : Value} {od18 an18 : Option Addr} {sl18 : Array (Option Value)}
    {oc19 kV19 dc19 pm19 cd19 ct19 : Value} {od19 an19 : Option Addr} {sl19 : Array (Option Value)}
    {oc20 kV20 dc20 pm20 cd20 ct20 : Value} {od20 an20 : Option Addr} {sl20 : Array (Option Value)}
    {oc21 kV21 dc21 pm21 cd21 ct21 : Value} {od21 an21 : Option Addr} {sl21 : Array (Option Value)}
    {oc22 kV22 dc22 pm22 cd22 ct22 : Value} {od22 an22 : Option Addr} {sl22 : Array (Option Value)}
    {oc23 kV23 dc23 pm23 cd23 ct23 : Value} {od23 an23 : Option Addr} {sl23 : Array (Option Value)}
    {oc24 kV24 dc24 pm24 cd24 ct24 : Value} {od24 an24 : Option Addr} {sl24 : Array (Option Value)}
    {oc25 kV25 dc25 pm25 cd25 ct25 : Value} {od25 an25 : Option Addr} {sl25 : Array (Option Value)}
    {oc26 kV26 dc26 pm26 cd26 ct26 : Value} {od26 an26 : Option Addr} {sl26 : Array (Option Value)}
    {oc27 kV27 dc27 pm27 cd27 ct27 : Value} {od27 an27 : Option Addr} {sl27 : Array (Option Value)}
    {oc28 kV28 dc28 pm28 cd28 ct28 : Value} {od28 an28 : Option Addr} {sl28 : Array (Option Value)}
    {oc29 kV29 dc29 pm29 cd29 ct29 : Value} {od29 an29 : Option Addr} {sl29 : Array (Option Value)}
    {oc30 kV30 dc30 pm30 cd30 ct30 : Value} {od30 an30 : Option Addr} {sl30 : Array (Option Value)}
    {oc31 kV31 dc31 pm31 cd31 ct31 : Value} {od31 an31 : Option Addr} {sl31 : Array (Option Value)}
    {oc32 kV32 dc32 pm32 cd32 ct32 : Value} {od32 an32 : Option Addr} {sl32 : Array (Option Value)}
    {oc33 kV33 dc33 pm33 cd33 ct33 : Value} {od33 an33 : Option Addr} {sl33 : Array (Option Value)}
    {oc34 kV34 dc34 pm34 cd34 ct34 : Value} {od34 an34 : Option Addr} {sl34 : Array (Option Value)}
    {oc35 kV35 dc35 pm35 cd35 ct35 : Value} {od35 an35 : Option Addr} {sl35 : Array (Option Value)}
    {oc36 dc36 pm36 cd36 ct36 tc : Value} {od36 an36 td : Option Addr} {sl36 ts : Array (Option Value)} {TT DD te tn : Nat}
    {restO : List Value}
    
    {oc37 kV37 dc37 pm37 cd37 ct37 : Value} {od37 an37 : Option Addr} {sl37 : Array (Option Value)}
    (a0 : PySem.W.nsIn K mainGlobals "is_whole" = some (some (.ref f0)))
    (l0 : K.lookup f0 = some ⟨oc0, od0, .func (PySem.W.fnOf "is_whole" "is_whole" (defArgs s_iswhole) (defBody s_iswhole) (defScope s_iswhole) .none kV0 dc0 pm0 an0 cd0 ct0), sl0⟩)
    (c0 : PySem.W.codeIn K cd0 "is_whole" = true)
    (k0 : PySem.W.keepIn K (.ref f0) = true)
    (a1 : PySem.W.nsIn K mainGlobals "is_content" = some (some (.ref f1)))
    (l1 : K.lookup f1 = some ⟨oc1, od1, .func (PySem.W.fnOf "is_content" "is_content" (defArgs s_iscontent) (defBody s_iscontent) (defScope s_iscontent) .none kV1 dc1 pm1 an1 cd1 ct1), sl1⟩)
    (c1 : PySem.W.codeIn K cd1 "is_content" = true)
    (k1 : PySem.W.keepIn K (.ref f1) = true)
    (a2 : PySem.W.nsIn K mainGlobals "rank" = some (some (.ref f2)))
    (l2 : K.lookup f2 = some ⟨oc2, od2, .func (PySem.W.fnOf "rank" "rank" (defArgs s_rank) (defBody s_rank) (defScope s_rank) .none kV2 dc2 pm2 an2 cd2 ct2), sl2⟩)
    (c2 : PySem.W.codeIn K cd2 "rank" = true)
    (k2 : PySem.W.keepIn K (.ref f2) = true)
    (a3 : PySem.W.nsIn K mainGlobals "low_rank" = some (some (.ref f3)))
    (l3 : K.lookup f3 = some ⟨oc3, od3, .func (PySem.W.fnOf "low_rank" "low_rank" (defArgs s_lowrank) (defBody s_lowrank) (defScope s_lowrank) .none kV3 dc3 pm3 an3 cd3 ct3), sl3⟩)
    (c3 : PySem.W.codeIn K cd3 "low_rank" = true)
    (k3 : PySem.W.keepIn K (.ref f3) = true)
    (a4 : PySem.W.nsIn K mainGlobals "is_stretch" = some (some (.ref f4)))
    (l4 : K.lookup f4 = some ⟨oc4, od4, .func (PySem.W.fnOf "is_stretch" "is_stretch" (defArgs s_isstretch) (defBody s_isstretch) (defScope s_isstretch) .none kV4 dc4 pm4 an4 cd4 ct4), sl4⟩)
    (c4 : PySem.W.codeIn K cd4 "is_stretch" = true)
    (k4 : PySem.W.keepIn K (.ref f4) = true)
    (a5 : PySem.W.nsIn K mainGlobals "merged" = some (some (.ref f5)))
    (l5 : K.lookup f5 = some ⟨oc5, od5, .func (PySem.W.fnOf "merged" "merged" (defArgs s_merged) (defBody s_merged) (defScope s_merged) .none kV5 dc5 pm5 an5 cd5 ct5), sl5⟩)
    (c5 : PySem.W.codeIn K cd5 "merged" = true)
    (k5 : PySem.W.keepIn K (.ref f5) = true)
    (a6 : PySem.W.nsIn K mainGlobals "touches" = some (some (.ref f6)))
    (l6 : K.lookup f6 = some ⟨oc6, od6, .func (PySem.W.fnOf "touches" "touches" (defArgs s_touches) (defBody s_touches) (defScope s_touches) .none kV6 dc6 pm6 an6 cd6 ct6), sl6⟩)
    (c6 : PySem.W.codeIn K cd6 "touches" = true)
    (k6 : PySem.W.keepIn K (.ref f6) = true)
    (a7 : PySem.W.nsIn K mainGlobals "count_of" = some (some (.ref f7)))
    (l7 : K.lookup f7 = some ⟨oc7, od7, .func (PySem.W.fnOf "count_of" "count_of" (defArgs s_countof) (defBody s_countof) (defScope s_countof) .none kV7 dc7 pm7 an7 cd7 ct7), sl7⟩)
    (c7 : PySem.W.codeIn K cd7 "count_of" = true)
    (k7 : PySem.W.keepIn K (.ref f7) = true)
    (a8 : PySem.W.nsIn K mainGlobals "clamped" = some (some (.ref f8)))
    (l8 : K.lookup f8 = some ⟨oc8, od8, .func (PySem.W.fnOf "clamped" "clamped" (defArgs s_clamped) (defBody s_clamped) (defScope s_clamped) .none kV8 dc8 pm8 an8 cd8 ct8), sl8⟩)
    (c8 : PySem.W.codeIn K cd8 "clamped" = true)
    (k8 : PySem.W.keepIn K (.ref f8) = true)
    (a9 : PySem.W.nsIn K mainGlobals "colour_of" = some (some (.ref f9)))
    (l9 : K.lookup f9 = some ⟨oc9, od9, .func (PySem.W.fnOf "colour_of" "colour_of" (defArgs s_colourof) (defBody s_colourof) (defScope s_colourof) .none kV9 dc9 pm9 an9 cd9 ct9), sl9⟩)
    (c9 : PySem.W.codeIn K cd9 "colour_of" = true)
    (k9 : PySem.W.keepIn K (.ref f9) = true)
    (a10 : PySem.W.nsIn K mainGlobals "starts_of" = some (some (.ref f10)))
    (l10 : K.lookup f10 = some ⟨oc10, od10, .func (PySem.W.fnOf "starts_of" "starts_of" (defArgs s_startsof) (defBody s_startsof) (defScope s_startsof) .none kV10 dc10 pm10 an10 cd10 ct10), sl10⟩)
    (c10 : PySem.W.codeIn K cd10 "starts_of" = true)
    (k10 : PySem.W.keepIn K (.ref f10) = true)
    (a11 : PySem.W.nsIn K mainGlobals "pieces" = some (some (.ref f11)))
    (l11 : K.lookup f11 = some ⟨oc11, od11, .func (PySem.W.fnOf "pieces" "pieces" (defArgs s_pieces) (defBody s_pieces) (defScope s_pieces) .none kV11 dc11 pm11 an11 cd11 ct11), sl11⟩)
    (c11 : PySem.W.codeIn K cd11 "pieces" = true)
    (k11 : PySem.W.keepIn K (.ref f11) = true)
    (a12 : PySem.W.nsIn K mainGlobals "samples" = some (some (.ref f12)))
    (l12 : K.lookup f12 = some ⟨oc12, od12, .func (PySem.W.fnOf "samples" "samples" (defArgs s_samples) (defBody s_samples) (defScope s_samples) .none kV12 dc12 pm12 an12 cd12 ct12), sl12⟩)
    (c12 : PySem.W.codeIn K cd12 "samples" = true)
    (k12 : PySem.W.keepIn K (.ref f12) = true)
    (a13 : PySem.W.nsIn K mainGlobals "_law_pot" = some (some (.ref f13)))
    (l13 : K.lookup f13 = some ⟨oc13, od13, .func (PySem.W.fnOf "_law_pot" "_law_pot" (defArgs s_lpot) (defBody s_lpot) (defScope s_lpot) .none kV13 dc13 pm13 an13 cd13 ct13), sl13⟩)
    (c13 : PySem.W.codeIn K cd13 "_law_pot" = true)
    (k13 : PySem.W.keepIn K (.ref f13) = true)
    (a14 : PySem.W.nsIn K mainGlobals "_law_draw" = some (some (.ref f14)))
    (l14 : K.lookup f14 = some ⟨oc14, od14, .func (PySem.W.fnOf "_law_draw" "_law_draw" (defArgs s_ldraw) (defBody s_ldraw) (defScope s_ldraw) .none kV14 dc14 pm14 an14 cd14 ct14), sl14⟩)
    (c14 : PySem.W.codeIn K cd14 "_law_draw" = true)
    (k14 : PySem.W.keepIn K (.ref f14) = true)
    (a15 : PySem.W.nsIn K mainGlobals "_law_number" = some (some (.ref f15)))
    (l15 : K.lookup f15 = some ⟨oc15, od15, .func (PySem.W.fnOf "_law_number" "_law_number" (defArgs s_lnumber) (defBody s_lnumber) (defScope s_lnumber) .none kV15 dc15 pm15 an15 cd15 ct15), sl15⟩)
    (c15 : PySem.W.codeIn K cd15 "_law_number" = true)
    (k15 : PySem.W.keepIn K (.ref f15) = true)
    (a16 : PySem.W.nsIn K mainGlobals "_law_drawn_pairs" = some (some (.ref f16)))
    (l16 : K.lookup f16 = some ⟨oc16, od16, .func (PySem.W.fnOf "_law_drawn_pairs" "_law_drawn_pairs" (defArgs s_ldrawnpairs) (defBody s_ldrawnpairs) (defScope s_ldrawnpairs) .none kV16 dc16 pm16 an16 cd16 ct16), sl16⟩)
    (c16 : PySem.W.codeIn K cd16 "_law_drawn_pairs" = true)
    (k16 : PySem.W.keepIn K (.ref f16) = true)
    (a17 : PySem.W.nsIn K mainGlobals "_law_member" = some (some (.ref f17)))
    (l17 : K.lookup f17 = some ⟨oc17, od17, .func (PySem.W.fnOf "_law_member" "_law_member" (defArgs s_lmember) (defBody s_lmember) (defScope s_lmember) .none kV17 dc17 pm17 an17 cd17 ct17), sl17⟩)
    (c17 : PySem.W.codeIn K cd17 "_law_member" = true)
    (k17 : PySem.W.keepIn K (.ref f17) = true)
    (a18 : PySem.W.nsIn K mainGlobals "_law_has" = some (some (.ref f18)))
    (l18 : K.lookup f18 = some ⟨oc18, od18, .func (PySem.W.fnOf "_law_has" "_law_has" (defArgs s_lhas) (defBody s_lhas) (defScope s_lhas) .none kV18 dc18 pm18 an18 cd18 ct18), sl18⟩)
    (c18 : PySem.W.codeIn K cd18 "_law_has" = true)
    (k18 : PySem.W.keepIn K (.ref f18) = true)
    (a19 : PySem.W.nsIn K mainGlobals "_law_starts" = some (some (.ref f19)))
    (l19 : K.lookup f19 = some ⟨oc19, od19, .func (PySem.W.fnOf "_law_starts" "_law_starts" (defArgs s_lstarts) (defBody s_lstarts) (defScope s_lstarts) .none kV19 dc19 pm19 an19 cd19 ct19), sl19⟩)
    (c19 : PySem.W.codeIn K cd19 "_law_starts" = true)
    (k19 : PySem.W.keepIn K (.ref f19) = true)
    (a20 : PySem.W.nsIn K mainGlobals "_law_is" = some (some (.ref f20)))
    (l20 : K.lookup f20 = some ⟨oc20, od20, .func (PySem.W.fnOf "_law_is" "_law_is" (defArgs s_lis) (defBody s_lis) (defScope s_lis) .none kV20 dc20 pm20 an20 cd20 ct20), sl20⟩)
    (c20 : PySem.W.codeIn K cd20 "_law_is" = true)
    (k20 : PySem.W.keepIn K (.ref f20) = true)
    (a21 : PySem.W.nsIn K mainGlobals "_law_is_list" = some (some (.ref f21)))
    (l21 : K.lookup f21 = some ⟨oc21, od21, .func (PySem.W.fnOf "_law_is_list" "_law_is_list" (defArgs s_lislist) (defBody s_lislist) (defScope s_lislist) .none kV21 dc21 pm21 an21 cd21 ct21), sl21⟩)
    (c21 : PySem.W.codeIn K cd21 "_law_is_list" = true)
    (k21 : PySem.W.keepIn K (.ref f21) = true)
    (a22 : PySem.W.nsIn K mainGlobals "_law_colour" = some (some (.ref f22)))
    (l22 : K.lookup f22 = some ⟨oc22, od22, .func (PySem.W.fnOf "_law_colour" "_law_colour" (defArgs s_lcolour) (defBody s_lcolour) (defScope s_lcolour) .none kV22 dc22 pm22 an22 cd22 ct22), sl22⟩)
    (c22 : PySem.W.codeIn K cd22 "_law_colour" = true)
    (k22 : PySem.W.keepIn K (.ref f22) = true)
    (a23 : PySem.W.nsIn K mainGlobals "_law_due_pieces" = some (some (.ref f23)))
    (l23 : K.lookup f23 = some ⟨oc23, od23, .func (PySem.W.fnOf "_law_due_pieces" "_law_due_pieces" (defArgs s_lduepieces) (defBody s_lduepieces) (defScope s_lduepieces) .none kV23 dc23 pm23 an23 cd23 ct23), sl23⟩)
    (c23 : PySem.W.codeIn K cd23 "_law_due_pieces" = true)
    (k23 : PySem.W.keepIn K (.ref f23) = true)
    (a24 : PySem.W.nsIn K mainGlobals "_law_first_members" = some (some (.ref f24)))
    (l24 : K.lookup f24 = some ⟨oc24, od24, .func (PySem.W.fnOf "_law_first_members" "_law_first_members" (defArgs s_lfirstmembers) (defBody s_lfirstmembers) (defScope s_lfirstmembers) .none kV24 dc24 pm24 an24 cd24 ct24), sl24⟩)
    (c24 : PySem.W.codeIn K cd24 "_law_first_members" = true)
    (k24 : PySem.W.keepIn K (.ref f24) = true)
    (a25 : PySem.W.nsIn K mainGlobals "_law_piece_right" = some (some (.ref f25)))
    (l25 : K.lookup f25 = some ⟨oc25, od25, .func (PySem.W.fnOf "_law_piece_right" "_law_piece_right" (defArgs s_lpieceright) (defBody s_lpieceright) (defScope s_lpieceright) .none kV25 dc25 pm25 an25 cd25 ct25), sl25⟩)
    (c25 : PySem.W.codeIn K cd25 "_law_piece_right" = true)
    (k25 : PySem.W.keepIn K (.ref f25) = true)
    (a26 : PySem.W.nsIn K mainGlobals "_law_pieces_right" = some (some (.ref f26)))
    (l26 : K.lookup f26 = some ⟨oc26, od26, .func (PySem.W.fnOf "_law_pieces_right" "_law_pieces_right" (defArgs s_lpiecesright) (defBody s_lpiecesright) (defScope s_lpiecesright) .none kV26 dc26 pm26 an26 cd26 ct26), sl26⟩)
    (c26 : PySem.W.codeIn K cd26 "_law_pieces_right" = true)
    (k26 : PySem.W.keepIn K (.ref f26) = true)
    (a27 : PySem.W.nsIn K mainGlobals "_law_members_right" = some (some (.ref f27)))
    (l27 : K.lookup f27 = some ⟨oc27, od27, .func (PySem.W.fnOf "_law_members_right" "_law_members_right" (defArgs s_lmembersright) (defBody s_lmembersright) (defScope s_lmembersright) .none kV27 dc27 pm27 an27 cd27 ct27), sl27⟩)
    (c27 : PySem.W.codeIn K cd27 "_law_members_right" = true)
    (k27 : PySem.W.keepIn K (.ref f27) = true)
    (a28 : PySem.W.nsIn K mainGlobals "_law_place" = some (some (.ref f28)))
    (l28 : K.lookup f28 = some ⟨oc28, od28, .func (PySem.W.fnOf "_law_place" "_law_place" (defArgs s_lplace) (defBody s_lplace) (defScope s_lplace) .none kV28 dc28 pm28 an28 cd28 ct28), sl28⟩)
    (c28 : PySem.W.codeIn K cd28 "_law_place" = true)
    (k28 : PySem.W.keepIn K (.ref f28) = true)
    (a29 : PySem.W.nsIn K mainGlobals "_law_parted" = some (some (.ref f29)))
    (l29 : K.lookup f29 = some ⟨oc29, od29, .func (PySem.W.fnOf "_law_parted" "_law_parted" (defArgs s_lparted) (defBody s_lparted) (defScope s_lparted) .none kV29 dc29 pm29 an29 cd29 ct29), sl29⟩)
    (c29 : PySem.W.codeIn K cd29 "_law_parted" = true)
    (k29 : PySem.W.keepIn K (.ref f29) = true)
    (a30 : PySem.W.nsIn K mainGlobals "law" = some (some (.ref f30)))
    (l30 : K.lookup f30 = some ⟨oc30, od30, .func (PySem.W.fnOf "law" "law" (defArgs s_law) (defBody s_law) (defScope s_law) .none kV30 dc30 pm30 an30 cd30 ct30), sl30⟩)
    (c30 : PySem.W.codeIn K cd30 "law" = true)
    (k30 : PySem.W.keepIn K (.ref f30) = true)
    (aCS : PySem.W.nsIn K mainGlobals "Span" = some (some (.ref CS)))
    (aCP : PySem.W.nsIn K mainGlobals "Piece" = some (some (.ref CP)))
    (pgCS : PySem.W.plainGet K CS Str.empty = true)
    (icCS : PySem.W.isClsIn K CS = true)
    (poCS : PySem.W.plainOver K CS = true)
    (saCS : PySem.W.findIn K (.ref CS) "__setattr__" = some (some (.builtin "object.__setattr__")))
    (caCS : PySem.W.findIn K (.ref CS) "__class__" = some (some (.builtin "object.__class__")))
    (cmCS : PySem.W.mroIn K CS (.type "object") = some true)
    (mkCS : PySem.W.makesIn K CS = true)
    (kpCS : PySem.W.keepIn K (.ref CS) = true)
    (pgCP : PySem.W.plainGet K CP Str.empty = true)
    (icCP : PySem.W.isClsIn K CP = true)
    (poCP : PySem.W.plainOver K CP = true)
    (saCP : PySem.W.findIn K (.ref CP) "__setattr__" = some (some (.builtin "object.__setattr__")))
    (caCP : PySem.W.findIn K (.ref CP) "__class__" = some (some (.builtin "object.__class__")))
    (cmCP : PySem.W.mroIn K CP (.type "object") = some true)
    (mkCP : PySem.W.makesIn K CP = true)
    (kpCP : PySem.W.keepIn K (.ref CP) = true)
    (cn : PySem.W.specialIn K (.builtin "object.__class__") "__get__" = some (some (.builtin "getset_descriptor.__get__")))
    (ct : PySem.W.takesIn K (.builtin "object.__class__") = some true)
    (sat0 : PySem.W.findIn K (.ref CS) "stretches" = some (some (.ref q0)))
    (sg0 : PySem.W.specialIn K (.ref q0) "__get__" = some (some (.builtin "member_descriptor.__get__")))
    (st0 : PySem.W.takesIn K (.ref q0) = some true)
    (sy0 : PySem.W.typeIn K (.ref q0) = some (.type "member_descriptor"))
    (sx0 : PySem.W.slotIn K q0 CS = some 2)
    (sat1 : PySem.W.findIn K (.ref CS) "has_none" = some (some (.ref q1)))
    (sg1 : PySem.W.specialIn K (.ref q1) "__get__" = some (some (.builtin "member_descriptor.__get__")))
    (st1 : PySem.W.takesIn K (.ref q1) = some true)
    (sy1 : PySem.W.typeIn K (.ref q1) = some (.type "member_descriptor"))
    (sx1 : PySem.W.slotIn K q1 CS = some 0)
    (sat2 : PySem.W.findIn K (.ref CS) "size" = some (some (.ref q2)))
    (sg2 : PySem.W.specialIn K (.ref q2) "__get__" = some (some (.builtin "member_descriptor.__get__")))
    (st2 : PySem.W.takesIn K (.ref q2) = some true)
    (sy2 : PySem.W.typeIn K (.ref q2) = some (.type "member_descriptor"))
    (sx2 : PySem.W.slotIn K q2 CS = some 1)
    (sat3 : PySem.W.findIn K (.ref CP) "span" = some (some (.ref q3)))
    (sg3 : PySem.W.specialIn K (.ref q3) "__get__" = some (some (.builtin "member_descriptor.__get__")))
    (st3 : PySem.W.takesIn K (.ref q3) = some true)
    (sy3 : PySem.W.typeIn K (.ref q3) = some (.type "member_descriptor"))
    (sx3 : PySem.W.slotIn K q3 CP = some 1)
    (sat4 : PySem.W.findIn K (.ref CP) "colour" = some (some (.ref q4)))
    (sg4 : PySem.W.specialIn K (.ref q4) "__get__" = some (some (.builtin "member_descriptor.__get__")))
    (st4 : PySem.W.takesIn K (.ref q4) = some true)
    (sy4 : PySem.W.typeIn K (.ref q4) = some (.type "member_descriptor"))
    (sx4 : PySem.W.slotIn K q4 CP = some 0)
    (a31 : PySem.W.findIn K (.ref CS) "__eq__" = some (some (.ref f31)))
    (i31 : PySem.W.isFn K (.ref f31) = true)
    (l31 : K.lookup f31 = some ⟨oc31, od31, .func (PySem.W.fnOf "__eq__" "Span.__eq__" (defArgs s_spaneq) (defBody s_spaneq) (defScope s_spaneq) .none kV31 dc31 pm31 an31 cd31 ct31), sl31⟩)
    (c31 : PySem.W.codeIn K cd31 "Span.__eq__" = true)
    (k31 : PySem.W.keepIn K (.ref f31) = true)
    (a32 : PySem.W.findIn K (.ref CS) "__contains__" = some (some (.ref f32)))
    (i32 : PySem.W.isFn K (.ref f32) = true)
    (l32 : K.lookup f32 = some ⟨oc32, od32, .func (PySem.W.fnOf "__contains__" "Span.__contains__" (defArgs s_spancontains) (defBody s_spancontains) (defScope s_spancontains) .none kV32 dc32 pm32 an32 cd32 ct32), sl32⟩)
    (c32 : PySem.W.codeIn K cd32 "Span.__contains__" = true)
    (k32 : PySem.W.keepIn K (.ref f32) = true)
    (a33 : PySem.W.findIn K (.ref CS) "nearest" = some (some (.ref f33)))
    (i33 : PySem.W.isFn K (.ref f33) = true)
    (l33 : K.lookup f33 = some ⟨oc33, od33, .func (PySem.W.fnOf "nearest" "Span.nearest" (defArgs s_spannearest) (defBody s_spannearest) (defScope s_spannearest) .none kV33 dc33 pm33 an33 cd33 ct33), sl33⟩)
    (c33 : PySem.W.codeIn K cd33 "Span.nearest" = true)
    (k33 : PySem.W.keepIn K (.ref f33) = true)
    (a34 : PySem.W.findIn K (.ref CP) "__init__" = some (some (.ref f34)))
    (i34 : PySem.W.isFn K (.ref f34) = true)
    (l34 : K.lookup f34 = some ⟨oc34, od34, .func (PySem.W.fnOf "__init__" "Piece.__init__" (defArgs s_pieceinit) (defBody s_pieceinit) (defScope s_pieceinit) .none kV34 dc34 pm34 an34 cd34 ct34), sl34⟩)
    (c34 : PySem.W.codeIn K cd34 "Piece.__init__" = true)
    (k34 : PySem.W.keepIn K (.ref f34) = true)
    (a35 : PySem.W.findIn K (.ref CP) "members" = some (some (.ref f35)))
    (i35 : PySem.W.isFn K (.ref f35) = true)
    (l35 : K.lookup f35 = some ⟨oc35, od35, .func (PySem.W.fnOf "members" "Piece.members" (defArgs s_piecemembers) (defBody s_piecemembers) (defScope s_piecemembers) .none kV35 dc35 pm35 an35 cd35 ct35), sl35⟩)
    (c35 : PySem.W.codeIn K cd35 "Piece.members" = true)
    (k35 : PySem.W.keepIn K (.ref f35) = true)
    (ne : PySem.W.findIn K (.ref CS) "__ne__" = some (some (.builtin "object.__ne__")))
    (a36 : PySem.W.findIn K (.ref CS) "__init__" = some (some (.ref f36)))
    (i36 : PySem.W.isFn K (.ref f36) = true)
    (l36 : K.lookup f36 = some ⟨oc36, od36, .func (PySem.W.fnOf "__init__" "Span.__init__" (defArgs s_spaninit) (defBody s_spaninit) (defScope s_spaninit) (.ref TT) (.ref DD) dc36 pm36 an36 cd36 ct36), sl36⟩)
    (c36 : PySem.W.codeIn K cd36 "Span.__init__" = true)
    (k36 : PySem.W.keepIn K (.ref f36) = true)
    (lT : K.lookup TT = some ⟨tc, td, .seq #[.ref te] tn, ts⟩)
    (nD : PySem.W.nsIn K DD "has_none" = some (some (.bool false)))
    (rdO : PySem.W.readsIn K CS (.type "type") = true)
    (gaO : PySem.W.specialIn K (.ref CS) "__getattribute__" = some (some (.builtin "type.__getattribute__")))
    (fcO : PySem.W.findCls K (.ref CS) (.type "type") "of" = some (.get (.builtin "staticmethod.__get__") (.ref qO) .none (.ref CS)))
    (rcO : PySem.W.recIn K qO "staticmethod" = some (.ref f37 :: restO))
    (l37 : K.lookup f37 = some ⟨oc37, od37, .func (PySem.W.fnOf "of" "Span.of" (defArgs s_spanof) (defBody s_spanof) (defScope s_spanof) .none kV37 dc37 pm37 an37 cd37 ct37), sl37⟩)
    (c37 : PySem.W.codeIn K cd37 "Span.of" = true)
    (k37 : PySem.W.keepIn K (.ref f37) = true)
    (z_len : PySem.W.nsIn K mainGlobals "len" = some none)
    (z_sorted : PySem.W.nsIn K mainGlobals "sorted" = some none)
    (z_isinstance : PySem.W.nsIn K mainGlobals "isinstance" = some none)
    (z_tuple : PySem.W.nsIn K mainGlobals "tuple" = some none)
    (z_int : PySem.W.nsIn K mainGlobals "int" = some none)
    (z_bool : PySem.W.nsIn K mainGlobals "bool" = some none)
    (z_any : PySem.W.nsIn K mainGlobals "any" = some none)
    (z_all : PySem.W.nsIn K mainGlobals "all" = some none)
    (z_sum : PySem.W.nsIn K mainGlobals "sum" = some none)
    (z_max : PySem.W.nsIn K mainGlobals "max" = some none)
    (z_min : PySem.W.nsIn K mainGlobals "min" = some none)
    (z_abs : PySem.W.nsIn K mainGlobals "abs" = some none)
    (z_set : PySem.W.nsIn K mainGlobals "set" = some none)
    (z_list : PySem.W.nsIn K mainGlobals "list" = some none)
    (z_range : PySem.W.nsIn K mainGlobals "range" = some none)
    (z_zip : PySem.W.nsIn K mainGlobals "zip" = some none)
    (z_enumerate : PySem.W.nsIn K mainGlobals "enumerate" = some none) :
    ∃ fd : FuncData, (∀ (s : Shared) (v : Value), BindsTo s fd ⟨[v], []⟩ [("_law_script", v)]) ∧ ∀ base : Heap, K.In base → base.Ns mainGlobals mg → FnOk l.prog w K mg base CX0 11 fa fd ["_law_script"] (sp_law K) := by
  have e := hfa.symm.trans (PySem.W.mg_of X G a30)
  cases e
  have S : SlC K mg "Span" CS := ⟨PySem.W.mg_of X G aCS, ⟨pgCS, icCS, poCS, saCS⟩, ⟨caCS, cn, ct, cmCS⟩, kit_self CS⟩
  have P : SlC K mg "Piece" CP := ⟨PySem.W.mg_of X G aCP, ⟨pgCP, icCP, poCP, saCP⟩, ⟨caCP, cn, ct, cmCP⟩, kit_self CP⟩
  have S0 : ∃ p, Slot1 K CS "stretches" p 2 := ⟨q0, ⟨sat0, sg0, st0, sy0, sx0, by decide⟩⟩
  have S1 : ∃ p, Slot1 K CS "has_none" p 0 := ⟨q1, ⟨sat1, sg1, st1, sy1, sx1, by decide⟩⟩
  have S2 : ∃ p, Slot1 K CS "size" p 1 := ⟨q2, ⟨sat2, sg2, st2, sy2, sx2, by decide⟩⟩
  have S3 : ∃ p, Slot1 K CP "span" p 1 := ⟨q3, ⟨sat3, sg3, st3, sy3, sx3, by decide⟩⟩
  have S4 : ∃ p, Slot1 K CP "colour" p 0 := ⟨q4, ⟨sat4, sg4, st4, sy4, sx4, by decide⟩⟩
  have D0 : DefAt K mg "is_whole" s_iswhole p_iswhole := def_mk X G a0 l0 c0 k0 fun _ _ _ _ _ _ us hl => match us, hl with | [_], _ => rfl
  have D1 : DefAt K mg "is_content" s_iscontent p_iscontent := def_mk X G a1 l1 c1 k1 fun _ _ _ _ _ _ us hl => match us, hl with | [_], _ => rfl
  have D2 : DefAt K mg "rank" s_rank p_rank := def_mk X G a2 l2 c2 k2 fun _ _ _ _ _ _ us hl => match us, hl with | [_], _ => rfl
  have D3 : DefAt K mg "low_rank" s_lowrank p_lowrank := def_mk X G a3 l3 c3 k3 fun _ _ _ _ _ _ us hl => match us, hl with | [_], _ => rfl
  have D4 : DefAt K mg "is_stretch" s_isstretch p_isstretch := def_mk X G a4 l4 c4 k4 fun _ _ _ _ _ _ us hl => match us, hl with | [_], _ => rfl
  have D5 : DefAt K mg "merged" s_merged p_merged := def_mk X G a5 l5 c5 k5 fun _ _ _ _ _ _ us hl => match us, hl with | [_], _ => rfl
  have D6 : DefAt K mg "touches" s_touches p_touches := def_mk X G a6 l6 c6 k6 fun _ _ _ _ _ _ us hl => match us, hl with | [_, _], _ => rfl
  have D7 : DefAt K mg "count_of" s_countof p_countof := def_mk X G a7 l7 c7 k7 fun _ _ _ _ _ _ us hl => match us, hl with | [_], _ => rfl
  have D8 : DefAt K mg "clamped" s_clamped p_clamped := def_mk X G a8 l8 c8 k8 fun _ _ _ _ _ _ us hl => match us, hl with | [_, _, _], _ => rfl
  have D9 : DefAt K mg "colour_of" s_colourof p_colourof := def_mk X G a9 l9 c9 k9 fun _ _ _ _ _ _ us hl => match us, hl with | [_, _], _ => rfl
  have D10 : DefAt K mg "starts_of" s_startsof p_startsof := def_mk X G a10 l10 c10 k10 fun _ _ _ _ _ _ us hl => match us, hl with | [_], _ => rfl
  have D11 : DefAt K mg "pieces" s_pieces p_pieces := def_mk X G a11 l11 c11 k11 fun _ _ _ _ _ _ us hl => match us, hl with | [_, _], _ => rfl
  have D12 : DefAt K mg "samples" s_samples p_samples := def_mk X G a12 l12 c12 k12 fun _ _ _ _ _ _ us hl => match us, hl with | [_, _, _], _ => rfl
  have D13 : DefAt K mg "_law_pot" s_lpot p_lpot := def_mk X G a13 l13 c13 k13 fun _ _ _ _ _ _ us hl => match us, hl with | [_, _], _ => rfl
  have D14 : DefAt K mg "_law_draw" s_ldraw p_ldraw := def_mk X G a14 l14 c14 k14 fun _ _ _ _ _ _ us hl => match us, hl with | [_, _], _ => rfl
  have D15 : DefAt K mg "_law_number" s_lnumber p_lnumber := def_mk X G a15 l15 c15 k15 fun _ _ _ _ _ _ us hl => match us, hl with | [_], _ => rfl
  have D16 : DefAt K mg "_law_drawn_pairs" s_ldrawnpairs p_ldrawnpairs := def_mk X G a16 l16 c16 k16 fun _ _ _ _ _ _ us hl => match us, hl with | [_], _ => rfl
  have D17 : DefAt K mg "_law_member" s_lmember p_lmember := def_mk X G a17 l17 c17 k17 fun _ _ _ _ _ _ us hl => match us, hl with | [_, _], _ => rfl
  have D18 : DefAt K mg "_law_has" s_lhas p_lhas := def_mk X G a18 l18 c18 k18 fun _ _ _ _ _ _ us hl => match us, hl with | [_, _], _ => rfl
  have D19 : DefAt K mg "_law_starts" s_lstarts p_lstarts := def_mk X G a19 l19 c19 k19 fun _ _ _ _ _ _ us hl => match us, hl with | [_], _ => rfl
  have D20 : DefAt K mg "_law_is" s_lis p_lis := def_mk X G a20 l20 c20 k20 fun _ _ _ _ _ _ us hl => match us, hl with | [_, _], _ => rfl
  have D21 : DefAt K mg "_law_is_list" s_lislist p_lislist := def_mk X G a21 l21 c21 k21 fun _ _ _ _ _ _ us hl => match us, hl with | [_, _], _ => rfl
  have D22 : DefAt K mg "_law_colour" s_lcolour p_lcolour := def_mk X G a22 l22 c22 k22 fun _ _ _ _ _ _ us hl => match us, hl with | [_, _], _ => rfl
  have D23 : DefAt K mg "_law_due_pieces" s_lduepieces p_lduepieces := def_mk X G a23 l23 c23 k23 fun _ _ _ _ _ _ us hl => match us, hl with | [_, _], _ => rfl
  have D24 : DefAt K mg "_law_first_members" s_lfirstmembers p_lfirstmembers := def_mk X G a24 l24 c24 k24 fun _ _ _ _ _ _ us hl => match us, hl with | [_, _, _], _ => rfl
  have D25 : DefAt K mg "_law_piece_right" s_lpieceright p_lpieceright := def_mk X G a25 l25 c25 k25 fun _ _ _ _ _ _ us hl => match us, hl with | [_, _, _, _], _ => rfl
  have D26 : DefAt K mg "_law_pieces_right" s_lpiecesright p_lpiecesright := def_mk X G a26 l26 c26 k26 fun _ _ _ _ _ _ us hl => match us, hl with | [_, _, _, _], _ => rfl
  have D27 : DefAt K mg "_law_members_right" s_lmembersright p_lmembersright := def_mk X G a27 l27 c27 k27 fun _ _ _ _ _ _ us hl => match us, hl with | [_, _, _, _], _ => rfl
  have D28 : DefAt K mg "_law_place" s_lplace p_lplace := def_mk X G a28 l28 c28 k28 fun _ _ _ _ _ _ us hl => match us, hl with | [_, _], _ => rfl
  have D29 : DefAt K mg "_law_parted" s_lparted p_lparted := def_mk X G a29 l29 c29 k29 fun _ _ _ _ _ _ us hl => match us, hl with | [_, _, _, _], _ => rfl
  have M0 : MethAt K CS "__eq__" "Span.__eq__" s_spaneq p_spaneq := meth_mk a31 i31 l31 c31 k31 fun _ _ _ _ _ _ us hl => match us, hl with | [_, _], _ => rfl
  have M1 : MethAt K CS "__contains__" "Span.__contains__" s_spancontains p_spancontains := meth_mk a32 i32 l32 c32 k32 fun _ _ _ _ _ _ us hl => match us, hl with | [_, _], _ => rfl
  have M2 : MethAt K CS "nearest" "Span.nearest" s_spannearest p_spannearest := meth_mk a33 i33 l33 c33 k33 fun _ _ _ _ _ _ us hl => match us, hl with | [_, _], _ => rfl
  have M3 : ∃ f fd, Fun K "__init__" "Piece.__init__" s_pieceinit f fd ∧ Binds K fd p_pieceinit [] ∧ Mk K CP f := ⟨f34, _, fun_mk l34 c34 k34, (fun_mk l34 c34 k34).binds fun _ _ _ _ _ _ us hl => match us, hl with | [_, _, _], _ => rfl, ⟨mkCP, a34, i34, kpCP⟩⟩
  have M4 : MethAt K CP "members" "Piece.members" s_piecemembers p_piecemembers := meth_mk a35 i35 l35 c35 k35 fun _ _ _ _ _ _ us hl => match us, hl with | [_, _], _ => rfl
  have MS := spanMk_mk mkCS kpCS a36 i36 l36 c36 k36 lT nD
  have MO := spanOf_mk rdO gaO fcO rcO l37 c37 k37 rfl
  have T : Txt K mg CS CP := ⟨PySem.W.mg_none_of X G z_len, PySem.W.mg_none_of X G z_sorted, PySem.W.mg_none_of X G z_isinstance, PySem.W.mg_none_of X G z_tuple, PySem.W.mg_none_of X G z_int, PySem.W.mg_none_of X G z_bool, PySem.W.mg_none_of X G z_any, PySem.W.mg_none_of X G z_all, PySem.W.mg_none_of X G z_sum, PySem.W.mg_none_of X G z_max, PySem.W.mg_none_of X G z_min, PySem.W.mg_none_of X G z_abs, PySem.W.mg_none_of X G z_set, PySem.W.mg_none_of X G z_list, PySem.W.mg_none_of X G z_range, PySem.W.mg_none_of X G z_zip, PySem.W.mg_none_of X G z_enumerate, S, P, S0, S1, S2, S3, S4, MS, MO, M0, ne, M1, M2, M3, M4, D0, D1, D2, D3, D4, D5, D6, D7, D8, D9, D10, D11, D12, D13, D14, D15, D16, D17, D18, D19, D20, D21, D22, D23, D24, D25, D26, D27, D28, D29⟩
  have FL := fun_mk (st := s_law) l30 c30 k30
  exact ⟨PySem.W.fnOf "law" "law" (defArgs s_law) (defBody s_law) (defScope s_law) .none kV30 dc30 pm30 an30 cd30 ct30, fun s v => .of_eq rfl, fun base _ _ => ok_law T FL⟩
theorem walk {l : PySem.W.OpenLaw} {q : Program} {loose : List Str} {XP : (Str → Option Value) → Heap → Prop} {YP : World → Heap → Prop} {d : DefRec} {K : Params → PySem.W.Frag} (hn : l.most = some 63) (hdf : d.params.defaults = [])
    (hY : ∀ (w : World) (h : Heap), YP w h → (K w.params).In h)
    (F : ∀ (w : World) (mg : Str → Option Value) (fa : Addr) (h : Heap), (K w.params).In h → h.Ns mainGlobals mg → mg d.name = some (.ref fa) →
      ∃ fd : FuncData, (∀ (s : Shared) (u : Value), BindsTo s fd ⟨[u], []⟩ [("_law_script", u)]) ∧ ∀ base : Heap, (K w.params).In base → base.Ns mainGlobals mg → FnOk l.prog w (K w.params) mg base CX0 11 fa fd ["_law_script"] (sp_law (K w.params))) :
    PySem.W.WalkO q loose XP YP l.row.toRowW d [] (fun f vs => PySem.call f vs) :=
  L2.walk_of (n := 63) (k := 11) (x := "_law_script") (CX := fun _ => CX0) (sp := fun w => sp_law (K w.params)) hn (by decide) hdf ⟨rfl, by decide, by decide⟩ hY F (fun _ _ a ns hl _ hS => ⟨a, ns, rfl, hS, hl, fun _ => rfl⟩) fun _ _ _ _ _ z => z
end K3

open PySem PySem.W PyProof.Rows
set_option maxRecDepth 100000 in
set_option maxHeartbeats 0 in
theorem PySem.Challenge.cw_keptbase_k03_whole_pieces_and_samples_holds : PySem.Challenge.rw_keptbase_k03_whole_pieces_and_samples.Holds := by
  w_on; o_law; k_head; (case hw => w_witness2)
  k_fill
  refine K3.walk (l := PySem.Challenge.rw_keptbase_k03_whole_pieces_and_samples) rfl rfl (fun w h Y => PySem.W.kIn_of Y) ?F
  case F =>
    intro w mg fa h KX G hmg
    refine' K3.all_mk KX G hmg ?a0 ?l0 ?c0 ?k0 ?a1 ?l1 ?c1 ?k1 ?a2 ?l2 ?c2 ?k2 ?a3 ?l3 ?c3 ?k3 ?a4 ?l4 ?c4 ?k4 ?a5 ?l5 ?c5 ?k5 ?a6 ?l6 ?c6 ?k6 ?a7 ?l7 ?c7 ?k7 ?a8 ?l8 ?c8 ?k8 ?a9 ?l9 ?c9 ?k9 ?a10 ?l10 ?c10 ?k10 ?a11 ?l11 ?c11 ?k11 ?a12 ?l12 ?c12 ?k12 ?a13 ?l13 ?c13 ?k13 ?a14 ?l14 ?c14 ?k14 ?a15 ?l15 ?c15 ?k15 ?a16 ?l16 ?c16 ?k16 ?a17 ?l17 ?c17 ?k17 ?a18 ?l18 ?c18 ?k18 ?a19 ?l19 ?c19 ?k19 ?a20 ?l20 ?c20 ?k20 ?a21 ?l21 ?c21 ?k21 ?a22 ?l22 ?c22 ?k22 ?a23 ?l23 ?c23 ?k23 ?a24 ?l24 ?c24 ?k24 ?a25 ?l25 ?c25 ?k25 ?a26 ?l26 ?c26 ?k26 ?a27 ?l27 ?c27 ?k27 ?a28 ?l28 ?c28 ?k28 ?a29 ?l29 ?c29 ?k29 ?a30 ?l30 ?c30 ?k30 ?aCS ?aCP ?pgCS ?icCS ?poCS ?saCS ?caCS ?cmCS ?mkCS ?kpCS ?pgCP ?icCP ?poCP ?saCP ?caCP ?cmCP ?mkCP ?kpCP ?cn ?ct ?sat0 ?sg0 ?st0 ?sy0 ?sx0 ?sat1 ?sg1 ?st1 ?sy1 ?sx1 ?sat2 ?sg2 ?st2 ?sy2 ?sx2 ?sat3 ?sg3 ?st3 ?sy3 ?sx3 ?sat4 ?sg4 ?st4 ?sy4 ?sx4 ?a31 ?i31 ?l31 ?c31 ?k31 ?a32 ?i32 ?l32 ?c32 ?k32 ?a33 ?i33 ?l33 ?c33 ?k33 ?a34 ?i34 ?l34 ?c34 ?k34 ?a35 ?i35 ?l35 ?c35 ?k35 ?ne ?a36 ?i36 ?l36 ?c36 ?k36 ?lT ?nD ?rdO ?gaO ?fcO ?rcO ?l37 ?c37 ?k37 ?z_len ?z_sorted ?z_isinstance ?z_tuple ?z_int ?z_bool ?z_any ?z_all ?z_sum ?z_max ?z_min ?z_abs ?z_set ?z_list ?z_range ?z_zip ?z_enumerate
    (case a0 => k_is)
    (case l0 => k_is)
    (case c0 => k_is)
    (case k0 => k_is)
    (case a1 => k_is)
    (case l1 => k_is)
    (case c1 => k_is)
    (case k1 => k_is)
    (case a2 => k_is)
    (case l2 => k_is)
    (case c2 => k_is)
    (case k2 => k_is)
    (case a3 => k_is)
    (case l3 => k_is)
    (case c3 => k_is)
    (case k3 => k_is)
    (case a4 => k_is)
    (case l4 => k_is)
    (case c4 => k_is)
    (case k4 => k_is)
    (case a5 => k_is)
    (case l5 => k_is)
    (case c5 => k_is)
    (case k5 => k_is)
    (case a6 => k_is)
    (case l6 => k_is)
    (case c6 => k_is)
    (case k6 => k_is)
    (case a7 => k_is)
    (case l7 => k_is)
    (case c7 => k_is)
    (case k7 => k_is)
    (case a8 => k_is)
    (case l8 => k_is)
    (case c8 => k_is)
    (case k8 => k_is)
    (case a9 => k_is)
    (case l9 => k_is)
    (case c9 => k_is)
    (case k9 => k_is)
    (case a10 => k_is)
    (case l10 => k_is)
    (case c10 => k_is)
    (case k10 => k_is)
    (case a11 => k_is)
    (case l11 => k_is)
    (case c11 => k_is)
    (case k11 => k_is)
    (case a12 => k_is)
    (case l12 => k_is)
    (case c12 => k_is)
    (case k12 => k_is)
    (case a13 => k_is)
    (case l13 => k_is)
    (case c13 => k_is)
    (case k13 => k_is)
    (case a14 => k_is)
    (case l14 => k_is)
    (case c14 => k_is)
    (case k14 => k_is)
    (case a15 => k_is)
    (case l15 => k_is)
    (case c15 => k_is)
    (case k15 => k_is)
    (case a16 => k_is)
    (case l16 => k_is)
    (case c16 => k_is)
    (case k16 => k_is)
    (case a17 => k_is)
    (case l17 => k_is)
    (case c17 => k_is)
    (case k17 => k_is)
    (case a18 => k_is)
    (case l18 => k_is)
    (case c18 => k_is)
    (case k18 => k_is)
    (case a19 => k_is)
    (case l19 => k_is)
    (case c19 => k_is)
    (case k19 => k_is)
    (case a20 => k_is)
    (case l20 => k_is)
    (case c20 => k_is)
    (case k20 => k_is)
    (case a21 => k_is)
    (case l21 => k_is)
    (case c21 => k_is)
    (case k21 => k_is)
    (case a22 => k_is)
    (case l22 => k_is)
    (case c22 => k_is)
    (case k22 => k_is)
    (case a23 => k_is)
    (case l23 => k_is)
    (case c23 => k_is)
    (case k23 => k_is)
    (case a24 => k_is)
    (case l24 => k_is)
    (case c24 => k_is)
    (case k24 => k_is)
    (case a25 => k_is)
    (case l25 => k_is)
    (case c25 => k_is)
    (case k25 => k_is)
    (case a26 => k_is)
    (case l26 => k_is)
    (case c26 => k_is)
    (case k26 => k_is)
    (case a27 => k_is)
    (case l27 => k_is)
    (case c27 => k_is)
    (case k27 => k_is)
    (case a28 => k_is)
    (case l28 => k_is)
    (case c28 => k_is)
    (case k28 => k_is)
    (case a29 => k_is)
    (case l29 => k_is)
    (case c29 => k_is)
    (case k29 => k_is)
    (case a30 => k_is)
    (case l30 => k_is)
    (case c30 => k_is)
    (case k30 => k_is)
    (case aCS => k_is)
    (case aCP => k_is)
    (case pgCS => k_is)
    (case icCS => k_is)
    (case poCS => k_is)
    (case saCS => k_is)
    (case caCS => k_is)
    (case cmCS => k_is)
    (case mkCS => k_is)
    (case kpCS => k_is)
    (case pgCP => k_is)
    (case icCP => k_is)
    (case poCP => k_is)
    (case saCP => k_is)
    (case caCP => k_is)
    (case cmCP => k_is)
    (case mkCP => k_is)
    (case kpCP => k_is)
    (case cn => k_is)
    (case ct => k_is)
    (case sat0 => k_is)
    (case sg0 => k_is)
    (case st0 => k_is)
    (case sy0 => k_is)
    (case sx0 => k_is)
    (case sat1 => k_is)
    (case sg1 => k_is)
    (case st1 => k_is)
    (case sy1 => k_is)
    (case sx1 => k_is)
    (case sat2 => k_is)
    (case sg2 => k_is)
    (case st2 => k_is)
    (case sy2 => k_is)
    (case sx2 => k_is)
    (case sat3 => k_is)
    (case sg3 => k_is)
    (case st3 => k_is)
    (case sy3 => k_is)
    (case sx3 => k_is)
    (case sat4 => k_is)
    (case sg4 => k_is)
    (case st4 => k_is)
    (case sy4 => k_is)
    (case sx4 => k_is)
    (case a31 => k_is)
    (case i31 => k_is)
    (case l31 => k_is)
    (case c31 => k_is)
    (case k31 => k_is)
    (case a32 => k_is)
    (case i32 => k_is)
    (case l32 => k_is)
    (case c32 => k_is)
    (case k32 => k_is)
    (case a33 => k_is)
    (case i33 => k_is)
    (case l33 => k_is)
    (case c33 => k_is)
    (case k33 => k_is)
    (case a34 => k_is)
    (case i34 => k_is)
    (case l34 => k_is)
    (case c34 => k_is)
    (case k34 => k_is)
    (case a35 => k_is)
    (case i35 => k_is)
    (case l35 => k_is)
    (case c35 => k_is)
    (case k35 => k_is)
    (case ne => k_is)
    (case a36 => k_is)
    (case i36 => k_is)
    (case l36 => k_is)
    (case c36 => k_is)
    (case k36 => k_is)
    (case lT => k_is)
    (case nD => k_is)
    (case rdO => k_is)
    (case gaO => k_is)
    (case fcO => k_is)
    (case rcO => k_is)
    (case l37 => k_is)
    (case c37 => k_is)
    (case k37 => k_is)
    (case z_len => k_is)
    (case z_sorted => k_is)
    (case z_isinstance => k_is)
    (case z_tuple => k_is)
    (case z_int => k_is)
    (case z_bool => k_is)
    (case z_any => k_is)
    (case z_all => k_is)
    (case z_sum => k_is)
    (case z_max => k_is)
    (case z_min => k_is)
    (case z_abs => k_is)
    (case z_set => k_is)
    (case z_list => k_is)
    (case z_range => k_is)
    (case z_zip => k_is)
    (case z_enumerate => k_is)
#print axioms PySem.Challenge.cw_keptbase_k03_whole_pieces_and_samples_holds
