import PyProof.Rows.All
import Wide.All
import OpenK.AllK
import Wide.FinOn
import PySem.Challenge.RW_lastholders_k23_whole_fair_ends
import HandS.ForMost
import HandS.Evl
import HandS.Walk
import HandS.IsInst
import HandS.TupAny
import HandS.SetFor
import HandS.Strs
import HandS.TupSets
import HandS.Style
import KE.SortData
import KE.DataMinMax
import KE.DataFind
import KE.KDictKeyed
import KE.GoesEnum
import KE.OsSortAny
set_option Elab.async false
set_option linter.all false
section
set_option linter.all false
set_option autoImplicit false
/-! The plain law: the ends by orders of calls are the ends by ring-free keepers. No program here. -/
namespace Lh

abbrev Hands := List (List Int)

def upTo (n : Nat) : List Int := (List.range n).map fun p : Nat => (p : Int)
theorem mem_upTo {n : Nat} {x : Int} : x ∈ upTo n ↔ 0 ≤ x ∧ x < n := by
  unfold upTo
  rw [List.mem_map]
  constructor
  · rintro ⟨p, hp, rfl⟩
    rw [List.mem_range] at hp
    omega
  · rintro ⟨h0, h1⟩
    exact ⟨x.toNat, List.mem_range.mpr (by omega), by omega⟩
theorem nodup_upTo (n : Nat) : (upTo n).Nodup := by
  unfold upTo
  rw [List.Nodup, List.pairwise_map]
  exact (List.nodup_range (n := n)).imp fun h e => h (by omega)

/-- the ascending list of the unlike ones below 8 -/
def ascOf (l : List Int) : List Int := (upTo 8).filter fun t => l.contains t
theorem mem_ascOf {l : List Int} {x : Int} : x ∈ ascOf l ↔ x ∈ l ∧ 0 ≤ x ∧ x < 8 := by
  unfold ascOf
  rw [List.mem_filter, mem_upTo, List.contains_iff_mem]
  constructor
  · rintro ⟨h, m⟩; exact ⟨m, h.1, by have := h.2; omega⟩
  · rintro ⟨m, h0, h1⟩; exact ⟨⟨h0, by omega⟩, m⟩
theorem nodup_ascOf (l : List Int) : (ascOf l).Nodup := (nodup_upTo 8).filter _
theorem ascOf_len (l : List Int) : (ascOf l).length ≤ 8 := by
  refine Nat.le_trans (List.length_filter_le _ _) ?_
  simp [upTo]

def holders (S : Hands) (t : Int) : List Int := ((List.range S.length).filter fun p : Nat => (S.getD p []).contains t).map fun p : Nat => (p : Int)
theorem mem_holders {S : Hands} {t p : Int} : p ∈ holders S t ↔ 0 ≤ p ∧ p < S.length ∧ t ∈ S.getD p.toNat [] := by
  unfold holders
  rw [List.mem_map]
  constructor
  · rintro ⟨q, hq, rfl⟩
    rw [List.mem_filter, List.mem_range, List.contains_iff_mem] at hq
    refine ⟨by omega, by have := hq.1; omega, ?_⟩
    have e : ((q : Int)).toNat = q := by omega
    rw [e]
    exact hq.2
  · rintro ⟨h0, h1, h2⟩
    exact ⟨p.toNat, List.mem_filter.mpr ⟨List.mem_range.mpr (by omega), List.contains_iff_mem.mpr h2⟩, by omega⟩
theorem nodup_holders (S : Hands) (t : Int) : (holders S t).Nodup := by
  unfold holders
  rw [List.Nodup, List.pairwise_map]
  exact ((List.nodup_range (n := S.length)).filter _).imp fun h e => h (by omega)

def things (S : Hands) : List Int := ascOf S.flatten

/-! ### rings -/
def freeOf (steps : List (Int × Int)) (left : List Int) : List Int := left.filter fun p => !(steps.any fun q => q.2 == p && left.contains q.1)
def ringL (steps : List (Int × Int)) : Nat → List Int → Bool
  | 0, _ => false
  | n + 1, left => if left = [] then false else if freeOf steps left = [] then true else ringL steps n (left.filter fun p => !((freeOf steps left).contains p))
def flatS (steps : List (Int × Int)) : List Int := steps.flatMap fun q => [q.1, q.2]
def hasRing (steps : List (Int × Int)) : Bool := ringL steps 8 (ascOf (flatS steps))

theorem shrink {steps : List (Int × Int)} {left : List Int} (h : freeOf steps left ≠ []) : (left.filter fun p => !((freeOf steps left).contains p)).length < left.length := by
  obtain ⟨x, hx⟩ := List.exists_mem_of_ne_nil _ h
  have hl : x ∈ left := (List.mem_filter.mp hx).1
  have h1 := List.length_filter_le (fun p => !((freeOf steps left).contains p)) left
  refine Nat.lt_of_le_of_ne h1 fun e => ?_
  have h2 := List.length_filter_eq_length_iff.mp e x hl
  have h3 : (freeOf steps left).contains x = true := List.contains_iff_mem.mpr hx
  rw [h3] at h2
  exact absurd h2 (by decide)

/-- more fuel than people changes nothing -/
theorem ringL_more (steps : List (Int × Int)) : ∀ (n m : Nat) (left : List Int), left.length ≤ n → left.length ≤ m → ringL steps n left = ringL steps m left
  | 0, 0, _, _, _ => rfl
  | 0, m + 1, left, h, _ => by
    have e : left = [] := List.length_eq_zero_iff.mp (by omega)
    subst e
    simp [ringL]
  | n + 1, 0, left, _, h => by
    have e : left = [] := List.length_eq_zero_iff.mp (by omega)
    subst e
    simp [ringL]
  | n + 1, m + 1, left, h1, h2 => by
    unfold ringL
    by_cases e : left = []
    · rw [if_pos e, if_pos e]
    · rw [if_neg e, if_neg e]
      by_cases f : freeOf steps left = []
      · rw [if_pos f, if_pos f]
      · rw [if_neg f, if_neg f]
        have s := shrink f
        exact ringL_more steps n m _ (by omega) (by omega)

/-- a row in which each pair's first is ahead of its second -/
def Ahead (steps : List (Int × Int)) (os : List Int) : Prop := ∀ q ∈ steps, q.1 ∈ os → q.2 ∈ os → ∃ a b, os = a ++ q.2 :: b ∧ q.1 ∈ a

/-- an order makes every left set free of a ring -/
theorem ring_of_order {steps : List (Int × Int)} {os : List Int} (nd : os.Nodup) (ha : ∀ q ∈ steps, ∃ a b, os = a ++ q.2 :: b ∧ q.1 ∈ a) :
    ∀ (n : Nat) (left : List Int), (∀ x ∈ left, x ∈ os) → ringL steps n left = false
  | 0, _, _ => rfl
  | n + 1, left, hl => by
    unfold ringL
    by_cases e : left = []
    · rw [if_pos e]
    · rw [if_neg e]
      have f : freeOf steps left ≠ [] := by
        -- the first of the order that is left
        have first : ∀ (os' : List Int), (∃ x ∈ left, x ∈ os') → ∃ a x b, os' = a ++ x :: b ∧ x ∈ left ∧ ∀ y ∈ a, y ∉ left := by
          intro os'
          induction os' with
          | nil => rintro ⟨x, _, h⟩; exact absurd h (by simp)
          | cons y r ih =>
            rintro ⟨x, hx, h⟩
            by_cases hy : y ∈ left
            · exact ⟨[], y, r, rfl, hy, by simp⟩
            · have hr : x ∈ r := by
                rcases List.mem_cons.mp h with z | z
                · rw [z] at hx; exact absurd hx hy
                · exact z
              obtain ⟨a, z, b, e1, e2, e3⟩ := ih ⟨x, hx, hr⟩
              refine ⟨y :: a, z, b, by rw [e1]; rfl, e2, fun w hw => ?_⟩
              rcases List.mem_cons.mp hw with q | q
              · rw [q]; exact hy
              · exact e3 w q
        obtain ⟨x0, hx0⟩ := List.exists_mem_of_ne_nil _ e
        obtain ⟨a, x, b, e1, e2, e3⟩ := first os ⟨x0, hx0, hl x0 hx0⟩
        refine List.ne_nil_of_mem (a := x) (List.mem_filter.mpr ⟨e2, ?_⟩)
        cases hany : steps.any fun q => q.2 == x && left.contains q.1 with
        | false => rfl
        | true =>
          obtain ⟨q, hq, h2⟩ := List.any_eq_true.mp hany
          rw [Bool.and_eq_true, beq_iff_eq, List.contains_iff_mem] at h2
          obtain ⟨a', b', e4, e5⟩ := ha q hq
          rw [h2.1] at e4
          have hx1 : x ∉ a := fun z => e3 x z e2
          -- x stands once: a' = a
          have ea : a' = a := by
            have key : ∀ (a a' b b' : List Int), a ++ x :: b = a' ++ x :: b' → x ∉ a → x ∉ a' → a' = a := by
              intro a
              induction a with
              | nil =>
                intro a' b b' h _ h2
                cases a' with
                | nil => rfl
                | cons c r =>
                  have : x = c := by
                    injection h
                  exact absurd (by rw [this]; exact List.mem_cons_self) h2
              | cons c r ih =>
                intro a' b b' h h1 h2
                cases a' with
                | nil =>
                  have : c = x := by
                    injection h
                  exact absurd (by rw [this]; exact List.mem_cons_self) h1
                | cons c' r' =>
                  injection h with q1 q2
                  rw [q1, ih r' b b' q2 (fun z => h1 (List.mem_cons_of_mem _ z)) (fun z => h2 (List.mem_cons_of_mem _ z))]
            have nda : x ∉ a' := by
              rw [e4] at nd
              have h3 := (List.nodup_append.mp nd).2.2
              intro z
              exact h3 x z x List.mem_cons_self rfl
            exact key a a' b b' (e1.symm.trans e4) hx1 nda
          rw [ea] at e5
          exact absurd h2.2 (e3 _ e5)
      rw [if_neg f]
      exact ring_of_order nd ha n _ fun x hx => hl x (List.mem_filter.mp hx).1

/-- without a ring: a row of just the left ones, in which each pair's first that is left is ahead -/
theorem order_of_ring {steps : List (Int × Int)} : ∀ (n : Nat) (left : List Int), left.length ≤ n → left.Nodup → ringL steps n left = false →
    ∃ os : List Int, os.Nodup ∧ (∀ x, x ∈ os ↔ x ∈ left) ∧ ∀ q ∈ steps, q.1 ∈ left → q.2 ∈ left → ∃ a b, os = a ++ q.2 :: b ∧ q.1 ∈ a
  | 0, left, h, _, _ => by
    have e : left = [] := List.length_eq_zero_iff.mp (by omega)
    subst e
    exact ⟨[], List.nodup_nil, fun _ => Iff.rfl, fun _ _ h => absurd h (by simp)⟩
  | n + 1, left, hn, nd, h => by
    unfold ringL at h
    by_cases e : left = []
    · subst e
      exact ⟨[], List.nodup_nil, fun _ => Iff.rfl, fun _ _ h => absurd h (by simp)⟩
    · rw [if_neg e] at h
      by_cases f : freeOf steps left = []
      · rw [if_pos f] at h; exact absurd h (by decide)
      · rw [if_neg f] at h
        have s := shrink f
        obtain ⟨os, o1, o2, o3⟩ := order_of_ring n _ (by omega) (nd.filter _) h
        have ml : ∀ x, x ∈ (left.filter fun p => !((freeOf steps left).contains p)) ↔ x ∈ left ∧ x ∉ freeOf steps left := fun x => by
          rw [List.mem_filter, Bool.not_eq_true', ← Bool.not_eq_true, List.contains_iff_mem]
        have sub : ∀ x, x ∈ freeOf steps left → x ∈ left := fun x hx => (List.mem_filter.mp hx).1
        refine ⟨freeOf steps left ++ os, List.nodup_append.mpr ⟨nd.filter _, o1, fun a ha b hb => ?_⟩, fun x => ?_, fun q hq h1 h2 => ?_⟩
        · rintro rfl
          exact ((ml a).mp ((o2 a).mp hb)).2 ha
        · rw [List.mem_append, o2, ml]
          constructor
          · rintro (h | h)
            · exact sub x h
            · exact h.1
          · intro h
            by_cases hx : x ∈ freeOf steps left
            · exact .inl hx
            · exact .inr ⟨h, hx⟩
        · have nf : q.2 ∉ freeOf steps left := fun z => by
            have z2 := (List.mem_filter.mp z).2
            rw [Bool.not_eq_true'] at z2
            have : (steps.any fun q' => q'.2 == q.2 && left.contains q'.1) = true :=
              List.any_eq_true.mpr ⟨q, hq, by rw [Bool.and_eq_true]; exact ⟨by simp, List.contains_iff_mem.mpr h1⟩⟩
            rw [this] at z2
            exact absurd z2 (by decide)
          have m2 : q.2 ∈ os := (o2 _).mpr ((ml _).mpr ⟨h2, nf⟩)
          by_cases h1f : q.1 ∈ freeOf steps left
          · obtain ⟨a, b, e1⟩ := List.append_of_mem m2
            exact ⟨freeOf steps left ++ a, b, by rw [e1, List.append_assoc], List.mem_append_left _ h1f⟩
          · obtain ⟨a, b, e1, e2⟩ := o3 q hq ((ml _).mpr ⟨h1, h1f⟩) ((ml _).mpr ⟨h2, nf⟩)
            exact ⟨freeOf steps left ++ a, b, by rw [e1, List.append_assoc], List.mem_append_right _ e2⟩

theorem mem_flatS {steps : List (Int × Int)} {x : Int} : x ∈ flatS steps ↔ ∃ q ∈ steps, x = q.1 ∨ x = q.2 := by
  unfold flatS
  rw [List.mem_flatMap]
  constructor
  · rintro ⟨q, hq, h⟩
    refine ⟨q, hq, ?_⟩
    simpa using h
  · rintro ⟨q, hq, h⟩
    exact ⟨q, hq, by simpa using h⟩

/-! ### keepers -/
abbrev Keep := List (Int × Int)
def stepsOf (S : Hands) (k : Keep) : List (Int × Int) := k.flatMap fun tp => ((holders S tp.1).filter fun o => !(o == tp.2)).map fun o => (o, tp.2)
theorem mem_stepsOf {S : Hands} {k : Keep} {q : Int × Int} : q ∈ stepsOf S k ↔ ∃ tp ∈ k, q.1 ∈ holders S tp.1 ∧ q.1 ≠ tp.2 ∧ q.2 = tp.2 := by
  unfold stepsOf
  rw [List.mem_flatMap]
  constructor
  · rintro ⟨tp, h, hq⟩
    obtain ⟨o, ho, rfl⟩ := List.mem_map.mp hq
    have h2 := List.mem_filter.mp ho
    exact ⟨tp, h, h2.1, by simpa using h2.2, rfl⟩
  · rintro ⟨tp, h, h1, h2, h3⟩
    refine ⟨tp, h, List.mem_map.mpr ⟨q.1, List.mem_filter.mpr ⟨h1, by simpa using h2⟩, ?_⟩⟩
    rw [← h3]
def keepStep (S : Hands) (found : List Keep) (t : Int) : List Keep := found.flatMap fun k => ((holders S t).map fun p => k ++ [(t, p)]).filter fun k' => !(hasRing (stepsOf S k'))
def keepersOf (S : Hands) (ts : List Int) : List Keep := ts.foldl (keepStep S) [[]]
def keepers (S : Hands) : List Keep := keepersOf S (things S)

theorem mem_keepStep {S : Hands} {found : List Keep} {t : Int} {k' : Keep} : k' ∈ keepStep S found t ↔ ∃ k ∈ found, ∃ p ∈ holders S t, k' = k ++ [(t, p)] ∧ hasRing (stepsOf S k') = false := by
  unfold keepStep
  rw [List.mem_flatMap]
  constructor
  · rintro ⟨k, hk, h⟩
    have h2 := List.mem_filter.mp h
    obtain ⟨p, hp, e⟩ := List.mem_map.mp h2.1
    exact ⟨k, hk, p, hp, e.symm, by simpa using h2.2⟩
  · rintro ⟨k, hk, p, hp, e, h⟩
    exact ⟨k, hk, List.mem_filter.mpr ⟨List.mem_map.mpr ⟨p, hp, e.symm⟩, by simp [h]⟩⟩

theorem keepersOf_snoc (S : Hands) (ts : List Int) (t : Int) : keepersOf S (ts ++ [t]) = keepStep S (keepersOf S ts) t := by
  unfold keepersOf
  rw [List.foldl_append]
  rfl

/-- every keeper's things, in order; each holds its thing -/
theorem keepers_form {S : Hands} : ∀ (r : List Int) (ts : List Int), ts = r.reverse → ∀ k ∈ keepersOf S ts, k.map Prod.fst = ts ∧ ∀ tp ∈ k, tp.2 ∈ holders S tp.1
  | [], _, e, k, h => by
    subst e
    have : k = [] := by simpa [keepersOf] using h
    subst this
    exact ⟨rfl, by simp⟩
  | t :: r, _, e, k, h => by
    subst e
    rw [List.reverse_cons, keepersOf_snoc] at h
    obtain ⟨k0, hk0, p, hp, rfl, _⟩ := mem_keepStep.mp h
    obtain ⟨h1, h2⟩ := keepers_form r _ rfl k0 hk0
    refine ⟨by rw [List.map_append, h1, List.reverse_cons]; rfl, fun tp htp => ?_⟩
    rcases List.mem_append.mp htp with z | z
    · exact h2 tp z
    · have : tp = (t, p) := by simpa using z
      subst this
      exact hp

/-- the last keeper set has no ring (where there is a thing at all) -/
theorem keepers_ring {S : Hands} (r : List Int) (ts : List Int) (e : ts = r.reverse) (k : Keep) (h : k ∈ keepersOf S ts) : hasRing (stepsOf S k) = false := by
  subst e
  cases r with
  | nil =>
    have : k = [] := by simpa [keepersOf] using h
    subst this
    show hasRing [] = false
    decide
  | cons t r =>
    rw [List.reverse_cons, keepersOf_snoc] at h
    obtain ⟨_, _, _, _, _, q⟩ := mem_keepStep.mp h
    exact q

theorem keepers_nodup {S : Hands} : ∀ (r : List Int) (ts : List Int), ts = r.reverse → (keepersOf S ts).Nodup
  | [], _, e => by
    subst e
    simp [keepersOf]
  | t :: r, _, e => by
    subst e
    rw [List.reverse_cons, keepersOf_snoc]
    have ih := keepers_nodup (S := S) r _ rfl
    unfold keepStep
    generalize keepersOf S r.reverse = found at ih
    induction found with
    | nil => simp
    | cons k f ihf =>
      rw [List.flatMap_cons, List.nodup_append]
      have nf := List.nodup_cons.mp ih
      refine ⟨?_, ihf nf.2, fun a ha b hb => ?_⟩
      · refine List.Pairwise.filter _ ?_
        rw [List.pairwise_map]
        refine (nodup_holders S t).imp fun h e => h ?_
        have e2 := List.append_cancel_left e
        injection e2 with e3 _
        exact (Prod.mk.inj e3).2
      · rintro rfl
        obtain ⟨p, _, e1⟩ := List.mem_map.mp (List.mem_filter.mp ha).1
        obtain ⟨k2, hk2, h2⟩ := List.mem_flatMap.mp hb
        obtain ⟨p2, _, e2⟩ := List.mem_map.mp (List.mem_filter.mp h2).1
        have e3 : k = k2 := by
          have := congrArg List.dropLast (e1.trans e2.symm)
          simpa using this
        subst e3
        exact nf.1 hk2

/-- what holds of every prefix is enough -/
theorem keepers_all {S : Hands} (g : Int → Int) : ∀ (r : List Int) (ts : List Int), ts = r.reverse → (∀ t ∈ ts, g t ∈ holders S t) →
    (∀ us : List Int, (∀ t ∈ us, t ∈ ts) → hasRing (stepsOf S (us.map fun t => (t, g t))) = false) → (ts.map fun t => (t, g t)) ∈ keepersOf S ts
  | [], _, e, _, _ => by
    subst e
    simp [keepersOf]
  | t :: r, _, e, h1, h2 => by
    subst e
    rw [List.reverse_cons] at h1 h2 ⊢
    rw [keepersOf_snoc]
    refine mem_keepStep.mpr ⟨(r.reverse).map fun t => (t, g t), keepers_all g r _ rfl (fun x hx => h1 x (List.mem_append_left _ hx)) (fun us hus => h2 us fun x hx => List.mem_append_left _ (hus x hx)), g t, h1 t (by simp), ?_, ?_⟩
    · rw [List.map_append]; rfl
    · exact h2 _ fun x hx => hx

/-! ### ends -/
def endBy (S : Hands) (g : Int → Option Int) : Hands := (List.range S.length).map fun p => (S.getD p []).filter fun t => g t == some (p : Int)
def look (k : Keep) (t : Int) : Option Int := k.lookup t
def endsL (S : Hands) : List Hands := (keepers S).map fun k => endBy S (look k)

def call (S : Hands) (p : Nat) : Hands := S.take p ++ (((S.getD p []).filter fun t => holders S t == [(p : Int)]) :: S.drop (p + 1))
def done (S : Hands) (os : List Int) : Hands := os.foldl (fun S p => call S p.toNat) S

theorem call_len {S : Hands} {p : Nat} (h : p < S.length) : (call S p).length = S.length := by
  unfold call
  rw [List.length_append, List.length_take, List.length_cons, List.length_drop]
  omega
theorem call_get {S : Hands} {p q : Nat} (h : p < S.length) : (call S p).getD q [] = if q = p then (S.getD p []).filter fun t => holders S t == [(p : Int)] else S.getD q [] := by
  unfold call
  rw [List.getD_eq_getElem?_getD, List.getElem?_append, List.length_take]
  by_cases h1 : q < p
  · rw [if_pos (by omega), if_neg (by omega), List.getElem?_take_of_lt h1, List.getD_eq_getElem?_getD]
  · rw [if_neg (by omega)]
    have e0 : min p S.length = p := by omega
    rw [e0]
    by_cases h2 : q = p
    · subst h2
      rw [if_pos rfl, Nat.sub_self]
      rfl
    · rw [if_neg h2]
      obtain ⟨d, hd⟩ : ∃ d, q - p = d + 1 := ⟨q - p - 1, by omega⟩
      rw [hd, List.getElem?_cons_succ, List.getElem?_drop, List.getD_eq_getElem?_getD]
      have : p + 1 + d = q := by omega
      rw [this]

/-- the last of a row that holds a thing -/
def lastOf (os : List Int) (l : List Int) : Option Int := os.reverse.find? fun p => l.contains p

theorem lastOf_spec {os l : List Int} {p : Int} (nd : os.Nodup) : lastOf os l = some p ↔ p ∈ l ∧ ∃ a b, os = a ++ p :: b ∧ ∀ x ∈ b, x ∉ l := by
  unfold lastOf
  rw [List.find?_eq_some_iff_append]
  constructor
  · rintro ⟨h, a, b, e, h2⟩
    refine ⟨List.contains_iff_mem.mp h, b.reverse, a.reverse, ?_, fun x hx => ?_⟩
    · have := congrArg List.reverse e
      rw [List.reverse_reverse] at this
      rw [this]
      simp
    · have := h2 x (List.mem_reverse.mp hx)
      rw [Bool.not_eq_true', ← Bool.not_eq_true, List.contains_iff_mem] at this
      exact this
  · rintro ⟨h, a, b, e, h2⟩
    refine ⟨List.contains_iff_mem.mpr h, b.reverse, a.reverse, ?_, fun x hx => ?_⟩
    · rw [e]; simp
    · have := h2 x (List.mem_reverse.mp hx)
      rw [Bool.not_eq_true', ← Bool.not_eq_true, List.contains_iff_mem]
      exact this

theorem lastOf_none {os l : List Int} : lastOf os l = none ↔ ∀ x ∈ os, x ∉ l := by
  unfold lastOf
  rw [List.find?_eq_none]
  constructor
  · intro h x hx hl
    exact h x (List.mem_reverse.mpr hx) (List.contains_iff_mem.mpr hl)
  · intro h x hx
    rw [List.contains_iff_mem]
    exact h x (List.mem_reverse.mp hx)

/-- the hands behind the calls of a row's first part -/
def midBy (S : Hands) (os rest : List Int) : Hands := (List.range S.length).map fun p => (S.getD p []).filter fun t => rest.contains (p : Int) || lastOf os (holders S t) == some (p : Int)
theorem midBy_len (S : Hands) (os rest : List Int) : (midBy S os rest).length = S.length := by simp [midBy]
theorem midBy_get {S : Hands} {os rest : List Int} {p : Nat} (h : p < S.length) : (midBy S os rest).getD p [] = (S.getD p []).filter fun t => rest.contains (p : Int) || lastOf os (holders S t) == some (p : Int) := by
  rw [List.getD_eq_getElem?_getD]
  unfold midBy
  rw [List.getElem?_map, List.getElem?_range h]
  rfl
theorem mem_hold_mid {S : Hands} {os rest : List Int} {t q : Int} : q ∈ holders (midBy S os rest) t ↔ q ∈ holders S t ∧ (q ∈ rest ∨ lastOf os (holders S t) = some q) := by
  rw [mem_holders, mem_holders, midBy_len]
  constructor
  · rintro ⟨h0, h1, h2⟩
    have hq : q.toNat < S.length := by omega
    have e : ((q.toNat : Nat) : Int) = q := by omega
    rw [midBy_get hq, List.mem_filter, Bool.or_eq_true, List.contains_iff_mem, e, beq_iff_eq] at h2
    exact ⟨⟨h0, h1, h2.1⟩, h2.2⟩
  · rintro ⟨⟨h0, h1, h2⟩, h3⟩
    have hq : q.toNat < S.length := by omega
    have e : ((q.toNat : Nat) : Int) = q := by omega
    refine ⟨h0, h1, ?_⟩
    rw [midBy_get hq, List.mem_filter, Bool.or_eq_true, List.contains_iff_mem, e, beq_iff_eq]
    exact ⟨h2, h3⟩

theorem eq_single {l : List Int} {p : Int} (nd : l.Nodup) : l = [p] ↔ p ∈ l ∧ ∀ q ∈ l, q = p := by
  constructor
  · rintro rfl; simp
  · rintro ⟨h1, h2⟩
    cases l with
    | nil => exact absurd h1 (by simp)
    | cons a r =>
      have ea : a = p := h2 a List.mem_cons_self
      subst ea
      cases r with
      | nil => rfl
      | cons b r =>
        have eb : b = a := h2 b (by simp)
        subst eb
        exact absurd (List.nodup_cons.mp nd).1 (by simp)

theorem mid_step {S : Hands} {os a rest : List Int} {p : Nat} (nd : os.Nodup) (hos : os = a ++ (p : Int) :: rest) (hall : ∀ x : Int, 0 ≤ x → x < S.length → x ∈ os) (hp : p < S.length) :
    call (midBy S os ((p : Int) :: rest)) p = midBy S os rest := by
  have hp' : p < (midBy S os ((p : Int) :: rest)).length := by rw [midBy_len]; exact hp
  apply List.ext_getElem
  · rw [call_len hp', midBy_len, midBy_len]
  · intro q h1 h2
    have hq : q < S.length := by rw [midBy_len] at h2; exact h2
    have g : ∀ (l : Hands) (h : q < l.length), l[q] = l.getD q [] := fun l h => by simp [h]
    rw [g _ h1, g _ h2, call_get hp', midBy_get (rest := rest) hq]
    have nr : (p : Int) ∉ rest := by
      rw [hos] at nd
      have := (List.nodup_append.mp nd).2.1
      exact (List.nodup_cons.mp this).1
    by_cases e : q = p
    · subst e
      rw [if_pos rfl, midBy_get hq, List.filter_filter]
      refine List.filter_congr fun t ht => ?_
      have hh : (q : Int) ∈ holders S t := mem_holders.mpr ⟨by omega, by omega, by simpa using ht⟩
      have c1 : rest.contains (q : Int) = false := by
        rw [← Bool.not_eq_true, List.contains_iff_mem]; exact nr
      have c2 : ((q : Int) :: rest).contains (q : Int) = true := by rw [List.contains_iff_mem]; exact List.mem_cons_self
      rw [c1, c2, Bool.true_or, Bool.and_true, Bool.false_or]
      -- is it the only holder now just if it is the last one
      have key : holders (midBy S os ((q : Int) :: rest)) t = [(q : Int)] ↔ lastOf os (holders S t) = some (q : Int) := by
        rw [eq_single (nodup_holders _ _), mem_hold_mid]
        constructor
        · rintro ⟨_, h⟩
          cases hl : lastOf os (holders S t) with
          | none => exact absurd hh (lastOf_none.mp hl _ (hall _ (by omega) (by omega)))
          | some z =>
            have hz := (lastOf_spec nd).mp hl
            have := h z (mem_hold_mid.mpr ⟨hz.1, .inr hl⟩)
            rw [this]
        · intro hl
          refine ⟨⟨hh, .inr hl⟩, fun z hz => ?_⟩
          obtain ⟨z1, z2⟩ := mem_hold_mid.mp hz
          rcases z2 with z2 | z2
          · obtain ⟨_, a', b', e1, e2⟩ := (lastOf_spec nd).mp hl
            -- the parts are the same
            have eb : b' = rest := by
              have k : ∀ (a a' b b' : List Int) (x : Int), a ++ x :: b = a' ++ x :: b' → (a ++ x :: b).Nodup → b' = b := by
                intro a
                induction a with
                | nil =>
                  intro a' b b' x h nd
                  cases a' with
                  | nil => injection h with _ h; exact h.symm
                  | cons c r =>
                    injection h with h1 h2
                    subst h1
                    have := (List.nodup_cons.mp nd).1
                    rw [h2] at this
                    exact absurd (by simp) this
                | cons c r ih =>
                  intro a' b b' x h nd
                  cases a' with
                  | nil =>
                    injection h with h1 h2
                    subst h1
                    have := (List.nodup_cons.mp nd).1
                    exact absurd (by simp) this
                  | cons c' r' =>
                    injection h with h1 h2
                    exact ih r' b b' x h2 (List.nodup_cons.mp nd).2
              exact k a a' rest b' q (hos.symm.trans e1) (hos ▸ nd)
            rcases List.mem_cons.mp z2 with z3 | z3
            · exact z3
            · rw [← eb] at z3
              exact absurd z1 (e2 z z3)
          · rw [hl] at z2
            exact (Option.some.inj z2).symm
      by_cases k2 : lastOf os (holders S t) = some (q : Int)
      · rw [beq_iff_eq.mpr k2, beq_iff_eq.mpr (key.mpr k2)]
      · rw [beq_eq_false_iff_ne.mpr k2, beq_eq_false_iff_ne.mpr (fun z => k2 (key.mp z))]
    · rw [if_neg e, midBy_get hq]
      refine List.filter_congr fun t _ => ?_
      have c : ((p : Int) :: rest).contains (q : Int) = rest.contains (q : Int) := by
        rw [List.contains_cons]
        have : ((q : Int) == (p : Int)) = false := beq_eq_false_iff_ne.mpr (by omega)
        rw [this, Bool.false_or]
      rw [c]

theorem done_mid {S : Hands} {os : List Int} (nd : os.Nodup) (hin : ∀ x ∈ os, 0 ≤ x ∧ x < S.length) (hall : ∀ x : Int, 0 ≤ x → x < S.length → x ∈ os) :
    ∀ (rest a : List Int), os = a ++ rest → done (midBy S os rest) rest = midBy S os []
  | [], _, _ => rfl
  | p :: rest, a, e => by
    have hp := hin p (by rw [e]; simp)
    have ep : ((p.toNat : Nat) : Int) = p := by omega
    show done (call (midBy S os (p :: rest)) p.toNat) rest = _
    have st := mid_step (S := S) (os := os) (a := a) (rest := rest) (p := p.toNat) nd (by rw [ep]; exact e) hall (by omega)
    rw [ep] at st
    rw [st]
    exact done_mid nd hin hall rest (a ++ [p]) (by rw [e]; simp)

theorem mid_start {S : Hands} {os : List Int} (hall : ∀ x : Int, 0 ≤ x → x < S.length → x ∈ os) : midBy S os os = S := by
  apply List.ext_getElem
  · exact midBy_len _ _ _
  · intro q h1 h2
    have g : ∀ (l : Hands) (h : q < l.length), l[q] = l.getD q [] := fun l h => by simp [h]
    rw [g _ h1, g _ h2, midBy_get h2]
    rw [List.filter_eq_self]
    intro t _
    have : os.contains (q : Int) = true := List.contains_iff_mem.mpr (hall _ (by omega) (by omega))
    rw [this, Bool.true_or]

/-- an order: each of so many people once -/
def IsOrder (n : Nat) (os : List Int) : Prop := os.Nodup ∧ ∀ x : Int, x ∈ os ↔ 0 ≤ x ∧ x < n

theorem done_order {S : Hands} {os : List Int} (h : IsOrder S.length os) : done S os = endBy S fun t => lastOf os (holders S t) := by
  have hall : ∀ x : Int, 0 ≤ x → x < S.length → x ∈ os := fun x a b => (h.2 x).mpr ⟨a, b⟩
  have e := done_mid (S := S) h.1 (fun x hx => (h.2 x).mp hx) hall os [] rfl
  rw [mid_start hall] at e
  rw [e]
  unfold midBy endBy
  simp

theorem endBy_congr {S : Hands} {f g : Int → Option Int} (h : ∀ t, (∃ p : Nat, p < S.length ∧ t ∈ S.getD p []) → f t = g t) : endBy S f = endBy S g := by
  unfold endBy
  refine List.map_congr_left fun p hp => List.filter_congr fun t ht => ?_
  rw [h t ⟨p, List.mem_range.mp hp, ht⟩]

/-- few people, few things -/
structure Small (S : Hands) : Prop where
  people : S.length ≤ 8
  thing : ∀ h ∈ S, ∀ t ∈ h, 0 ≤ t ∧ t < 8

theorem mem_things {S : Hands} (sm : Small S) {t : Int} : t ∈ things S ↔ ∃ p : Nat, p < S.length ∧ t ∈ S.getD p [] := by
  unfold things
  rw [mem_ascOf, List.mem_flatten]
  constructor
  · rintro ⟨⟨h, hh, ht⟩, _⟩
    obtain ⟨p, hp, e⟩ := List.getElem_of_mem hh
    exact ⟨p, hp, by rw [List.getD_eq_getElem?_getD, List.getElem?_eq_getElem hp, e]; exact ht⟩
  · rintro ⟨p, hp, ht⟩
    rw [List.getD_eq_getElem?_getD, List.getElem?_eq_getElem hp] at ht
    have hm : S[p] ∈ S := List.getElem_mem hp
    exact ⟨⟨S[p], hm, ht⟩, sm.thing _ hm _ ht⟩

theorem held_iff {S : Hands} {t : Int} : (∃ p : Nat, p < S.length ∧ t ∈ S.getD p []) ↔ ∃ p, p ∈ holders S t := by
  constructor
  · rintro ⟨p, h1, h2⟩
    exact ⟨p, mem_holders.mpr ⟨by omega, by omega, by simpa using h2⟩⟩
  · rintro ⟨p, hp⟩
    obtain ⟨h0, h1, h2⟩ := mem_holders.mp hp
    exact ⟨p.toNat, by omega, h2⟩

theorem lookup_map {g : Int → Int} {t : Int} : ∀ {ts : List Int}, t ∈ ts → (ts.map fun t => (t, g t)).lookup t = some (g t)
  | [], h => absurd h (by simp)
  | x :: r, h => by
    rw [List.map_cons, List.lookup_cons]
    by_cases e : t = x
    · subst e; simp
    · have : (t == x) = false := beq_eq_false_iff_ne.mpr e
      rw [this]
      exact lookup_map (by rcases List.mem_cons.mp h with z | z; exact absurd z e; exact z)

theorem keep_is_map {k : Keep} {ts : List Int} (nd : ts.Nodup) (e : k.map Prod.fst = ts) : k = ts.map fun t => (t, (k.lookup t).getD 0) := by
  subst e
  induction k with
  | nil => rfl
  | cons x r ih =>
    rw [List.map_cons] at nd
    have n2 := List.nodup_cons.mp nd
    rw [List.map_cons, List.map_cons, List.lookup_cons, beq_self_eq_true]
    congr 1
    have ih' := ih n2.2
    conv => lhs; rw [ih']
    refine List.map_congr_left fun t ht => ?_
    rw [List.lookup_cons]
    have : (t == x.1) = false := beq_eq_false_iff_ne.mpr fun z => n2.1 (z ▸ ht)
    rw [this]

/-- an end by a keeper set comes by an order -/
theorem end_to_order {S : Hands} (sm : Small S) {k : Keep} (h : k ∈ keepers S) : ∃ os, IsOrder S.length os ∧ done S os = endBy S (look k) := by
  have nt : (things S).Nodup := nodup_ascOf _
  obtain ⟨f1, f2⟩ := keepers_form (S := S) (things S).reverse (things S) (by simp) k h
  have ring := keepers_ring (S := S) (things S).reverse (things S) (by simp) k h
  have inS : ∀ q ∈ stepsOf S k, (0 ≤ q.1 ∧ q.1 < S.length) ∧ (0 ≤ q.2 ∧ q.2 < S.length) := fun q hq => by
    obtain ⟨tp, h1, h2, _, h4⟩ := mem_stepsOf.mp hq
    have a := mem_holders.mp h2
    have b := mem_holders.mp (f2 tp h1)
    rw [h4]
    exact ⟨⟨a.1, a.2.1⟩, b.1, b.2.1⟩
  have sp := sm.people
  have inL : ∀ q ∈ stepsOf S k, q.1 ∈ ascOf (flatS (stepsOf S k)) ∧ q.2 ∈ ascOf (flatS (stepsOf S k)) := fun q hq => by
    have z := inS q hq
    exact ⟨mem_ascOf.mpr ⟨mem_flatS.mpr ⟨q, hq, .inl rfl⟩, z.1.1, by omega⟩, mem_ascOf.mpr ⟨mem_flatS.mpr ⟨q, hq, .inr rfl⟩, z.2.1, by omega⟩⟩
  obtain ⟨os, o1, o2, o3⟩ := order_of_ring 8 _ (ascOf_len _) (nodup_ascOf _) ring
  have o2' : ∀ x ∈ os, 0 ≤ x ∧ x < S.length := fun x hx => by
    obtain ⟨q, hq, e⟩ := mem_flatS.mp (mem_ascOf.mp ((o2 x).mp hx)).1
    have z := inS q hq
    rcases e with e | e
    · rw [e]; exact z.1
    · rw [e]; exact z.2
  refine ⟨os ++ (upTo S.length).filter fun x => !(os.contains x), ⟨List.nodup_append.mpr ⟨o1, (nodup_upTo _).filter _, fun a ha b hb => ?_⟩, fun x => ?_⟩, ?_⟩
  · rintro rfl
    have := (List.mem_filter.mp hb).2
    rw [Bool.not_eq_true', ← Bool.not_eq_true, List.contains_iff_mem] at this
    exact this ha
  · rw [List.mem_append, List.mem_filter, mem_upTo, Bool.not_eq_true', ← Bool.not_eq_true, List.contains_iff_mem]
    constructor
    · rintro (z | z)
      · exact o2' x z
      · exact z.1
    · intro z
      by_cases e : x ∈ os
      · exact .inl e
      · exact .inr ⟨z, e⟩
  · have ord : IsOrder S.length (os ++ (upTo S.length).filter fun x => !(os.contains x)) := by
      refine ⟨List.nodup_append.mpr ⟨o1, (nodup_upTo _).filter _, fun a ha b hb => ?_⟩, fun x => ?_⟩
      · rintro rfl
        have := (List.mem_filter.mp hb).2
        rw [Bool.not_eq_true', ← Bool.not_eq_true, List.contains_iff_mem] at this
        exact this ha
      · rw [List.mem_append, List.mem_filter, mem_upTo, Bool.not_eq_true', ← Bool.not_eq_true, List.contains_iff_mem]
        constructor
        · rintro (z | z)
          · exact o2' x z
          · exact z.1
        · intro z
          by_cases e : x ∈ os
          · exact .inl e
          · exact .inr ⟨z, e⟩
    rw [done_order ord]
    refine endBy_congr fun t ht => ?_
    have htt : t ∈ things S := (mem_things sm).mpr ht
    have hk := keep_is_map nt f1
    have hkl : look k t = some ((k.lookup t).getD 0) := by
      unfold look
      conv => lhs; rw [hk]
      exact lookup_map htt
    rw [hkl]
    have hmem : (t, (k.lookup t).getD 0) ∈ k := by
      have m : (t, (k.lookup t).getD 0) ∈ (things S).map fun t => (t, (k.lookup t).getD 0) := List.mem_map.mpr ⟨t, htt, rfl⟩
      rw [← hk] at m
      exact m
    generalize (k.lookup t).getD 0 = p at hmem
    have hp : p ∈ holders S t := f2 _ hmem
    refine (lastOf_spec ord.1).mpr ⟨hp, ?_⟩
    -- every other holder is ahead of p
    have ah : ∀ q ∈ holders S t, q ≠ p → ∃ a b, os = a ++ p :: b ∧ q ∈ a := fun q hq hne => by
      have hs : (q, p) ∈ stepsOf S k := mem_stepsOf.mpr ⟨(t, p), hmem, hq, hne, rfl⟩
      have z := inL _ hs
      exact o3 _ hs z.1 z.2
    have hpo : p ∈ os ++ (upTo S.length).filter fun x => !(os.contains x) := by
      have b := mem_holders.mp hp
      exact (ord.2 p).mpr ⟨b.1, b.2.1⟩
    obtain ⟨a, b, e⟩ := List.append_of_mem hpo
    refine ⟨a, b, e, fun x hx hxl => ?_⟩
    have nd := ord.1
    rw [e] at nd
    have nd2 := List.nodup_append.mp nd
    have hxp : x ≠ p := fun z => (List.nodup_cons.mp nd2.2.1).1 (z ▸ hx)
    obtain ⟨a', b', e', hxa⟩ := ah x hxl hxp
    have e3 : ∀ F : List Int, os ++ F = a' ++ p :: (b' ++ F) := fun F => by
      rw [e', List.append_assoc]; rfl
    have e2 : a ++ p :: b = a' ++ p :: (b' ++ (upTo S.length).filter fun x => !(os.contains x)) := e.symm.trans (e3 _)
    -- x stands ahead of p and behind it
    have hx2 : x ∈ a := by
      have k : ∀ (a a' b b' : List Int), a ++ p :: b = a' ++ p :: b' → (a ++ p :: b).Nodup → a' = a := by
        intro a
        induction a with
        | nil =>
          intro a' b b' h nd
          cases a' with
          | nil => rfl
          | cons c r =>
            injection h with h1 h2
            subst h1
            have := (List.nodup_cons.mp nd).1
            rw [h2] at this
            exact absurd (by simp) this
        | cons c r ih =>
          intro a' b b' h nd
          cases a' with
          | nil =>
            injection h with h1 h2
            subst h1
            have := (List.nodup_cons.mp nd).1
            exact absurd (by simp) this
          | cons c' r' =>
            injection h with h1 h2
            rw [h1, ih r' b b' h2 (List.nodup_cons.mp nd).2]
      have := k a a' b _ e2 nd
      rw [this] at hxa
      exact hxa
    exact nd2.2.2 x hx2 x (List.mem_cons_of_mem _ hx) rfl

/-- and an order's end is one by a keeper set -/
theorem order_to_end {S : Hands} (sm : Small S) {os : List Int} (h : IsOrder S.length os) : ∃ k ∈ keepers S, done S os = endBy S (look k) := by
  have hl : ∀ t ∈ things S, ∃ p, lastOf os (holders S t) = some p := fun t ht => by
    cases e : lastOf os (holders S t) with
    | some p => exact ⟨p, rfl⟩
    | none =>
      obtain ⟨p, hp⟩ := held_iff.mp ((mem_things sm).mp ht)
      have b := mem_holders.mp hp
      exact absurd hp (lastOf_none.mp e p ((h.2 p).mpr ⟨b.1, b.2.1⟩))
  have hg : ∀ t ∈ things S, lastOf os (holders S t) = some ((lastOf os (holders S t)).getD 0) := fun t ht => by
    obtain ⟨p, e⟩ := hl t ht
    rw [e]; rfl
  refine ⟨(things S).map fun t => (t, (lastOf os (holders S t)).getD 0), ?_, ?_⟩
  · refine keepers_all (S := S) (fun t => (lastOf os (holders S t)).getD 0) (things S).reverse (things S) (by simp) (fun t ht => ((lastOf_spec h.1).mp (hg t ht)).1) fun us hus => ?_
    refine ring_of_order h.1 (fun q hq => ?_) 8 _ fun x hx => ?_
    · obtain ⟨tp, h1, h2, h3, h4⟩ := mem_stepsOf.mp hq
      obtain ⟨t, ht, rfl⟩ := List.mem_map.mp h1
      obtain ⟨_, a, b, e1, e2⟩ := (lastOf_spec h.1).mp (hg t (hus t ht))
      refine ⟨a, b, by rw [h4]; exact e1, ?_⟩
      have hb := mem_holders.mp h2
      have hm : q.1 ∈ os := (h.2 _).mpr ⟨hb.1, hb.2.1⟩
      rw [e1] at hm
      rcases List.mem_append.mp hm with z | z
      · exact z
      · rcases List.mem_cons.mp z with z | z
        · exact absurd z h3
        · exact absurd h2 (e2 _ z)
    · obtain ⟨q, hq, e⟩ := mem_flatS.mp (mem_ascOf.mp hx).1
      obtain ⟨tp, h1, h2, h3, h4⟩ := mem_stepsOf.mp hq
      obtain ⟨t, ht, rfl⟩ := List.mem_map.mp h1
      rcases e with e | e
      · rw [e]
        have hb := mem_holders.mp h2
        exact (h.2 _).mpr ⟨hb.1, hb.2.1⟩
      · rw [e, h4]
        have hb := mem_holders.mp ((lastOf_spec h.1).mp (hg t (hus t ht))).1
        exact (h.2 _).mpr ⟨hb.1, hb.2.1⟩
  · rw [done_order h]
    refine endBy_congr fun t ht => ?_
    have htt : t ∈ things S := (mem_things sm).mpr ht
    unfold look
    rw [lookup_map (g := fun t => (lastOf os (holders S t)).getD 0) htt]
    exact hg t htt

/-- unlike keeper sets, unlike ends -/
theorem ends_nodup {S : Hands} (sm : Small S) : (endsL S).Nodup := by
  unfold endsL
  rw [List.Nodup, List.pairwise_map]
  have nd := keepers_nodup (S := S) (things S).reverse (things S) (by simp)
  have nt : (things S).Nodup := nodup_ascOf _
  refine List.Pairwise.imp_of_mem (R := fun a b => a ≠ b) (fun {a b} ha hb hne e => hne ?_) nd
  obtain ⟨a1, a2⟩ := keepers_form (S := S) (things S).reverse (things S) (by simp) a ha
  obtain ⟨b1, b2⟩ := keepers_form (S := S) (things S).reverse (things S) (by simp) b hb
  rw [keep_is_map nt a1, keep_is_map nt b1]
  refine List.map_congr_left fun t ht => ?_
  have la : a.lookup t = some ((a.lookup t).getD 0) := by
    conv => lhs; rw [keep_is_map nt a1]
    exact lookup_map ht
  have lb : b.lookup t = some ((b.lookup t).getD 0) := by
    conv => lhs; rw [keep_is_map nt b1]
    exact lookup_map ht
  have ma : (t, (a.lookup t).getD 0) ∈ a := by
    have m : (t, (a.lookup t).getD 0) ∈ (things S).map fun t => (t, (a.lookup t).getD 0) := List.mem_map.mpr ⟨t, ht, rfl⟩
    rw [← keep_is_map nt a1] at m
    exact m
  generalize (a.lookup t).getD 0 = p at la ma ⊢
  generalize (b.lookup t).getD 0 = q at lb ⊢
  have hp := mem_holders.mp (a2 _ ma)
  have hpl : p.toNat < S.length := by have := hp.1; have := hp.2.1; omega
  have ep : ((p.toNat : Nat) : Int) = p := by have := hp.1; omega
  have ga : t ∈ (endBy S (look a)).getD p.toNat [] := by
    rw [List.getD_eq_getElem?_getD]
    unfold endBy
    rw [List.getElem?_map, List.getElem?_range hpl]
    refine List.mem_filter.mpr ⟨hp.2.2, ?_⟩
    unfold look
    rw [la, ep]
    simp
  rw [e, List.getD_eq_getElem?_getD] at ga
  unfold endBy at ga
  rw [List.getElem?_map, List.getElem?_range hpl] at ga
  have g2 := (List.mem_filter.mp ga).2
  unfold look at g2
  rw [lb, ep] at g2
  have : q = p := by simpa using g2
  rw [this]

/-! ### orders, one longer at a time -/
def orderStep (n : Nat) (found : List (List Int)) : List (List Int) := found.flatMap fun piece => ((upTo n).filter fun p => !(piece.contains p)).map fun p => piece ++ [p]
def ordersIn (n : Nat) : Nat → List (List Int)
  | 0 => [[]]
  | m + 1 => orderStep n (ordersIn n m)
def orders (n : Nat) : List (List Int) := ordersIn n n

theorem mem_ordersIn {n : Nat} : ∀ {m : Nat} {os : List Int}, os ∈ ordersIn n m ↔ os.Nodup ∧ os.length = m ∧ ∀ x ∈ os, 0 ≤ x ∧ x < n
  | 0, os => by
    constructor
    · intro h
      have : os = [] := by simpa [ordersIn] using h
      subst this
      exact ⟨List.nodup_nil, rfl, by simp⟩
    · rintro ⟨_, h, _⟩
      have : os = [] := List.length_eq_zero_iff.mp h
      subst this
      simp [ordersIn]
  | m + 1, os => by
    show os ∈ orderStep n (ordersIn n m) ↔ _
    unfold orderStep
    rw [List.mem_flatMap]
    constructor
    · rintro ⟨piece, hp, h⟩
      obtain ⟨p, hm, rfl⟩ := List.mem_map.mp h
      obtain ⟨p1, p2⟩ := List.mem_filter.mp hm
      rw [mem_upTo] at p1
      rw [Bool.not_eq_true', ← Bool.not_eq_true, List.contains_iff_mem] at p2
      obtain ⟨i1, i2, i3⟩ := mem_ordersIn.mp hp
      refine ⟨List.nodup_append.mpr ⟨i1, by simp, fun a ha b hb => ?_⟩, by simp [i2], fun x hx => ?_⟩
      · have : b = p := by simpa using hb
        subst this
        rintro rfl
        exact p2 ha
      · rcases List.mem_append.mp hx with z | z
        · exact i3 x z
        · have : x = p := by simpa using z
          rw [this]; exact p1
    · rintro ⟨h1, h2, h3⟩
      have hne : os ≠ [] := fun z => by rw [z] at h2; exact absurd h2 (by simp)
      have e := List.dropLast_concat_getLast hne
      generalize os.getLast hne = p at e
      generalize os.dropLast = piece at e
      subst e
      obtain ⟨n1, n2, n3⟩ := List.nodup_append.mp h1
      refine ⟨piece, mem_ordersIn.mpr ⟨n1, by simpa using h2, fun x hx => h3 x (List.mem_append_left _ hx)⟩, List.mem_map.mpr ⟨p, List.mem_filter.mpr ⟨mem_upTo.mpr (h3 p (by simp)), ?_⟩, rfl⟩⟩
      rw [Bool.not_eq_true', ← Bool.not_eq_true, List.contains_iff_mem]
      exact fun z => n3 p z p (by simp) rfl

/-- in a row without a repeat, of as many as there are, each stands -/
theorem full_of_len {l m : List Int} (nl : l.Nodup) (hs : ∀ x ∈ l, x ∈ m) (hlen : m.length ≤ l.length) : ∀ x ∈ m, x ∈ l := by
  intro x hx
  false_or_by_contra
  rename_i hn
  have h1 : ∀ (l m : List Int), l.Nodup → (∀ y ∈ l, y ∈ m) → l.length ≤ m.length := by
    intro l
    induction l with
    | nil => intro m _ _; simp
    | cons a r ih =>
      intro m nd hs
      have n2 := List.nodup_cons.mp nd
      obtain ⟨u, v, e⟩ := List.append_of_mem (hs a List.mem_cons_self)
      have := ih (u ++ v) n2.2 fun y hy => by
        have hm := hs y (List.mem_cons_of_mem _ hy)
        rw [e] at hm
        rcases List.mem_append.mp hm with z | z
        · exact List.mem_append_left _ z
        · rcases List.mem_cons.mp z with z | z
          · exact absurd (z ▸ hy) n2.1
          · exact List.mem_append_right _ z
      rw [e]
      simp only [List.length_append, List.length_cons] at this ⊢
      omega
  have := h1 (x :: l) m (List.nodup_cons.mpr ⟨hn, nl⟩) (fun y hy => by
    rcases List.mem_cons.mp hy with z | z
    · rw [z]; exact hx
    · exact hs y z)
  simp only [List.length_cons] at this
  omega

theorem mem_orders {n : Nat} {os : List Int} : os ∈ orders n ↔ IsOrder n os := by
  unfold orders
  rw [mem_ordersIn]
  have li : (upTo n).length = n := by simp [upTo]
  constructor
  · rintro ⟨h1, h2, h3⟩
    refine ⟨h1, fun x => ⟨h3 x, fun hx => ?_⟩⟩
    exact full_of_len h1 (fun y hy => mem_upTo.mpr (h3 y hy)) (by rw [li, h2]; exact Nat.le_refl _) x (mem_upTo.mpr hx)
  · rintro ⟨h1, h2⟩
    refine ⟨h1, ?_, fun x hx => (h2 x).mp hx⟩
    have a : os.length ≤ (upTo n).length := by
      have : ∀ (l m : List Int), l.Nodup → (∀ y ∈ l, y ∈ m) → l.length ≤ m.length := by
        intro l
        induction l with
        | nil => intro m _ _; simp
        | cons a r ih =>
          intro m nd hs
          have n2 := List.nodup_cons.mp nd
          obtain ⟨u, v, e⟩ := List.append_of_mem (hs a List.mem_cons_self)
          have := ih (u ++ v) n2.2 fun y hy => by
            have hm := hs y (List.mem_cons_of_mem _ hy)
            rw [e] at hm
            rcases List.mem_append.mp hm with z | z
            · exact List.mem_append_left _ z
            · rcases List.mem_cons.mp z with z | z
              · exact absurd (z ▸ hy) n2.1
              · exact List.mem_append_right _ z
          rw [e]
          simp only [List.length_append, List.length_cons] at this ⊢
          omega
      exact this _ _ h1 fun y hy => mem_upTo.mpr ((h2 y).mp hy)
    have b : (upTo n).length ≤ os.length := by
      have : ∀ (l m : List Int), l.Nodup → (∀ y ∈ l, y ∈ m) → l.length ≤ m.length := by
        intro l
        induction l with
        | nil => intro m _ _; simp
        | cons a r ih =>
          intro m nd hs
          have n2 := List.nodup_cons.mp nd
          obtain ⟨u, v, e⟩ := List.append_of_mem (hs a List.mem_cons_self)
          have := ih (u ++ v) n2.2 fun y hy => by
            have hm := hs y (List.mem_cons_of_mem _ hy)
            rw [e] at hm
            rcases List.mem_append.mp hm with z | z
            · exact List.mem_append_left _ z
            · rcases List.mem_cons.mp z with z | z
              · exact absurd (z ▸ hy) n2.1
              · exact List.mem_append_right _ z
          rw [e]
          simp only [List.length_append, List.length_cons] at this ⊢
          omega
      exact this _ _ (nodup_upTo n) fun y hy => (h2 y).mpr (mem_upTo.mp hy)
    omega

/-- the dict's keys: each new end once -/
def addKey (acc : List Hands) (e : Hands) : List Hands := if acc.contains e then acc else acc ++ [e]
def keysOf (S : Hands) : List Hands := (orders S.length).foldl (fun acc o => addKey acc (done S o)) []

theorem addKeys (S : Hands) : ∀ (os : List (List Int)) (acc : List Hands), acc.Nodup → (os.foldl (fun acc o => addKey acc (done S o)) acc).Nodup ∧ ∀ e, e ∈ os.foldl (fun acc o => addKey acc (done S o)) acc ↔ e ∈ acc ∨ ∃ o ∈ os, done S o = e
  | [], acc, nd => ⟨nd, fun e => by simp⟩
  | o :: os, acc, nd => by
    have nd2 : (addKey acc (done S o)).Nodup ∧ ∀ e, e ∈ addKey acc (done S o) ↔ e ∈ acc ∨ done S o = e := by
      unfold addKey
      by_cases h : acc.contains (done S o) = true
      · rw [if_pos h]
        refine ⟨nd, fun e => ⟨.inl, fun z => ?_⟩⟩
        rcases z with z | z
        · exact z
        · rw [← z]; exact List.contains_iff_mem.mp h
      · rw [if_neg h]
        rw [List.contains_iff_mem] at h
        refine ⟨List.nodup_append.mpr ⟨nd, by simp, fun a ha b hb => ?_⟩, fun e => ?_⟩
        · have : b = done S o := by simpa using hb
          subst this
          rintro rfl
          exact h ha
        · rw [List.mem_append, List.mem_singleton]
          exact ⟨fun z => z.imp id Eq.symm, fun z => z.imp id Eq.symm⟩
    obtain ⟨i1, i2⟩ := addKeys S os _ nd2.1
    refine ⟨i1, fun e => ?_⟩
    rw [List.foldl_cons, i2, nd2.2]
    constructor
    · rintro ((z | z) | ⟨o', h1, h2⟩)
      · exact .inl z
      · exact .inr ⟨o, List.mem_cons_self, z⟩
      · exact .inr ⟨o', List.mem_cons_of_mem _ h1, h2⟩
    · rintro (z | ⟨o', h1, h2⟩)
      · exact .inl (.inl z)
      · rcases List.mem_cons.mp h1 with z | z
        · exact .inl (.inr (z ▸ h2))
        · exact .inr ⟨o', z, h2⟩

/-- the two readings: the same ends -/
theorem keys_perm {S : Hands} (sm : Small S) : (keysOf S).Perm (endsL S) := by
  obtain ⟨k1, k2⟩ := addKeys S (orders S.length) [] List.nodup_nil
  have mem : ∀ e, e ∈ keysOf S ↔ e ∈ endsL S := fun e => by
    unfold keysOf
    rw [k2]
    unfold endsL
    rw [List.mem_map]
    constructor
    · rintro (z | ⟨o, ho, rfl⟩)
      · exact absurd z (by simp)
      · obtain ⟨k, hk, e⟩ := order_to_end sm (mem_orders.mp ho)
        exact ⟨k, hk, e.symm⟩
    · rintro ⟨k, hk, rfl⟩
      obtain ⟨os, ho, e⟩ := end_to_order sm hk
      exact .inr ⟨os, mem_orders.mpr ho, e⟩
  refine (List.perm_ext_iff_of_nodup k1 (ends_nodup sm)).mpr mem
theorem ends_ne {S : Hands} (sm : Small S) : keysOf S ≠ [] := by
  obtain ⟨_, k2⟩ := addKeys S (orders S.length) [] List.nodup_nil
  have h : done S (upTo S.length) ∈ keysOf S := (k2 _).mpr (.inr ⟨upTo S.length, mem_orders.mpr ⟨nodup_upTo _, fun x => mem_upTo⟩, rfl⟩)
  exact List.ne_nil_of_mem h
end Lh
end

section
set_option Elab.async false
set_option linter.all false
set_option maxRecDepth 100000
set_option maxHeartbeats 4000000
/-! Rules of my own over the hand layer: sorted, min, count of data; enumerate of a tuple. -/
namespace Lr
open PySem PySem.Spec PyProof.Rows L2

section
variable {K : PySem.W.Frag} {H : Hp}
theorem dpAll_len : ∀ {xs : List V} {ds : List PyData}, DpAll K H xs ds → xs.length = ds.length
  | _, _, .nil => rfl
  | _, _, .cons _ t => congrArg (· + 1) (dpAll_len t)
theorem dpAll_at : ∀ {xs : List V} {ds : List PyData} {i : Nat} {x : V}, DpAll K H xs ds → xs[i]? = some x → ∃ d, ds[i]? = some d ∧ Dp K H x d
  | _, _, i, x, .nil, h => by simp at h
  | _, _, 0, x, .cons a _, h => ⟨_, rfl, by simpa using (Option.some.inj h) ▸ a⟩
  | _, _, i + 1, x, .cons _ t, h => by
    obtain ⟨d, h1, h2⟩ := dpAll_at (i := i) (x := x) t (by simpa using h)
    exact ⟨d, by simpa using h1, h2⟩
theorem dpAll_at' : ∀ {xs : List V} {ds : List PyData} {i : Nat} {d : PyData}, DpAll K H xs ds → ds[i]? = some d → ∃ x, xs[i]? = some x ∧ Dp K H x d
  | _, _, i, d, .nil, h => by simp at h
  | _, _, 0, d, .cons a _, h => ⟨_, rfl, by simpa using (Option.some.inj h) ▸ a⟩
  | _, _, i + 1, d, .cons _ t, h => by
    obtain ⟨x, h1, h2⟩ := dpAll_at' (i := i) (d := d) t (by simpa using h)
    exact ⟨x, by simpa using h1, h2⟩
theorem vals_back : ∀ {xs : List V} {us : List Value} {i : Nat} {u : Value}, Vals xs us → us[i]? = some u → ∃ x, xs[i]? = some x ∧ RelV x u
  | _, _, i, u, .nil, h => by simp at h
  | _, _, 0, u, .cons a _, h => ⟨_, rfl, by simpa using (Option.some.inj h) ▸ a⟩
  | _, _, i + 1, u, .cons _ t, h => by
    obtain ⟨x, h1, h2⟩ := vals_back (i := i) (u := u) t (by simpa using h)
    exact ⟨x, by simpa using h1, h2⟩
/-- a value that bears this datum in the heap H -/
abbrev Bears (K : PySem.W.Frag) (H : Hp) (P : V → Prop) (u : Value) (d : PyData) : Prop := ∃ x, RelV x u ∧ Dp K H x d ∧ P x
theorem bears_all {P : V → Prop} : ∀ {xs : List V} {ds : List PyData} {us : List Value}, DpAll K H xs ds → Vals xs us → (∀ x ∈ xs, P x) → PySem.W.EachIs (Bears K H P) us ds
  | _, _, _, .nil, .nil, _ => .nil
  | _, _, _, .cons a t, .cons b s, p => .cons ⟨_, b, a, p _ List.mem_cons_self⟩ (bears_all t s fun x hx => p x (List.mem_cons_of_mem _ hx))
theorem all_bears {P : V → Prop} : ∀ {us : List Value} {ds : List PyData}, PySem.W.EachIs (Bears K H P) us ds → ∃ xs, Vals xs us ∧ DpAll K H xs ds ∧ ∀ x ∈ xs, P x
  | _, _, .nil => ⟨[], .nil, .nil, fun _ h => absurd h (by simp)⟩
  | _, _, .cons ⟨x, r, d, p⟩ t => by
    obtain ⟨xs, rs, ds, ps⟩ := all_bears t
    refine ⟨x :: xs, .cons r rs, .cons d ds, fun y hy => ?_⟩
    rcases List.mem_cons.mp hy with e | e
    · rw [e]; exact p
    · exact ps y e
end

section
variable {X : Cx}
/-- sorted(xs), data of any depth -/
def rSortD (K : PySem.W.Frag) : List V → Hp → VK → Prop := fun vs H Q => ∃ (a : Addr) (xs : List V) (ds : List PyData), vs = [V.ref a] ∧ SqL K H a xs ∧ DpAll K H xs ds ∧ ds.length ≤ 100000 ∧
  PySem.W.AllAlike ds ∧ PySem.W.Sortable ds ∧ (∀ d ∈ ds, d.depth ≤ 8) ∧ ∃ P : V → Prop, (∀ x ∈ xs, P x) ∧
    ∀ (ys : List V) (p : Addr), H p = none → DpAll K H ys (ds.mergeSort (PySem.W.dataLe false id)) → (∀ y ∈ ys, P y) → Q (.ref p) (upd H p (.lst ys))
theorem cr_sortD (hu : X.A.units + 64 < cLine) : CallR X (.builtin "sorted") (rSortD X.K) := by
  intro pins s σ H vs us Q I r h
  obtain ⟨a, xs, ds, rfl, hx, hd, hz, hal, hk, hdep, P, hP, q⟩ := h
  rw [Vals.ref1 r]
  obtain ⟨its, rv, pl, hl⟩ := I.list hx
  have e := bears_all hd rv hP
  have er : PySem.W.EachIs (fun v b => ∃ as, Reads s.heap v (id b) as) its ds := e.mono fun v d ⟨x, rx, dx, _⟩ => Dp.reads I d x v dx rx
  refine PySem.W.sorted_data (enc := id) pl.isList e er (by rw [List.map_id]; exact hal) (by rw [List.map_id]; exact hk) (Evl.sz_of hz) (fun b hb => ?_) fun out ho eo => ?_
  · have := hdep b hb
    show X.A.units + 2 + b.depth < cLine
    omega
  · obtain ⟨c, hc⟩ := sortedAll_at s.heap its out.toArray
    obtain ⟨ys, ry, dy, py⟩ := all_bears eo
    have hn : H (s.heap.objs.size + 1) = none := I.hok.fresh (Nat.le_succ _)
    have zy : ys.length ≤ sizeLine := by
      rw [ry.length, ho]
      exact Evl.sz_of hz
    exact ⟨.ref (s.heap.objs.size + 1), _, I.laid (t' := s.toks) (o := .lst ys) (fun b u e => sortedAll_old e) (Nat.le_succ _) ⟨zy, out, c, ry, hc⟩, rfl, q ys _ hn dy py⟩

theorem minD_mem : ∀ (xs : List PyData) (x : PyData), PySem.W.minD x xs ∈ x :: xs
  | [], x => by simp [PySem.W.minD]
  | y :: r, x => by
    show PySem.W.minD (if PySem.W.dataLt y x then y else x) r ∈ _
    have := minD_mem r (if PySem.W.dataLt y x then y else x)
    rcases List.mem_cons.mp this with e | e
    · rw [e]
      split
      · simp
      · simp
    · simp [e]
/-- min(xs), data of any depth -/
def rMinD (K : PySem.W.Frag) : List V → Hp → VK → Prop := fun vs H Q => ∃ (a : Addr) (xs : List V) (d : PyData) (ds : List PyData), vs = [V.ref a] ∧ SqL K H a xs ∧ DpAll K H xs (d :: ds) ∧
  PySem.W.AlikeAll (d :: ds) ∧ PyData.depthAll (d :: ds) ≤ 8 ∧ ∀ v, Dp K H v (PySem.W.minD d ds) → Q v H
theorem cr_minD (hc : X.calm = true) (hu : X.A.units + 64 < cLine) : CallR X (.builtin "min") (rMinD X.K) := by
  intro pins s σ H vs us Q I r h
  obtain ⟨a, xs, d, ds, rfl, hx, hd, hal, hdep, q⟩ := h
  rw [Vals.ref1 r]
  obtain ⟨its, rv, pl, hl⟩ := I.list hx
  obtain ⟨as, hr⟩ := Dp.readsAll I (d :: ds) xs its hd rv
  refine PySem.W.min_list_data (vs := its.toArray) (I.ok.hd hc) pl.isList hr hal (by omega) fun i v h' tk bs hv rd hk => ?_
  obtain ⟨x, hx1, rx⟩ := vals_back (u := v) (i := i) rv (by simpa using hv)
  obtain ⟨e, he, de⟩ := dpAll_at hd hx1
  have hm1 : e ∈ d :: ds := List.mem_of_getElem? he
  have hm2 := minD_mem ds d
  obtain ⟨bs2, r2⟩ := Dp.reads I e x v de rx
  have ee : e = PySem.W.minD d ds := PySem.W.alike_unique _ _ _ _ _ (hal.1 _ hm1 _ hm2) (PySem.W.reads_keeps hk r2) rd
  exact ⟨x, H, I.kept (h' := h') (t' := tk) hk, rx, q x (ee ▸ de)⟩

/-- t.count(x), data -/
def rCountD (K : PySem.W.Frag) : V → List V → Hp → VK → Prop := fun x vs H Q => ∃ (a : Addr) (y : V) (xs : List V) (ds : List PyData) (d : PyData), x = V.ref a ∧ vs = [y] ∧ SqT K H a xs ∧ DpAll K H xs ds ∧ Dp K H y d ∧
  PyData.plainAll ds = true ∧ d.plain = true ∧ d.depth ≤ 8 ∧ Q (.int ((ds.countP fun z => PyData.eqv z d : Nat) : Int)) H
theorem mt_countD (hu : X.A.units + 64 < cLine) : MtR X "tuple.count" (rCountD X.K) := by
  intro pins s σ H x vs v us Q I rx r h
  obtain ⟨a, y, xs, ds, d, rfl, rfl, hx, hd, hy, p1, p2, hdep, q⟩ := h
  obtain ⟨uy, rfl, ry⟩ := vals1 r
  obtain rfl : v = Value.ref a := rx
  obtain ⟨its, rv, pt, hl⟩ := I.tuple hx
  obtain ⟨as, hr⟩ := Dp.readsAll I ds xs its hd rv
  obtain ⟨bs, rb⟩ := Dp.reads I d y uy hy ry
  refine SeqAt.count_tuple_data (vs := its.toArray) pt hr rb p1 p2 ?_ ⟨.int _, H, I.tok _, ⟨_, rfl⟩, q⟩
  have : min (PyData.depthAll ds) d.depth ≤ d.depth := Nat.min_le_right _ _
  omega
end
end Lr
end

section
set_option Elab.async false
set_option linter.all false
set_option maxRecDepth 100000
set_option maxHeartbeats 4000000
/-! Rules of my own: enumerate of a tuple. -/
namespace Lr
open PySem PySem.Spec PyProof.Rows L2

/-- the enumerate object that stands behind the iterator at it -/
abbrev enumObj (it : Addr) : Obj := { cls := .type "enumerate", data := .fields #[.none, .bool false, .ref it, rawInt 0, .none, .none] }
abbrev tupIt (a : Addr) : Obj := { cls := .type "tuple_iterator", data := .fields #[.ref a, .int 0 0] }
set_option maxHeartbeats 1000000 in
theorem enum1_meets (a : Addr) (items : Array Value) :
    Meets (Builtin.«enumerate.__new__» ⟨[.type "enumerate", .ref a], []⟩) (fun _ R s => s.heap.IsTuple a items ∧
      R (.ok (.ret (.ref (s.heap.push (tupIt a)).objs.size))) { s with heap := (s.heap.push (tupIt a)).push (enumObj s.heap.objs.size) }) := by
  refine .of_wp fun prog w A R s hs => ?_
  obtain ⟨hp, ge, dr, tk, os⟩ := s
  obtain ⟨ht, hs⟩ := hs
  have he := sub_enumerate
  have it1 : ∀ {B : Around} {E Q : Value → Shared → Prop}, Q (.ref hp.objs.size) ⟨hp.push (tupIt a), ge, dr, tk, os⟩ →
      wpAny (model prog w) B (pyIter (.ref a)) Q E ⟨hp, ge, dr, tk, os⟩ := fun k => wpAny_pyIter_tuple ht k
  wp_walk using it1
  refine wpAny_stack_any fun _ => wpAny_pure ?_
  split
  · rename_i c _ _ _ _ _
    generalize (c == Value.type "enumerate") = yes
    cases yes <;> (wp_walk using it1; exact ⟨_, rfl, hs⟩)
  · wp_walk using it1
    exact ⟨_, rfl, hs⟩

section
variable {prog : Program} {w : World} {A : Around} {E : Value → Shared → Prop} {s : Shared}
theorem enum_tuple {a : Addr} {items : Array Value} {Q : Value → Shared → Prop} (ht : s.heap.IsTuple a items)
    (q : ∀ h', IsEnum h' (s.heap.objs.size + 1) s.heap.objs.size 0 .none → h'.IsTupleIter s.heap.objs.size a 0 → (∀ b o, s.heap.get? b = some o → h'.get? b = some o) → Q (.ref (s.heap.objs.size + 1)) { s with heap := h' }) :
    wpAny (model prog w) A (call (.type "enumerate") [.ref a]) Q E s := by
  have sz : (s.heap.push (tupIt a)).objs.size = s.heap.objs.size + 1 := Heap.size_push ..
  refine callType_new F.called_enumerate (by decide) (F.typeCall_enumerate_1 _) (F.newCall_enumerate_1 _) (fun u => F.args_object_init_2 u _) F.entry_enumerate_new (enum1_meets a items) ⟨ht, ?_⟩
  have g1 : IsEnum ((s.heap.push (tupIt a)).push (enumObj s.heap.objs.size)) (s.heap.objs.size + 1) s.heap.objs.size 0 .none := by
    have z := Heap.get?_push_size (s.heap.push (tupIt a)) (o := enumObj s.heap.objs.size) rfl
    rw [sz] at z
    exact z
  show _ ∧ _
  rw [sz]
  exact ⟨⟨_, g1, rfl⟩, q _ g1 ⟨_, Heap.get?_push_of_some _ (Heap.get?_push_size _ rfl), rfl, rfl⟩ fun b o x => Heap.get?_push_of_some _ (Heap.get?_push_of_some _ x)⟩
end

/-- the tuple at a, each item in a new pair with its place -/
def Itet (K : PySem.W.Frag) (a : Addr) : It where
  go := fun i H => ∃ (xs : List V) (x : V), SqT K H a xs ∧ xs[i]? = some x
  yld := fun i H v H' => ∃ T x, v = .ref T ∧ H T = none ∧ H' = upd H T (.tup [.int (i : Nat), x]) ∧ ∀ xs, SqT K H a xs → xs[i]? = some x
  stop := fun i H => ∃ xs : List V, SqT K H a xs ∧ xs.length = i
theorem turn_enumT {P : Program} {w : World} {K : PySem.W.Frag} {elts : List Expr} {kk : Nat} {tpos : Pos} (a e it : Addr) :
    Turn P w K (.Tuple elts kk tpos) (Itet K a) [e, it] e (fun i h => (∃ u, IsEnum h e it ((i : Nat) : Int) u) ∧ h.IsTupleIter it a i ∧ e ≠ it) where
  mem := List.mem_cons_self
  obj := by
    rintro i h ⟨⟨u, he⟩, ⟨o, ho, hc, hd⟩, _⟩ b hb
    rcases List.mem_cons.mp hb with z | z
    · subst z; exact ⟨_, he, fun v q => nomatch q⟩
    · have z := List.mem_singleton.mp z
      subst z; exact ⟨o, ho, fun v q => by rw [hd] at q; cases q⟩
  keep := by
    rintro i h h' ⟨⟨u, he⟩, hi, ne⟩ k
    exact ⟨⟨u, k e List.mem_cons_self _ he⟩, hi.at fun o q => k it (by simp) o q, ne⟩
  item := by
    rintro X rfl rfl rfl hc i pins s σ H E I hf ⟨⟨u0, he⟩, hit, ne⟩ ⟨xs, x, hq, hx⟩
    obtain ⟨its, rv, pt, hz⟩ := I.tuple hq
    obtain ⟨u, hu, ru⟩ := rv.get hx
    have hhd : X.A.in1.handled = none := I.ok.hd hc
    have ha : a ≠ it := by
      rintro rfl
      obtain ⟨o1, q1, c1, _⟩ := pt
      obtain ⟨o2, q2, c2, _⟩ := hit
      rw [q1] at q2; cases q2
      rw [c1] at c2
      injection c2 with z
      exact absurd z (by decide)
    have hea : e ≠ a := by
      rintro rfl
      obtain ⟨o1, q1, c1, _⟩ := pt
      have q2 : s.heap.get? e = some _ := he
      rw [q1] at q2; cases q2
      have c2 : Value.type "enumerate" = Value.type "tuple" := c1
      injection c2 with z
      exact absurd z (by decide)
    have hel : e < s.heap.objs.size := Heap.lt_size he
    have hil : it < s.heap.objs.size := by
      obtain ⟨_, q, _⟩ := hit
      exact Heap.lt_size q
    have hlt : i < its.toArray.size := by
      rw [List.size_toArray]
      exact (List.getElem?_eq_some_iff.mp hu).1
    refine wpAny_pyNext_enum_itemD (Draws.tuple hhd it a ha its.toArray) he ⟨hit, pt⟩ hlt ne (by simp [ne, hea]) fun y h' tk hy ho hit' hT _ hk => ?_
    have ey : y = u := by
      have hy2 : its[i]? = some y := by simpa using hy
      rw [hu] at hy2
      exact (Option.some.inj hy2).symm
    subst ey
    refine ⟨_, rfl, wpAny_letOwnedTupleGo_enum (s := { s with heap := h', toks := tk + 1 }) ho fun h2 he2 sb => ?_⟩
    have g2 : h2.get? s.heap.objs.size = some { cls := .type "tuple", data := .seq #[.int i tk, y] } := (sb.2 _ (Nat.ne_of_gt hel)).trans hT
    have I2 : Inv X pins σ (upd H s.heap.objs.size (.tup [.int (i : Nat), x])) { s with heap := h2, toks := tk + 1 } := by
      refine I.turnedNew (ch := [e, it]) (fun b ob hb q => ?_) hf (Nat.le_refl _) ⟨by show 2 ≤ sizeLine; decide, [.int i tk, y], .cons ⟨_, rfl⟩ (.cons ru .nil), ⟨_, g2, rfl, _, rfl⟩⟩
      simp only [List.mem_cons, List.not_mem_nil, or_false, not_or] at hb
      exact (sb.2 b hb.1).trans (hk b ob hb.1 hb.2 q)
    refine ⟨.ref s.heap.objs.size, _, I2, rfl, ⟨_, x, rfl, I.hok.fresh (Nat.le_refl _), rfl, fun ys hys => by rw [I.tuple_inj hys hq]; exact hx⟩, ⟨⟨y, ?_⟩, hit'.1.at fun o q => (sb.2 it (Ne.symm ne)).trans q, ne⟩, fun b hb => ?_⟩
    · have e1 : ((i + 1 : Nat) : Int) = (i : Int) + 1 := by omega
      rw [e1]; exact he2
    · have lt : b < s.heap.objs.size := by
        simp only [List.mem_cons, List.not_mem_nil, or_false] at hb
        rcases hb with z | z <;> subst z <;> assumption
      rw [upd_ne (Nat.ne_of_lt lt)]
      exact (hf b hb).1
  done := by
    rintro X rfl rfl rfl hc i pins s σ H E I hf ⟨⟨u0, he⟩, hit, ne⟩ ⟨xs, hq, hx⟩
    obtain ⟨its, rv, pt, hz⟩ := I.tuple hq
    have hhd : X.A.in1.handled = none := I.ok.hd hc
    have ha : a ≠ it := by
      rintro rfl
      obtain ⟨o1, q1, c1, _⟩ := pt
      obtain ⟨o2, q2, c2, _⟩ := hit
      rw [q1] at q2; cases q2
      rw [c1] at c2
      injection c2 with z
      exact absurd z (by decide)
    obtain ⟨f0, f1, f2, f3, f4, f5⟩ := hf it (by simp)
    have en : its.toArray.size = i := by
      rw [List.size_toArray, ← rv.length]
      exact hx
    subst en
    refine wpAny_pyNext_enum_endD (Draws.tuple hhd it a ha its.toArray) he ⟨hit, pt⟩ fun h' eb => ⟨rfl, I.turned (t' := s.toks) (fun b o hb q => eb b o hb q) f0 f1 f3 f4 f5⟩
  self := fun A i s Q E st h => let ⟨⟨_, he⟩, _⟩ := st; wpAny_pyIter_enum he h
def iEnumT (K : PySem.W.Frag) (ta : TA) : TI := fun σ H R => ta σ H fun vs H1 => ∃ a xs, vs = [V.ref a] ∧ SqT K H1 a xs ∧ R (Itet K a) H1
theorem pi_enumT {X : Cx} {e : Expr} {ta : TA} {p pos tpos : Pos} {elts : List Expr} {kk : Nat} (hg : Gl X "enumerate") (hm : X.mg "enumerate" = none) (ha : PA X [e] ta) (hs : starEach [e] X.env = [(false, eval e X.env)] := by rfl) :
    PI X (.Tuple elts kk tpos) (.Call (.Name "enumerate" p) [e] [] pos) (iEnumT X.K ta) := by
  refine ⟨fun pins s σ H R I h => ?_⟩
  refine Call_ (ld_blt I hg hm boot_enumerate (PyProof.Rows.callWith_type1 (thn (ha.run pos pins s σ H _ I h) fun us s1 hq1 => ?_) hs rfl))
  obtain ⟨vs, H1, I1, r1, a, xs, rfl, hq, q⟩ := hq1
  rw [Vals.ref1 r1]
  obtain ⟨its, rv, pt, hz⟩ := I1.tuple hq
  refine enum_tuple pt fun h' he hit hk => wpAny_pyIter_enum he ?_
  have I2 : Inv X pins σ H1 { s1 with heap := h' } := I1.kept (t' := s1.toks) hk
  refine ⟨_, [s1.heap.objs.size + 1, s1.heap.objs.size], _, _, H1, rfl, I2, turn_enumT a (s1.heap.objs.size + 1) s1.heap.objs.size, ⟨⟨.none, he⟩, hit, Nat.succ_ne_self _⟩, fun b hb => ?_, q⟩
  have le : s1.heap.objs.size ≤ b := by
    simp only [List.mem_cons, List.not_mem_nil, or_false] at hb
    rcases hb with z | z <;> subst z
    · exact Nat.le_add_right _ _
    · exact Nat.le_refl _
  exact I1.fpOk le (I1.hok.fresh le)
theorem walk_enumT {K : PySem.W.Frag} {a : Addr} {xs : List V} : Walk (Itet K a) xs.length (fun H => SqT K H a xs) (YPair (fun i => some (.int (i : Nat))) (fun i => xs[i]?)) where
  goes := fun i _ hi q => ⟨xs, xs[i], q, by simp [hi]⟩
  stops := fun _ q => ⟨xs, q, rfl⟩
  yields := by
    rintro i H v H' _ q ⟨T, x, h1, h2, h3, h4⟩
    exact ⟨T, .int (i : Nat), x, h1, h2, h3, rfl, h4 xs q⟩
end Lr
end

section
set_option Elab.async false
set_option linter.all false
set_option maxRecDepth 100000
set_option maxHeartbeats 4000000
/-! Rules of my own: set(xs) of a list of ints, as the hand layer's set of ints. -/
namespace Lr
open PySem PySem.Spec PyProof.Rows L2
section
variable {P : Program} {w : World} {A : Around} {E : Value → Shared → Prop} {s : Shared}
/-- a set just made -/
abbrev bareSet (w : World) : Obj := { cls := .type "set", dict := none, data := .set #[] 0 (.fresh 0 0 (!w.params.followText "set-order")) }
abbrev lstIt (l : Addr) : Obj := { cls := .type "list_iterator", data := .fields #[.ref l, .int 0 0] }
/-- what is wanted behind the filling of the new set -/
abbrev Filled (w : World) (s : Shared) (ns : List Int) (s2 : Shared) : Prop := ∃ h' tk c, s2 = { s with heap := h', toks := tk } ∧ SetR w h' s.heap.objs.size (fun j => decide (j ∈ ns)) c ∧ c ≤ ns.length ∧
  ∀ b o, s.heap.get? b = some o → h'.get? b = some o

theorem bare_is {h : Heap} {a : Addr} {ns : List Int} (e : h.get? a = some (bareSet w)) : SetR w h a (fun j => decide (j ∈ ns.take 0)) 0 := setR_new_at e
set_option maxHeartbeats 8000000 in
/-- set(xs), xs a list of ints -/
theorem set_of_list {l : Addr} {items : Array Value} (ns : List Int) {Q : Value → Shared → Prop} (hh : A.handled = none) (hl : s.heap.IsList l items) (hi : IntsAre items.toList ns) (hb : ns.length + 1 < scanBound)
    (q : ∀ s2, Filled w s ns s2 → Q (.ref s.heap.objs.size) s2) : wpAny (model P w) A (call (.type "set") [.ref l]) Q E s := by
  have size : items.size = ns.length := by simpa using IntsAre.length hi
  obtain ⟨c1, c2, chain⟩ := F.called_set.mro
  have k1 := F.called_set.made
  have k2 := F.called_set.sub
  have k3 := F.called_set.notType
  have k4 := F.called_set.canCreate
  have k5 := F.typeCall_set_1 (.ref l)
  refine wpAny_call (codeAny_of_tree (show wpAny _ _ (callAny (.type "set") _) _ _ _ from ?_))
  refine wpAny_pure ⟨Code.quiet_builtin _ (by decide +kernel), codeAny_builtin F.entry_type_call ?_⟩
  rw [Around.under_plain (weight_type_call_type "set" [.ref l] []) rfl]
  repeat (any_goals (first | assumption | wp_step))
  refine codeAny_mono (code_set_led1 (.ref l) (E := E) (Q₁ := fun u t => u = .ref s.heap.objs.size ∧ t = { s with heap := s.heap.push (bareSet w) }) ⟨rfl, rfl⟩) fun r t hr => ?_
  match r, hr with
  | .error _, hr => exact hr
  | .ok .next, hr => exact hr.elim
  | .ok .brk, hr => exact hr.elim
  | .ok .cont, hr => exact hr.elim
  | .ok (.ret u), hr =>
    obtain ⟨eu, et⟩ := hr
    subst eu et
    have at0 : (s.heap.push (bareSet w)).get? s.heap.objs.size = some (bareSet w) := Heap.get?_push_size _ rfl
    have ty0 : Shared.TypeIs { s with heap := s.heap.push (bareSet w) } (.ref s.heap.objs.size) "set" := ⟨_, at0, rfl⟩
    have j1 := F.called_set.init.lookup
    have j2 := F.called_set.init.bind (.ref s.heap.objs.size)
    repeat (any_goals (first | assumption | wp_step))
    refine codeAny_mono (codeAny_call_builtin (R := wants (fun u t => u = .none ∧ Filled w s ns t) E) F.called_set.init.plain F.entry_set_init (check_set_init_1 ty0 ?_)) fun r t hr => ?_
    · obtain ⟨⟨lc, ldict, ldata, lsl⟩, lo, le, ln, ld⟩ := hl
      simp only at le ld
      subst le ld
      have lo1 : (s.heap.push (bareSet w)).get? l = some { cls := .type "list", dict := ldict, data := .seq items ln, slots := lsl } := Heap.get?_push_of_some _ lo
      have noset := F.sub_list_set
      have nofroz := F.sub_list_frozenset
      have nodict : (Value.type "list" == Value.type "dict") = false := by decide
      have isl : (s.heap.push (bareSet w)).IsList l items := ⟨_, lo1, rfl, ln, rfl⟩
      unfold Builtin.«set.__init__» noKeywords Builtin.Frozenset.updateFrom
      generalize hit : pyIter = it
      wp_walk
      subst hit
      refine wpAny_pyIter_list isl (wpAny_bind (wpAny_runValue ?_))
      have lt : l < s.heap.objs.size := Heap.lt_size lo
      have size1 : (s.heap.push (bareSet w)).objs.size = s.heap.objs.size + 1 := Heap.size_push ..
      have ne1 : l ≠ (s.heap.push (bareSet w)).objs.size := by
        rw [size1]; exact Nat.ne_of_lt (Nat.lt_succ_of_lt lt)
      have out : s.heap.objs.size ∉ [(s.heap.push (bareSet w)).objs.size, l] := by
        rw [size1]
        intro z
        rcases List.mem_cons.mp z with z | z
        · exact Nat.ne_of_lt (Nat.lt_succ_self _) z
        · exact Nat.ne_of_gt lt (List.mem_singleton.mp z)
      have hd3 : A.in1.in1.in1.handled = none := by simp [hh]
      refine set_update_ints ((Walks.list hd3 _ l ne1 items).toS) s.heap.objs.size out ns size hb (fun i v hv => ?_) (items.size - 0) 0 _ (by omega) (Nat.zero_le _) ⟨⟨_, Heap.get?_push_size _ rfl, rfl, rfl⟩, isl.push _⟩ ?_ fun t c hm hc hS => ?_
      · have hlt : i < ns.length := by rw [← size]; exact (Array.getElem?_eq_some_iff.mp hv).1
        obtain ⟨tk, ev⟩ := PyProof.Rows.IntsAre.int_at hi i v (by rw [Array.getElem?_toList]; exact hv)
        refine ⟨ns[i], tk, List.getElem?_eq_getElem hlt, ?_⟩
        rw [ev, List.getD_eq_getElem?_getD, List.getElem?_eq_getElem hlt] <;> rfl
      · exact ⟨0, Nat.le_refl 0, bare_is (show ((s.heap.push (bareSet w)).push (lstIt l)).get? s.heap.objs.size = some (bareSet w) from Heap.get?_push_of_some _ at0)⟩
      · obtain ⟨h', g2, d', tk', os'⟩ := t
        have e1 : g2 = s.gens := hm.gens
        have e2 : d' = s.drawn := hm.drawn
        have e3 : os' = s.os := hm.os
        subst e1 e2 e3
        show wpAny _ _ _ _ _ _
        refine wpAny_pure ?_
        show wpAny _ _ (ret Value.none) _ _ _
        refine wpAny_pure ⟨rfl, h', tk', c, rfl, hS, by rw [← size]; exact hc, fun b o e => ?_⟩
        have blt : b < s.heap.objs.size := Heap.lt_size e
        refine hm.heap b o (fun z => ?_) (Heap.get?_push_of_some _ (Heap.get?_push_of_some _ e))
        rcases List.mem_cons.mp z with z | z
        · exact Nat.ne_of_lt blt z
        · have z := List.mem_singleton.mp z
          rw [size1] at z
          exact Nat.ne_of_lt (Nat.lt_succ_of_lt blt) z
    · match r, hr with
      | .error _, hr => exact hr
      | .ok .next, hr => exact hr.elim
      | .ok .brk, hr => exact hr.elim
      | .ok .cont, hr => exact hr.elim
      | .ok (.ret u), hr =>
        obtain ⟨eu, h', tk, c, et, hS, hc, hk⟩ := hr
        subst eu et
        repeat (any_goals (first | assumption | wp_step))
        exact q _ ⟨h', tk, c, rfl, hS, hc, hk⟩
end

section
variable {X : Cx}
/-- set(xs), xs a list or a tuple of ints -/
def rSetI (K : PySem.W.Frag) (w : World) : List V → Hp → VK → Prop := fun vs H Q => ∃ (a : Addr) (ns : List Int), vs = [V.ref a] ∧ (SqL K H a (ns.map V.int) ∨ SqT K H a (ns.map V.int)) ∧ ns.length < 64 ∧
  ∀ (p : Addr) (c : Nat), H p = none → c ≤ ns.length → Q (.ref p) (upd H p (SetO w p (fun j => decide (j ∈ ns)) c))
theorem cr_setI (hc : X.calm = true) : CallR X (.type "set") (rSetI X.K X.w) := by
  intro pins s σ H vs us Q I r h
  obtain ⟨a, ns, rfl, hx, hz, q⟩ := h
  rw [Vals.ref1 r]
  have hb : ns.length + 1 < scanBound := by unfold scanBound; omega
  have fin : ∀ s2, Filled X.w s ns s2 → EP X pins σ Q (.ref s.heap.objs.size) s2 := fun s2 ⟨h', tk, c, e, hS, hc, hk⟩ => by
    subst e
    have hn : H s.heap.objs.size = none := I.hok.fresh (Nat.le_refl _)
    exact ⟨.ref s.heap.objs.size, _, I.laid (t' := tk) (o := SetO X.w s.heap.objs.size (fun j => decide (j ∈ ns)) c) hk (Nat.le_refl _) (setO_new hS), rfl, q _ c hn hc⟩
  rcases hx with hx | hx
  · obtain ⟨its, rv, pl, hl⟩ := I.list hx
    exact set_of_list ns (I.ok.hd hc) pl.isList (by simpa using rv.ints) hb fin
  · obtain ⟨its, rv, pt, hl⟩ := I.tuple hx
    exact call_set_tupI ns (I.ok.hd hc) pt (by simpa using rv.ints) hb fun h' tk c a b k => fin _ ⟨h', tk, c, rfl, a, b, k⟩
end
end Lr
end

section
set_option Elab.async false
set_option linter.all false
set_option maxRecDepth 100000
set_option maxHeartbeats 4000000
/-! Rules of my own: the display {**d, k: v}. -/
namespace Lr
open PySem PySem.Spec PyProof.Rows L2
theorem disp2 (m k v : Sem Value) : ∃ (f1 f2 : Addr → Value → Value → Sem Unit) (f3 f4 : Addr → Value → Sem Unit), dictDisplay [(none, m), (some k, v)] = (do
    let d ← alloc { cls := .type "dict", data := .dict #[] }
    let mv ← holding [.ref d] m
    (((holding [.ref d, mv] (mergeMapping d mv false)).onRaise (f1 d mv)).tryCatch (f2 d mv)).onRaise (f3 d)
    let sub ← holding [.ref d] (subDict [(k, v)])
    (holding [.ref d, .ref sub] (mergeMapping d (.ref sub) false)).onRaise (f4 d)
    pure (.ref d)) := by
  repeat apply Exists.intro
  unfold dictDisplay
  simp only [List.forIn_cons, List.forIn_nil]
  simp
  rfl
section
variable {prog : Program} {w : World} {A : Around} {E : Value → Shared → Prop} {s : Shared}
theorem put_pairs {K : Type} [DecidableEq K] {knd : KeyKind prog w K} {d : Addr} {kvs : List (K × Value)} {k : K} {key v : Value} {Q : Unit → Shared → Prop} (hkey : knd.is k key = true) (hm : s.heap.DictOf knd d kvs) (hz : kvs.length ≤ 1000)
    (q : ∀ h', h'.DictOf knd d (stored kvs k v) → Heap.SameBut d s.heap h' → Q () { s with heap := h' }) :
    wpAny (model prog w) A (dictPut d (knd.hash k) key v) Q E s := by
  obtain ⟨o, es, ep, ho, hc, hd, hk, hp, hn⟩ := hm
  have hes : es.size ≤ sizeLine := by
    have e1 := hp.length
    have e2 : es.toList.length = es.size := by simp
    exact Nat.le_trans (show es.size ≤ 1000 by omega) (by decide)
  have hix : (es.findIdx? fun e => knd.is k e.key) = kvs.findIdx? fun kv => decide (kv.1 = k) := by
    rw [← hp.findIdx k]
    obtain ⟨l⟩ := es
    simp
  unfold dictPut
  refine wpAny_bind (wpAny_dictFind_of hkey ho hd hk ?_)
  cases hi : es.findIdx? fun e => knd.is k e.key with
  | some i =>
    have yes := any_of_findIdx_some (hix ▸ hi)
    have hl : (es.toList.findIdx? fun e => knd.is k e.key) = some i := by
      rw [← hi]
      obtain ⟨l⟩ := es
      simp
    refine wpAny_updateDict ho hd (q _ ⟨_, _, ep, Heap.get?_update_self _ ho (Obj.isFreed_of_dict (Obj.data_mapDict hd _)), hc.mapDict _, Obj.data_mapDict hd _, hk.modify _ _, ?_, ?_⟩ (Heap.SameBut.update ..))
    · rw [stored, if_pos yes]
      have z := hp.modify hn hl v
      obtain ⟨l⟩ := es
      simpa using z
    · rw [stored, if_pos yes, keys_map_store]
      exact hn
  | none =>
    have hnot : k ∉ kvs.map (·.1) := not_mem_of_findIdx_none (hix ▸ hi)
    have hany : ¬ (kvs.any fun kv => decide (kv.1 = k)) = true := fun z => by
      obtain ⟨kv, hkv, he⟩ := List.any_eq_true.mp z
      exact hnot (List.mem_map.mpr ⟨kv, hkv, of_decide_eq_true he⟩)
    refine wpAny_updateDictKeys (hz := hes) ho hd (q _ ⟨_, _, ep + 1, Heap.get?_update_self _ ho (Obj.isFreed_of_dict (Obj.data_mapDictKeys hd _)), hc.mapDictKeys _, Obj.data_mapDictKeys hd _, hk.push hkey _, ?_, ?_⟩ (Heap.SameBut.update ..))
    · rw [stored, if_neg hany]
      have z := hp.append hkey (knd.hash k) v
      obtain ⟨l⟩ := es
      simpa using z
    · rw [stored, if_neg hany, List.map_append, List.nodup_append]
      refine ⟨hn, by simp, fun x hx y hy e => hnot ?_⟩
      have : y = k := by simpa using hy
      rw [← this, ← e]
      exact hx
theorem both_ways {α : Type} {c : Prop} [Decidable c] {x y : Sem α} {Q : α → Shared → Prop} (h2 : wpAny (model prog w) A y Q E s) (h1 : wpAny (model prog w) A y Q E s → wpAny (model prog w) A x Q E s) :
    wpAny (model prog w) A (if c then x else y) Q E s := by
  split
  · exact h1 h2
  · exact h2
theorem merge_ok {d o : Addr} {kvs more : List (Key × Value)} {Q : Unit → Shared → Prop} (ne : d ≠ o) (hs : (o == sysModules) = false)
    (hd : s.heap.DictOf (mixKind prog w) d kvs) (ho : s.heap.DictOf (mixKind prog w) o more) (hz : kvs.length + more.length ≤ 1000)
    (q : ∀ h', h'.DictOf (mixKind prog w) d (merged kvs more) → Heap.SameBut d s.heap h' → Q () { s with heap := h' }) :
    wpAny (model prog w) A (mergeMapping d (.ref o) false) Q E s := by
  obtain ⟨od, esd, epd, hod, hcd, hdd, hkd, hpd, hnd⟩ := id hd
  obtain ⟨oo, eso, epo, hoo, hco, hdo, hko, hpo, hno⟩ := id ho
  have hlen : more.length = eso.size := by rw [← hpo.length]; simp
  unfold mergeMapping
  refine wpAny_bind (wpAny_isInstance ho.typeIs isSubtype_dict_dict ?_)
  rw [if_pos rfl]
  refine wpAny_bind (wpAny_specialOf ho.typeIs F.slot_dict_iter.lookup (wpAny_bind (wpAny_pure ?_)))
  simp only [beq_self_eq_true]
  rw [if_neg (by rw [hs]; exact Bool.false_ne_true)]
  refine wpAny_bind (wpAny_dictEntries hod hdd (both_ways ?_ fun go => ?_))
  · refine wpAny_bind (wpAny_dictEntries hoo hdo ?_)
    refine wpAny_bind (wpAny_dictEpoch hoo hdo ?_)
    refine wpAny_bind ?_
    refine wpAny_forIn_list _
      (fun rest _ s' => ∃ h' i, s' = { s with heap := h' } ∧ rest = (List.range eso.size).drop i ∧ i ≤ eso.size ∧ h'.DictOf (mixKind prog w) d (merged kvs (more.take i)) ∧ h'.get? o = some oo ∧ Heap.SameBut d s.heap h')
      _ ?_ ?_ _ _ ⟨s.heap, 0, rfl, by simp, Nat.zero_le _, by simpa [merged] using hd, hoo, Heap.SameBut.refl _ _⟩
    · rintro x rest b s' ⟨h', i, rfl, hr, hi, hd', hoo', hs'⟩
      have hlt : i < eso.size := by
        rcases Nat.lt_or_ge i eso.size with z | z
        · exact z
        · rw [List.drop_eq_nil_of_le (by simpa using z)] at hr
          cases hr
      rw [List.drop_eq_getElem_cons (by simpa using hlt)] at hr
      injection hr with hx hrest
      have ex : x = i := by simpa using hx
      subst ex
      refine wpAny_bind (wpAny_dictEntries hoo' hdo ?_)
      rw [Array.getElem?_eq_getElem hlt]
      have hlm : x < more.length := by rw [hlen]; exact hlt
      have hkv : more[x]? = some more[x] := List.getElem?_eq_getElem hlm
      obtain ⟨hkey, hval⟩ := hpo.get? (e := eso[x]) (by simp [hlt]) hkv
      obtain ⟨k', hkey', hhash⟩ := hko eso[x] (Array.getElem_mem hlt)
      have ek : k' = more[x].1 := (mixKind prog w).inj _ _ _ hkey' hkey
      subst ek
      show wpAny _ _ (holding [eso[x].key, eso[x].val] _ >>= _) _ _ _
      refine wpAny_bind (wpAny_holding ?_)
      rw [if_neg Bool.false_ne_true, hhash, hval]
      have hmx : (merged kvs (more.take x)).length ≤ 1000 := by
        have e1 := merged_length_le kvs (more.take x)
        have e2 : (more.take x).length ≤ more.length := by rw [List.length_take]; omega
        omega
      refine put_pairs (s := { s with heap := h' }) hkey hd' hmx fun h2 hd2 hs2 => ?_
      have hoo2 : h2.get? o = some oo := (hs2.2 o (Ne.symm ne)).trans hoo'
      refine wpAny_bind (wpAny_dictEpoch hoo2 hdo ?_)
      rw [if_neg (by simp)]
      exact wpAny_pure ⟨h2, x + 1, rfl, hrest, hlt, by rw [merged_take_succ kvs more x more[x] hkv]; exact hd2, hoo2, hs'.trans hs2⟩
    · rintro b s' ⟨h', i, rfl, hr, hi, hd', hoo', hs'⟩
      have hin : i = eso.size := by
        rcases Nat.lt_or_ge i eso.size with z | z
        · rw [List.drop_eq_getElem_cons (by simpa using z)] at hr
          cases hr
        · exact Nat.le_antisymm hi z
      rw [hin, ← hlen, List.take_length] at hd'
      exact wpAny_pure (q h' hd' hs')
  · refine wpAny_bind (wpAny_dictEntries hoo hdo (wpAny_bind ?_))
    rw [← Array.forIn_toList]
    refine wpAny_forIn_list _ (fun rest _ s' => s' = s ∧ ∀ e ∈ rest, e ∈ eso.toList) _ ?_ ?_ _ _ ⟨rfl, fun _ h => h⟩
    · rintro x rest b s' ⟨es, hm⟩
      subst es
      obtain ⟨k', hkey', _⟩ := hko x (Array.mem_def.mpr (hm x List.mem_cons_self))
      rcases keyIs_shape hkey' with ⟨i, t, _, e⟩ | ⟨y, t, _, e⟩
      · rw [e]
        exact wpAny_pure ⟨rfl, fun e he => hm e (List.mem_cons_of_mem _ he)⟩
      · rw [e]
        exact wpAny_pure ⟨rfl, fun e he => hm e (List.mem_cons_of_mem _ he)⟩
    · rintro b s' ⟨es, _⟩
      subst es
      exact go
end

theorem upd_turn {H : Hp} {d q : Addr} {A B C : HO} (ne : d ≠ q) : upd (upd (upd H d A) q B) d C = upd (upd H d C) q B := by
  funext b
  unfold upd
  by_cases h1 : b = d
  · subst h1
    simp [ne]
  · simp [h1]
section
variable {X : Cx}
/-- {**d, k: v}: three names -/
def tStar (i j l : Nat) : TE := fun σ H Q => ∃ (a : Addr) (kvs : List (Key × V)) (k : Int) (y : V), σ[i]? = some (some (V.ref a)) ∧ H a = some (.dK kvs) ∧ σ[j]? = some (some (V.int k)) ∧ σ[l]? = some (some y) ∧ kvs.length < 900 ∧
  ∀ p q, H p = none → H q = none → p ≠ q → Q (.ref p) (upd (upd H p (.dK (putK kvs (.inl k) y))) q (.dK [(.inl k, y)]))
theorem pe_star {em ek ev : Expr} {i j l : Nat} {pos : Pos} (hm : PE X em (tVar i)) (hk : PE X ek (tVar j)) (hv : PE X ev (tVar l)) : PE X (.Dict [none, some ek] [em, ev] pos) (tStar i j l) := by
  refine ⟨fun pins s σ H Q I h => ?_⟩
  obtain ⟨a, kvs, k, y, hi, ha, hj, hl, hz, q⟩ := h
  obtain ⟨f1, f2, f3, f4, eq⟩ := disp2 (do let x ← eval em X.env; standAt pos; pure x) (eval ek X.env) (do let x ← eval ev X.env; standAt pos; pure x)
  rw [arm_eval_Dict]
  show wpAny _ _ (do standAt pos; dictDisplay [(none, do let x ← eval em X.env; standAt pos; pure x), (some (eval ek X.env), do let x ← eval ev X.env; standAt pos; pure x)]) _ _ _
  rw [eq]
  have hn := I.hok.fresh (Nat.le_refl s.heap.objs.size)
  have I1 := I.laid (a := s.heap.objs.size) (o := .dK []) (h' := s.heap.push { cls := .type "dict", data := .dict #[] }) (t' := s.toks) (fun _ _ z => Heap.get?_push_of_some _ z) (Nat.le_refl _) (dk_empty s.heap I.big)
  generalize hd : s.heap.objs.size = d at hn I1
  have nea : a ≠ d := ne_of_none ha hn
  refine wpAny_bind (wpAny_standAt (wpAny_bind (wpAny_alloc ?_)))
  rw [hd]
  refine wpAny_bind (wpAny_holding (wpAny_bind (thn (hm.run pins _ σ _ (fun v H' => v = .ref a ∧ H' = upd H d (.dK [])) I1 ⟨.ref a, hi, rfl, rfl⟩) fun u s2 hs2 => ?_)))
  obtain ⟨x2, H2, I2, rx, rfl, rfl⟩ := hs2
  obtain rfl : u = Value.ref a := rx
  refine wpAny_bind (wpAny_standAt (wpAny_pure ?_))
  obtain ⟨_, sysA, vs, rvs, dA⟩ := dk_of I2.hok (show (upd H d (.dK [])) a = some (.dK kvs) by rw [upd_ne nea]; exact ha)
  obtain ⟨_, sysD, vs0, r0, dD⟩ := dk_of I2.hok (show (upd H d (.dK [])) d = some (.dK []) from upd_same)
  cases r0
  have lvs : vs.length = kvs.length := rvs.length.symm
  have nodA : (vs.map (·.1)).Nodup := by
    obtain ⟨_, _, _, _, _, _, _, _, hn⟩ := dA
    exact hn
  refine wpAny_bind (wpAny_onRaise (wpAny_tryCatch (wpAny_onRaise (wpAny_holding (merge_ok (Ne.symm nea) sysA dD dA (by simp; omega) fun h3 dd3 hs3 => ?_)))))
  rw [merged_nil_of_nodup vs nodA] at dd3
  have I3 : Inv X pins σ (upd H d (.dK kvs)) { s2 with heap := h3 } := by
    have z := I2.write (x := d) (e := d) (o := .dK kvs) (t' := s2.toks) (by rw [upd_same]; trivial) (.inl rfl) (fun b u hb hu => (hs3.2 b hb).trans hu) (by obtain ⟨o, _, _, e, _⟩ := dd3; exact ⟨o, e⟩)
      (dk_new (Nat.le_trans (Nat.le_of_lt hz) (by decide)) sysD rvs dd3)
    rw [upd_upd] at z
    exact z
  have hnq : (upd H d (.dK kvs)) h3.objs.size = none := I3.hok.fresh (Nat.le_refl _)
  have I4 := I3.laid (a := h3.objs.size) (o := .dK []) (h' := h3.push { cls := .type "dict", data := .dict #[] }) (t' := s2.toks) (fun _ _ z => Heap.get?_push_of_some _ z) (Nat.le_refl _) (dk_empty h3 I3.big)
  have neq : d ≠ h3.objs.size := fun z => by rw [← z, upd_same] at hnq; cases hnq
  have hq : H h3.objs.size = none := by rw [upd_ne (Ne.symm neq)] at hnq; exact hnq
  refine wpAny_bind (wpAny_holding (wpAny_subDict (knd := mixKind X.prog X.w) (by show 1 ≤ 15; omega) ?_))
  refine wpAny_bind (thn (hk.run pins _ σ _ (fun v H' => v = .int k ∧ H' = upd (upd H d (.dK kvs)) h3.objs.size (.dK [])) I4 ⟨.int k, hj, rfl, rfl⟩) fun u5 s5 hs5 => ?_)
  obtain ⟨x5, H5, I5, r5, rfl, rfl⟩ := hs5
  refine wpAny_bind (wpAny_holding (wpAny_bind (thn (hv.run pins _ σ _ (fun v H' => v = y ∧ H' = upd (upd H d (.dK kvs)) h3.objs.size (.dK [])) I5 ⟨y, hl, rfl, rfl⟩) fun u6 s6 hs6 => ?_)))
  obtain ⟨x6, H6, I6, r6, e6, rfl⟩ := hs6
  subst e6
  refine wpAny_bind (wpAny_standAt (wpAny_pure ?_))
  refine wpAny_bind (wpAny_holding (wpAny_pure (wpAny_pure ?_)))
  generalize hqe : h3.objs.size = b at hnq I4 neq hq I5 I6
  obtain ⟨t5, rfl⟩ := r5
  obtain ⟨_, sysB, vs1, r1, dB⟩ := dk_of I6.hok (show (upd (upd H d (.dK kvs)) b (.dK [])) b = some (.dK []) from upd_same)
  cases r1
  refine ⟨[(.inl k, u6)], ⟨mixKind_int _ _ k t5, rfl, trivial⟩, dB, fun h7 dd7 hs7 => ?_⟩
  have mone : merged ([] : List (Key × Value)) [(Sum.inl k, u6)] = [(Sum.inl k, u6)] := rfl
  rw [mone] at dd7
  have kv1 : KV [((Sum.inl k : Key), x6)] [((Sum.inl k : Key), u6)] := .cons ⟨rfl, r6⟩ .nil
  have I7 : ∀ tk, Inv X pins σ (upd (upd H d (.dK kvs)) b (.dK [(.inl k, x6)])) { s6 with heap := h7, toks := tk } := fun tk => by
    have z := I6.write (x := b) (e := b) (o := .dK [(.inl k, x6)]) (t' := tk) (by rw [upd_same]; trivial) (.inl rfl) (fun c u hb hu => (hs7.2 c hb).trans hu) (by obtain ⟨o, _, _, e, _⟩ := dd7; exact ⟨o, e⟩)
      (dk_new (by show 1 ≤ sizeLine; decide) sysB kv1 dd7)
    rw [upd_upd] at z
    exact z
  have I7' := I7 (s6.toks + 1)
  obtain ⟨_, sysD2, vs2, rv2, dD2⟩ := dk_of I7'.hok (show (upd (upd H d (.dK kvs)) b (.dK [(.inl k, x6)])) d = some (.dK kvs) by rw [upd_ne neq, upd_same])
  have lv2 := rv2.length
  refine wpAny_bind (wpAny_onRaise (wpAny_holding (merge_ok neq sysB dD2 dd7 (by simp; omega) fun h8 dd8 hs8 => wpAny_pure ?_)))
  have kput : KV (putK kvs (.inl k) x6) (merged vs2 [(Sum.inl k, u6)]) := rv2.put (.inl k) r6
  have I8 := I7'.write (x := d) (e := d) (o := .dK (putK kvs (.inl k) x6)) (t' := s6.toks + 1) (by rw [upd_ne neq, upd_same]; trivial) (.inl rfl) (fun c u hb hu => (hs8.2 c hb).trans hu) (by obtain ⟨o, _, _, e, _⟩ := dd8; exact ⟨o, e⟩)
    (dk_new (by
      rw [kput.length]
      have z := merged_length_le vs2 [(Sum.inl k, u6)]
      simp only [List.length_cons, List.length_nil] at z
      exact Nat.le_trans (show _ ≤ 1000 by omega) (by decide)) sysD2 kput dd8)
  rw [upd_turn neq] at I8
  exact ⟨.ref d, _, I8, rfl, q d b hn hq neq⟩
end
end Lr
end

section
set_option Elab.async false
set_option linter.all false
set_option maxRecDepth 100000
set_option maxHeartbeats 4000000
/-! Rules of my own: a dict whose keys are hands (tuples of tuples of ints), its values True. -/
namespace Lr
open PySem PySem.Spec PyProof.Rows L2

def encH (h : List Int) : PyData := .tuple (h.map .int)
def encE (e : List (List Int)) : PyData := .tuple (e.map encH)
def nkH (h : List Int) : NestedKey := .tup (h.map .num)
def nkE (e : List (List Int)) : NestedKey := .tup (e.map nkH)
theorem map_inj {α β : Type} {f : α → β} (hf : ∀ a b, f a = f b → a = b) : ∀ {l m : List α}, l.map f = m.map f → l = m
  | [], [], _ => rfl
  | [], _ :: _, h => by simp at h
  | _ :: _, [], h => by simp at h
  | a :: l, b :: m, h => by
    injection h with h1 h2
    rw [hf a b h1, map_inj hf h2]
theorem nkH_inj (a b : List Int) (h : nkH a = nkH b) : a = b := by
  injection h with h
  exact map_inj (fun x y e => by injection e) h
theorem nkE_inj (a b : List (List Int)) (h : nkE a = nkE b) : a = b := by
  injection h with h
  exact map_inj nkH_inj h
theorem nums_depth : ∀ l : List Int, NestedKey.depthAll (l.map .num) = 0
  | [] => rfl
  | x :: l => by
    show max (NestedKey.depth (.num x)) (NestedKey.depthAll (l.map .num)) = 0
    rw [nums_depth l]
    rfl
theorem nkH_depth (h : List Int) : (nkH h).depth = 1 := by
  show NestedKey.depthAll (h.map .num) + 1 = 1
  rw [nums_depth]
theorem nkHs_depth : ∀ e : List (List Int), NestedKey.depthAll (e.map nkH) ≤ 1
  | [] => Nat.zero_le _
  | h :: e => by
    show max (nkH h).depth (NestedKey.depthAll (e.map nkH)) ≤ 1
    rw [nkH_depth]
    have := nkHs_depth e
    omega
theorem nkE_depth (e : List (List Int)) : (nkE e).depth ≤ 8 := by
  show NestedKey.depthAll (e.map nkH) + 1 ≤ 8
  have := nkHs_depth e
  omega

section
variable {h : Heap}
theorem nested_ints : ∀ {l : List Int} {vs : List Value} {as : List Addr}, ReadsAll h vs (l.map .int) as → NestedAll h (l.map .num) vs
  | [], _, _, r => by cases r; exact .nil
  | x :: l, _, _, r => by
    cases r with
    | cons a b =>
      cases a
      exact .cons (.int _ _) (nested_ints b)
theorem nested_hand {x : List Int} {v : Value} {as : List Addr} (r : Reads h v (encH x) as) : NestedIs h (nkH x) v := by
  cases r with
  | tuple a b c d => exact .tup a b c (nested_ints d)
theorem nested_hands : ∀ {l : List (List Int)} {vs : List Value} {as : List Addr}, ReadsAll h vs (l.map encH) as → NestedAll h (l.map nkH) vs
  | [], _, _, r => by cases r; exact .nil
  | x :: l, _, _, r => by
    cases r with
    | cons a b => exact .cons (nested_hand a) (nested_hands b)
theorem nested_end {x : List (List Int)} {v : Value} {as : List Addr} (r : Reads h v (encE x) as) : NestedIs h (nkE x) v := by
  cases r with
  | tuple a b c d => exact .tup a b c (nested_hands d)
end

/-- the entries, as the library tells them -/
def rows (xs : List (List (List Int) × Addr)) : List (NestedKey × Addr × Value) := xs.map fun p => (nkE p.1, p.2, Value.bool true)
/-- the dict of ends at a -/
def KeyO (P : Program) (w : World) (a : Addr) (xs : List (List (List Int) × Addr)) : HO := .ext fun h =>
  (a == sysModules) = false ∧ ∃ o es ep, h.get? a = some o ∧ o.ExactDict ∧ o.data = .dict es ep ∧ es.toList = (rows xs).map (entryOfKey (nestedKind P w)) ∧ ((rows xs).map (·.1)).Nodup
theorem keyO_new {P : Program} {w : World} {H : Hp} {h : Heap} {a : Addr} {xs : List (List (List Int) × Addr)} (Z : (a == sysModules) = false) (R : ∃ o es ep, h.get? a = some o ∧ o.ExactDict ∧ o.data = .dict es ep ∧ es.toList = (rows xs).map (entryOfKey (nestedKind P w)) ∧ ((rows xs).map (·.1)).Nodup) :
    ObjOk P w H h a (KeyO P w a xs) := by
  refine ⟨⟨Z, R⟩, ?_, ?_⟩
  · obtain ⟨o, _, _, e, _⟩ := R
    exact ⟨o, e⟩
  · rintro h1 h2 ⟨z, o, es, ep, e, r⟩ k
    exact ⟨z, o, es, ep, k o e, r⟩
def putE (xs : List (List (List Int) × Addr)) (e : List (List Int)) (t : Addr) : List (List (List Int) × Addr) := if (xs.map (·.1)).contains e then xs else xs ++ [(e, t)]
theorem rows_put (xs : List (List (List Int) × Addr)) (e : List (List Int)) (t : Addr) : storedH (rows xs) (nkE e) t (Value.bool true) = rows (putE xs e t) := by
  have key : (atKey (rows xs) (nkE e)).isSome = (xs.map (·.1)).contains e := by
    induction xs with
    | nil => rfl
    | cons p r ih =>
      have e1 : rows (p :: r) = (nkE p.1, p.2, Value.bool true) :: rows r := rfl
      rw [e1, List.map_cons, List.contains_cons]
      by_cases h : p.1 = e
      · have h1 : atKey ((nkE p.1, p.2, Value.bool true) :: rows r) (nkE e) = some (p.2, Value.bool true) := by simp [atKey, h]
        rw [h1, h]
        simp
      · have h1 : atKey ((nkE p.1, p.2, Value.bool true) :: rows r) (nkE e) = atKey (rows r) (nkE e) := by
          have h2 : nkE p.1 ≠ nkE e := fun z => h (nkE_inj _ _ z)
          simp [atKey, h2]
        rw [h1, ih]
        have h3 : (e == p.1) = false := beq_eq_false_iff_ne.mpr fun z => h z.symm
        rw [h3, Bool.false_or]
  unfold storedH putE
  rw [key]
  split
  · unfold rows
    rw [List.map_map]
    refine List.map_congr_left fun p _ => ?_
    show putAt (nkE e) (Value.bool true) (nkE p.1, p.2, Value.bool true) = _
    unfold putAt
    split <;> rfl
  · unfold rows
    rw [List.map_append]
    rfl

section
variable {X : Cx} {pos : Pos}
/-- {} -/
def tKeyNew (P : Program) (w : World) : TE := fun _ H Q => ∀ p, H p = none → Q (.ref p) (upd H p (KeyO P w p []))
theorem pe_keyNew : PE X (.Dict [] [] pos) (tKeyNew X.prog X.w) := by
  refine ⟨fun pins s σ H Q I h => ?_⟩
  have hn := I.hok.fresh (Nat.le_refl s.heap.objs.size)
  refine wpAny_Dict_empty ⟨.ref s.heap.objs.size, _, I.laid (a := s.heap.objs.size) (o := KeyO X.prog X.w s.heap.objs.size []) (t' := s.toks) (fun _ _ q => Heap.get?_push_of_some _ q) (Nat.le_refl _) (keyO_new (beq_eq_false_iff_ne.mpr (Ne.symm (Nat.ne_of_lt I.big))) ?_), rfl, h _ hn⟩
  obtain ⟨o, es, ep, e, c, d, r, _, n⟩ := Heap.DictOfH.new (knd := nestedKind X.prog X.w) s.heap
  exact ⟨o, es, ep, e, c, d, r, n⟩

/-- d[e] = True -/
def rKeyPut (K : PySem.W.Frag) (P : Program) (w : World) : TSet := fun o i v H Q => ∃ (d t : Addr) (e : List (List Int)) (xs : List (List (List Int) × Addr)), o = V.ref d ∧ i = V.ref t ∧ v = V.bl true ∧ H d = some (KeyO P w d xs) ∧
  (∀ p ∈ xs, Dp K H (.ref p.2) (encE p.1)) ∧ Dp K H (.ref t) (encE e) ∧ xs.length ≤ 1000 ∧ Q (upd H d (KeyO P w d (putE xs e t)))
theorem set_key (hu : X.A.units + 64 < cLine) : PSet X (rKeyPut X.K X.prog X.w) := by
  intro pins s σ H o i v ov iv u Q I ro ri rv h
  obtain ⟨d, t, e, xs, rfl, rfl, rfl, hd, hx, he, hz, q⟩ := h
  cases ro
  cases ri
  cases rv
  obtain ⟨g0, ob, es, ep, g1, g2, g3, g4, g5⟩ := (I.hok d _ hd).1
  obtain ⟨as, re⟩ := Dp.reads I (encE e) (.ref t) (.ref t) he rfl
  have dk : s.heap.DictKeyed (nestedKind X.prog X.w) d (pairsH (rows xs)) := by
    refine ⟨rows xs, ⟨ob, es, ep, g1, g2, g3, g4, fun y hy => ?_, g5⟩, rfl⟩
    obtain ⟨p, hp, rfl⟩ := List.mem_map.mp hy
    obtain ⟨bs, rb⟩ := Dp.reads I (encE p.1) (.ref p.2) (.ref p.2) (hx p hp) rfl
    exact ⟨nested_end rb, nkE_depth p.1⟩
  obtain ⟨ys, hy, ey⟩ := id dk
  have hk : (nestedKind X.prog X.w).is s.heap (nkE e) t := ⟨nested_end re, nkE_depth e⟩
  have room : (nestedKind X.prog X.w).room X.A.in1 := by
    show X.A.units + 1 + 8 < cLine
    omega
  have hrows : s.heap.DictOfH (nestedKind X.prog X.w) d (rows xs) := by
    refine ⟨ob, es, ep, g1, g2, g3, g4, fun y hy => ?_, g5⟩
    obtain ⟨p, hp, rfl⟩ := List.mem_map.mp hy
    obtain ⟨bs, rb⟩ := Dp.reads I (encE p.1) (.ref p.2) (.ref p.2) (hx p hp) rfl
    exact ⟨nested_end rb, nkE_depth p.1⟩
  have hsz : (rows xs).length ≤ sizeLine := by
    unfold rows
    rw [List.length_map]
    exact Evl.sz_of (Nat.le_trans hz (by decide))
  refine wpAny_setItem_heap (hsz := hsz) room hk hrows fun h' hm' hs => ?_
  rw [rows_put] at hm'
  obtain ⟨o2, es2, ep2, k1, k2, k3, k4, _, k6⟩ := hm'
  refine ⟨upd H d (KeyO X.prog X.w d (putE xs e t)), I.write (x := d) (e := d) (o := KeyO X.prog X.w d (putE xs e t)) (by rw [hd]; trivial) (.inl rfl) (fun b u hb z => (hs.2 b hb).trans z) ⟨o2, k1⟩ (keyO_new g0 ⟨o2, es2, ep2, k1, k2, k3, k4, k6⟩), q⟩
/-- list(d) -/
def rKeyList (P : Program) (w : World) : List V → Hp → VK → Prop := fun vs H Q => ∃ (d : Addr) (xs : List (List (List Int) × Addr)), vs = [V.ref d] ∧ H d = some (KeyO P w d xs) ∧ xs.length ≤ 1000 ∧
  ∀ p, H p = none → Q (.ref p) (upd H p (.lst (xs.map fun x => V.ref x.2)))
theorem cr_keyList (hc : X.calm = true) : CallR X (.type "list") (rKeyList X.prog X.w) := by
  intro pins s σ H vs us Q I r h
  obtain ⟨d, xs, rfl, hd, hz, q⟩ := h
  rw [Vals.ref1 r]
  obtain ⟨g0, ob, es, ep, g1, g2, g3, g4, g5⟩ := (I.hok d _ hd).1
  have raw : s.heap.DictRaw d es ep := ⟨ob, g1, g2, g3⟩
  have sz : es.size = xs.length := by
    have z := congrArg List.length g4
    simpa [rows] using z
  refine PySem.W.kdl_call (KdlSrc.rawDict g0) (I.ok.hd hc) raw (by rw [sz]; exact Evl.sz_of (Nat.le_trans hz (by decide))) fun h' tk acc c hk hl hit => ?_
  have hv : Vals (xs.map fun x => V.ref x.2) acc.toList := by
    have e : acc.toList = xs.map fun x => Value.ref x.2 := by
      apply List.ext_getElem?
      intro i
      by_cases hi : i < xs.length
      · have hi2 : i < acc.size := by rw [hit.1, sz]; exact hi
        obtain ⟨h3, ev⟩ := hit.2 i acc[i] (by simp [hi2])
        have e4 : es[i] = entryOfKey (nestedKind X.prog X.w) (nkE xs[i].1, xs[i].2, Value.bool true) := by
          have z : es.toList[i]? = ((rows xs).map (entryOfKey (nestedKind X.prog X.w)))[i]? := by rw [g4]
          unfold rows at z
          simp [hi, h3] at z
          exact z
        have e5 : acc[i] = Value.ref xs[i].2 := by
          rw [ev, e4]
          rfl
        simp [hi, hi2, e5]
      · have hi2 : ¬ i < acc.size := by rw [hit.1, sz]; exact hi
        simp [hi, hi2]
    rw [e]
    clear e q hd g4 g5 sz hz
    induction xs with
    | nil => exact .nil
    | cons p r ih => exact .cons rfl ih
  have hn : H s.heap.objs.size = none := I.hok.fresh (Nat.le_refl _)
  refine ⟨.ref s.heap.objs.size, _, I.laid (t' := tk) (o := .lst (xs.map fun x => V.ref x.2)) hk (Nat.le_refl _) ⟨?_, acc.toList, c, hv, ?_⟩, rfl, q _ hn⟩
  · rw [List.length_map]
    exact Evl.sz_of (Nat.le_trans hz (by decide))
  · rw [Array.toArray_toList]
    exact hl
end
end Lr
end

section
set_option Elab.async false
set_option linter.all false
set_option maxRecDepth 100000
set_option maxHeartbeats 4000000
/-! Rules of my own: a tuple known to its object (its own dict is none), and its count. -/
namespace Lr
open PySem PySem.Spec PyProof.Rows L2
/-- a tuple whose object is known: it has no dict of its own -/
def Zt (H : Hp) (v : V) : Prop := ∃ (a : Addr) (o : Obj) (xs : List V), v = .ref a ∧ H a = some (.frz o (.tup xs)) ∧ o.dict = none
section
variable {X : Cx}
/-- tuple(xs), the new object known -/
def rTupZ (K : PySem.W.Frag) : List V → Hp → VK → Prop := fun vs H Q => ∃ (p : Addr) (ys : List V), vs = [V.ref p] ∧ SqL K H p ys ∧ ∀ (l : Addr) (o : Obj), H l = none → o.dict = none → Q (.ref l) (upd H l (.frz o (.tup ys)))
theorem cr_tupZ : CallR X (.type "tuple") (rTupZ X.K) := by
  intro pins s σ H vs us Q I r h
  obtain ⟨p, ys, rfl, hq, q⟩ := h
  rw [Vals.ref1 r]
  obtain ⟨its, rv, pl, hz⟩ := I.list hq
  have len := rv.length
  refine call_tuple_list pl.isList (fun h' keep => ?_) (by simp only [List.size_toArray]; omega)
  have I1 : Inv X pins σ H { s with heap := h' } := I.kept (t' := s.toks) keep
  have at1 : (h'.push { cls := .type "tuple", data := .seq its.toArray }).get? h'.objs.size = some { cls := .type "tuple", data := .seq its.toArray } := Heap.get?_push_size _ rfl
  have I2 := I1.laid (a := h'.objs.size) (o := .frz { cls := .type "tuple", data := .seq its.toArray } (.tup ys)) (h' := h'.push { cls := .type "tuple", data := .seq its.toArray }) (t' := s.toks) (fun _ _ e => Heap.get?_push_of_some _ e) (Nat.le_refl _)
    ⟨at1, hz, its, rv, IsTup.new _ _⟩
  exact ⟨.ref h'.objs.size, _, I2, rfl, q _ _ (I1.hok.fresh (Nat.le_refl _)) rfl⟩
/-- t.count(x), t such a tuple -/
def tCountZ (K : PySem.W.Frag) (to : TE) (t : TA) : TE := fun σ H Q => to σ H fun x H1 => Zt H1 x ∧ t σ H1 fun vs H2 => rCountD K x vs H2 Q
theorem pe_countZ {o e : Expr} {es : List Expr} {to : TE} {t : TA} {apos cpos : Pos} (hu : X.A.units + 64 < cLine) (ho : PE X o to) (ha : PA X (e :: es) t)
    (hb : attributeBase o "count" X.env (eval o X.env) = eval o X.env := by rfl)
    (hf : ((backTo cpos (starEach (e :: es) X.env)).all (fun x => !x.1) && (backToKw cpos (keywordEach [] X.env)).all (fun x => x.1.isSome)
      && decide ((e :: es).length + ([] : List Keyword).length + (if ([] : List Keyword).isEmpty then 0 else 1) < 30)) = true := by rfl)
    (hl : (apos.endLine == cpos.line) = true := by rfl) (hs : starEach (e :: es) X.env = (false, eval e X.env) :: starEach es X.env := by rfl) (hp : (backTo cpos (starEach es X.env)).any (·.1) = false := by rfl) :
    PE X (.Call (.Attribute o "count" apos) (e :: es) [] cpos) (tCountZ X.K to t) := by
  refine ⟨fun pins s σ H Q I h => wpAny_Call_method_late hb hf hl rfl (thn (ho.run pins s σ H _ I h) fun v s1 hs1 => ?_)⟩
  obtain ⟨x, H1, I1, r1, ⟨a, ob, xs, rfl, hz, nd⟩, q1⟩ := hs1
  obtain rfl : v = Value.ref a := r1
  obtain ⟨g, _, its, _, pt⟩ := (show ObjOk X.prog X.w H1 s1.heap a (.frz ob (.tup xs)) from I1.hok a _ hz)
  refine ⟨"tuple", "tuple.count", PySem.F.plainAttrs_tuple, PySem.F.slot_tuple_count, PySem.F.type_tuple_count, pt.typeIs, fun b e => ?_, ?_⟩
  · cases e
    exact ⟨ob, g, nd⟩
  · have hA := ha.run cpos pins s1 σ H1 _ I1 q1
    rw [hs] at hA ⊢
    refine Calls.callWith_builtin ?_ (Calls.evalArgs_plain (thn hA fun us s2 ⟨vs, H2, I2, r2, q2⟩ => mt_countD hu pins s2 σ H2 (.ref a) vs (.ref a) us Q I2 rfl r2 q2))
    show (false || (backTo cpos (starEach es X.env)).any (·.1)) = false
    rw [hp]
    rfl
end
end Lr
end

section
set_option Elab.async false
set_option linter.all false
set_option maxRecDepth 100000
set_option maxHeartbeats 4000000
/-! What a reading evaluates to, as data. -/
namespace Lr
open PySem PySem.Spec PyProof.Rows L2
open Evl (Ex EvT)

/-! ### heaps -/
section
variable {K : PySem.W.Frag} {H H' : Hp}
mutual
theorem dp_mono (e : Ex H H') : ∀ (d : PyData) (v : V), Dp K H v d → Dp K H' v d
  | .none, _, h => by cases h; exact .non
  | .bool _, _, h => by cases h; exact .bl _
  | .int _, _, h => by cases h; exact .int _
  | .str _, _, h => by cases h; exact .str _
  | .list ds, _, h => by
    cases h with
    | lst a b => exact .lst (Evl.ex_l e a) (dpAll_mono e ds _ b)
  | .tuple ds, _, h => by
    cases h with
    | tup a b => exact .tup (Evl.ex_t e a) (dpAll_mono e ds _ b)
  | .dict _, _, h => by cases h
theorem dpAll_mono (e : Ex H H') : ∀ (ds : List PyData) (vs : List V), DpAll K H vs ds → DpAll K H' vs ds
  | [], _, h => by cases h; exact .nil
  | d :: ds, _, h => by
    cases h with
    | cons a b => exact .cons (dp_mono e d _ a) (dpAll_mono e ds _ b)
end
theorem Ex.dp (e : Ex H H') {d : PyData} {v : V} (h : Dp K H v d) : Dp K H' v d := dp_mono e d v h
theorem Ex.dps (e : Ex H H') {ds : List PyData} {vs : List V} (h : DpAll K H vs ds) : DpAll K H' vs ds := dpAll_mono e ds vs h
/-- the heap without what stands at l -/
def hid (H : Hp) (l : Addr) : Hp := fun b => if b = l then none else H b
theorem hid_same {l : Addr} : hid H l l = none := by unfold hid; rw [if_pos rfl]
theorem hid_ne {l b : Addr} (h : b ≠ l) : hid H l b = H b := by unfold hid; rw [if_neg h]
theorem hid_ex {l : Addr} : Ex (hid H l) H := fun b o e => by
  unfold hid at e
  split at e
  · cases e
  · exact e
theorem hid_upd {l : Addr} {o : HO} : hid (upd H l o) l = hid H l := by
  funext b
  unfold hid upd
  split <;> rfl
theorem hid_mono {l : Addr} (e : Ex H H') : Ex (hid H l) (hid H' l) := fun b o q => by
  unfold hid at q ⊢
  split at q
  · cases q
  · rename_i h
    rw [if_neg h]
    exact e b o q
theorem ex_hid {l : Addr} {B : Hp} (e : Ex B H) (h : B l = none) : Ex B (hid H l) := fun b o q => by
  rw [hid_ne (ne_of_none q h)]
  exact e b o q
/-- nothing that is read as a tuple -/
def NoT (H : Hp) (l : Addr) : Prop := ∀ xs, ¬ Rd H l (.tup xs)
theorem NoT.lst {l : Addr} {xs : List V} (h : H l = some (.lst xs)) : NoT H l := by
  rintro ys (z | ⟨o, z⟩) <;> (rw [h] at z; cases z)
theorem NoT.dK {l : Addr} {xs : List (Key × V)} (h : H l = some (.dK xs)) : NoT H l := by
  rintro ys (z | ⟨o, z⟩) <;> (rw [h] at z; cases z)
theorem NoT.ext {l : Addr} {φ : Heap → Prop} (h : H l = some (.ext φ)) : NoT H l := by
  rintro ys (z | ⟨o, z⟩) <;> (rw [h] at z; cases z)
mutual
/-- no list within -/
def noL : PyData → Bool
  | .list _ => false
  | .tuple ds => noLs ds
  | .dict _ => false
  | _ => true
def noLs : List PyData → Bool
  | [] => true
  | d :: ds => noL d && noLs ds
end
mutual
theorem dp_hid {l : Addr} (n : NoT H l) : ∀ (d : PyData) (v : V), noL d = true → Dp K H v d → Dp K (hid H l) v d
  | .none, _, _, h => by cases h; exact .non
  | .bool _, _, _, h => by cases h; exact .bl _
  | .int _, _, _, h => by cases h; exact .int _
  | .str _, _, _, h => by cases h; exact .str _
  | .list ds, _, z, _ => by simp [noL] at z
  | .tuple ds, _, z, h => by
    cases h with
    | @tup a xs _ p q =>
      refine .tup ?_ (dps_hid n ds _ (by simpa [noL] using z) q)
      rcases p with p | p
      · have ne : a ≠ l := by
          rintro rfl
          exact n _ p
        rcases p with p | ⟨o, p⟩
        · exact .inl (.inl (by rw [hid_ne ne]; exact p))
        · exact .inl (.inr ⟨o, by rw [hid_ne ne]; exact p⟩)
      · exact .inr p
  | .dict _, _, z, _ => by simp [noL] at z
theorem dps_hid {l : Addr} (n : NoT H l) : ∀ (ds : List PyData) (vs : List V), noLs ds = true → DpAll K H vs ds → DpAll K (hid H l) vs ds
  | [], _, _, h => by cases h; exact .nil
  | d :: ds, _, z, h => by
    cases h with
    | cons a b =>
      simp only [noLs, Bool.and_eq_true] at z
      exact .cons (dp_hid n d _ z.1 a) (dps_hid n ds _ z.2 b)
end
theorem noLs_map {α : Type} {enc : α → PyData} (h : ∀ a, noL (enc a) = true) : ∀ l : List α, noLs (l.map enc) = true
  | [] => rfl
  | a :: l => by
    show (noL (enc a) && noLs (l.map enc)) = true
    rw [h a, noLs_map h l]
    rfl
theorem noL_int (i : Int) : noL (.int i) = true := rfl
theorem noL_H (h : List Int) : noL (encH h) = true := by
  show noLs (h.map .int) = true
  exact noLs_map noL_int h
theorem noL_E (e : List (List Int)) : noL (encE e) = true := by
  show noLs (e.map encH) = true
  exact noLs_map noL_H e

/-! ### flat data -/
theorem ints_of : ∀ {ns : List Int} {xs : List V}, DpAll K H xs (ns.map .int) → xs = ns.map V.int
  | [], _, h => by cases h; rfl
  | n :: ns, _, h => by
    cases h with
    | cons a b =>
      cases a
      rw [ints_of b]
      rfl
theorem of_ints : ∀ (ns : List Int), DpAll K H (ns.map V.int) (ns.map .int)
  | [] => .nil
  | n :: ns => .cons (.int n) (of_ints ns)
theorem bls_of : ∀ {bs : List Bool} {xs : List V}, DpAll K H xs (bs.map .bool) → xs = bs.map V.bl
  | [], _, h => by cases h; rfl
  | n :: ns, _, h => by
    cases h with
    | cons a b =>
      cases a
      rw [bls_of b]
      rfl
theorem dp_app : ∀ {xs ys : List V} {ds es : List PyData}, DpAll K H xs ds → DpAll K H ys es → DpAll K H (xs ++ ys) (ds ++ es)
  | _, _, _, _, .nil, h => h
  | _, _, _, _, .cons a t, h => .cons a (dp_app t h)
theorem dp_take : ∀ {xs : List V} {ds : List PyData} (n : Nat), DpAll K H xs ds → DpAll K H (xs.take n) (ds.take n)
  | _, _, 0, _ => .nil
  | _, _, n + 1, .nil => .nil
  | _, _, n + 1, .cons a t => .cons a (dp_take n t)
theorem dp_drop : ∀ {xs : List V} {ds : List PyData} (n : Nat), DpAll K H xs ds → DpAll K H (xs.drop n) (ds.drop n)
  | _, _, 0, h => h
  | _, _, n + 1, .nil => .nil
  | _, _, n + 1, .cons a t => dp_drop n t
theorem dp_one {x : V} {d : PyData} (h : Dp K H x d) : DpAll K H [x] [d] := .cons h .nil
end

/-! ### what evaluates to what datum -/
section
variable (K : PySem.W.Frag)
def EvD (te : TE) (σ : L2.St) (H : Hp) (d : PyData) : Prop := ∀ H1, Ex H H1 → ∀ Q : VK, (∀ v H2, Ex H1 H2 → Dp K H2 v d → Q v H2) → te σ H1 Q
/-- a new list -/
def EvF (te : TE) (σ : L2.St) (H : Hp) (ds : List PyData) : Prop := ∀ H1, Ex H H1 → ∀ Q : VK, (∀ p xs H2, H1 p = none → Ex H1 H2 → H2 p = some (.lst xs) → DpAll K H2 xs ds → Q (.ref p) H2) → te σ H1 Q
def EvAD (ta : TA) (σ : L2.St) (H : Hp) (ds : List PyData) : Prop := ∀ H1, Ex H H1 → ∀ Q : List V → Hp → Prop, (∀ vs H2, Ex H1 H2 → DpAll K H2 vs ds → Q vs H2) → ta σ H1 Q
end
section
variable {K : PySem.W.Frag} {σ : L2.St} {H H' : Hp} {ta tb tc te : TE} {t u : TT} {d e : PyData} {ds es : List PyData}
theorem EvD.mono (x : Ex H H') (h : EvD K te σ H d) : EvD K te σ H' d := fun H1 a Q q => h H1 (x.trans a) Q q
theorem EvF.mono (x : Ex H H') (h : EvF K te σ H ds) : EvF K te σ H' ds := fun H1 a Q q => h H1 (x.trans a) Q q
theorem EvF.evd (h : EvF K te σ H ds) : EvD K te σ H (.list ds) := fun H1 a Q q => h H1 a Q fun p xs H2 _ x e hd => q _ H2 x (.lst (.inl (.inl e)) hd)
theorem EvD.is (h : EvD K te σ H d) (q : d = e) : EvD K te σ H e := q ▸ h
theorem EvF.is (h : EvF K te σ H ds) (q : ds = es) : EvF K te σ H es := q ▸ h
theorem ed_var {i : Nat} {v : V} (h : σ[i]? = some (some v)) (hd : Dp K H v d) : EvD K (tVar i) σ H d := fun H1 a Q q => ⟨v, h, q v H1 (Evl.Ex.refl H1) (Ex.dp a hd)⟩
theorem ed_int {i : Int} : EvD K (tC (.int i)) σ H (.int i) := fun H1 _ _ q => q _ H1 (Evl.Ex.refl H1) (.int i)
theorem ed_bl {b : Bool} : EvD K (tC (.bl b)) σ H (.bool b) := fun H1 _ _ q => q _ H1 (Evl.Ex.refl H1) (.bl b)
theorem ed_non : EvD K (tC .non) σ H .none := fun H1 _ _ q => q _ H1 (Evl.Ex.refl H1) .non
/-- an operator on data -/
theorem ed_op {r : R2} {f : PyData} (ha : EvD K ta σ H d) (hb : EvD K tb σ H e)
    (hr : ∀ x y H1, Ex H H1 → Dp K H1 x d → Dp K H1 y e → ∀ Q : VK, (∀ v H2, Ex H1 H2 → Dp K H2 v f → Q v H2) → r x y H1 Q) : EvD K (tOp r ta tb) σ H f := fun H1 a Q q =>
  ha H1 a _ fun x H2 e2 dx => hb H2 (a.trans e2) _ fun y H3 e3 dy => hr x y H3 ((a.trans e2).trans e3) (Ex.dp e3 dx) dy Q fun v H4 e4 dv => q v H4 ((e2.trans e3).trans e4) dv
theorem ed_I0 {g : Int → Int → V} {i j : Int} {f : PyData} (ha : EvD K ta σ H (.int i)) (hb : EvD K tb σ H (.int j)) (hg : ∀ H, Dp K H (g i j) f) : EvD K (tOp (rI0 g) ta tb) σ H f :=
  ed_op ha hb fun x y H1 _ dx dy Q q => by
    cases dx
    cases dy
    exact ⟨i, j, rfl, rfl, q _ H1 (Evl.Ex.refl H1) (hg H1)⟩
theorem ed_I {C : Int → Int → Prop} {g : Int → Int → V} {i j : Int} {f : PyData} (ha : EvD K ta σ H (.int i)) (hb : EvD K tb σ H (.int j)) (hc : C i j) (hg : ∀ H, Dp K H (g i j) f) : EvD K (tOp (rI C g) ta tb) σ H f :=
  ed_op ha hb fun x y H1 _ dx dy Q q => by
    cases dx
    cases dy
    exact ⟨i, j, rfl, rfl, hc, q _ H1 (Evl.Ex.refl H1) (hg H1)⟩
theorem ed_neg {i : Int} (ha : EvD K ta σ H (.int i)) : EvD K (tUn (rU fun i => .int (-i)) ta) σ H (.int (-i)) := fun H1 a Q q =>
  ha H1 a _ fun x H2 e2 dx => by
    cases dx
    exact ⟨i, rfl, q _ H2 e2 (.int _)⟩
theorem ed_eq (ha : EvD K ta σ H d) (hb : EvD K tb σ H e) (s1 : SeqAt.shaped d = true) (s2 : SeqAt.shaped e = true) : EvD K (tOp (rEqD K) ta tb) σ H (.bool (PyData.eqv d e)) :=
  ed_op ha hb fun x y H1 _ dx dy Q q => ⟨d, e, dx, dy, s1, s2, q _ H1 (Evl.Ex.refl H1) (.bl _)⟩
theorem ed_ne (ha : EvD K ta σ H d) (hb : EvD K tb σ H e) (s1 : SeqAt.shaped d = true) (s2 : SeqAt.shaped e = true) : EvD K (tOp (rNeD K) ta tb) σ H (.bool (!PyData.eqv d e)) :=
  ed_op ha hb fun x y H1 _ dx dy Q q => ⟨d, e, dx, dy, s1, s2, q _ H1 (Evl.Ex.refl H1) (.bl _)⟩
theorem inV_ints (i : Int) (ns : List Int) : inV (.int i) (ns.map V.int) = ns.contains i := by
  unfold inV
  rw [List.any_map, List.contains_eq_any_beq]
  congr 1
  funext y
  show eqV (.int y) (.int i) = (i == y)
  show (y == i) = (i == y)
  rw [Bool.eq_iff_iff]
  simp only [beq_iff_eq]
  exact eq_comm
theorem flat_ints (ns : List Int) : (ns.map V.int).all flatV = true := by
  rw [List.all_map]
  exact List.all_eq_true.mpr fun _ _ => rfl
theorem ed_inL {neg : Bool} {i : Int} {ns : List Int} (ha : EvD K ta σ H (.int i)) (hb : EvD K tb σ H (.list (ns.map .int))) : EvD K (tOp (rIn K neg) ta tb) σ H (.bool (if neg then !(ns.contains i) else ns.contains i)) :=
  ed_op ha hb fun x y H1 _ dx dy Q q => by
    cases dx
    cases dy with
    | lst a b =>
      have z := ints_of b
      subst z
      refine ⟨_, _, rfl, .inl a, rfl, flat_ints ns, q _ H1 (Evl.Ex.refl H1) ?_⟩
      rw [inV_ints]
      exact .bl _
theorem ed_inT {neg : Bool} {i : Int} {ns : List Int} (ha : EvD K ta σ H (.int i)) (hb : EvD K tb σ H (encH ns)) : EvD K (tOp (rIn K neg) ta tb) σ H (.bool (if neg then !(ns.contains i) else ns.contains i)) :=
  ed_op ha hb fun x y H1 _ dx dy Q q => by
    cases dx
    cases dy with
    | tup a b =>
      have z := ints_of b
      subst z
      refine ⟨_, _, rfl, .inr a, rfl, flat_ints ns, q _ H1 (Evl.Ex.refl H1) ?_⟩
      rw [inV_ints]
      exact .bl _
theorem ed_ixL {i : Nat} (ha : EvD K ta σ H (.list ds)) (hb : EvD K tb σ H (.int (i : Int))) (hi : ds[i]? = some d) : EvD K (tOp (rIxL K) ta tb) σ H d :=
  ed_op ha hb fun x y H1 _ dx dy Q q => by
    cases dy
    cases dx with
    | lst a b =>
      obtain ⟨v, hv, dv⟩ := dpAll_at' b hi
      exact ⟨_, _, _, v, rfl, rfl, a, atI_nat hv, q v H1 (Evl.Ex.refl H1) dv⟩
theorem ed_ixT {i : Nat} (ha : EvD K ta σ H (.tuple ds)) (hb : EvD K tb σ H (.int (i : Int))) (hi : ds[i]? = some d) : EvD K (tOp (rIxT K) ta tb) σ H d :=
  ed_op ha hb fun x y H1 _ dx dy Q q => by
    cases dy
    cases dx with
    | tup a b =>
      obtain ⟨v, hv, dv⟩ := dpAll_at' b hi
      exact ⟨_, _, _, v, rfl, rfl, a, atI_nat hv, q v H1 (Evl.Ex.refl H1) dv⟩
theorem ed_catT (ha : EvD K ta σ H (.tuple ds)) (hb : EvD K tb σ H (.tuple es)) (hz : ds.length + es.length ≤ 1000) : EvD K (tOp (rCatA K) ta tb) σ H (.tuple (ds ++ es)) :=
  ed_op ha hb fun x y H1 _ dx dy Q q => by
    cases dx with
    | @tup a xs _ sa da =>
      cases dy with
      | @tup b ys _ sb db =>
        have l1 := dpAll_len da
        have l2 := dpAll_len db
        refine ⟨a, b, xs, ys, rfl, rfl, sa, sb, Evl.sz_of (by omega), fun z => ?_, fun _ z => ?_, fun _ _ p hp => ?_⟩
        · subst z
          cases da
          exact q _ H1 (Evl.Ex.refl H1) (.tup sb db)
        · subst z
          cases db
          rw [List.append_nil] at q
          exact q _ H1 (Evl.Ex.refl H1) (.tup sa da)
        · have ex := Evl.Ex.new (o := .tup (xs ++ ys)) hp
          exact q _ _ ex (.tup (.inl (.inl upd_same)) (dp_app (Ex.dps ex da) (Ex.dps ex db)))
theorem ed_andV {a b : Bool} (h1 : EvD K ta σ H (.bool a)) (h2 : a = true → EvD K tb σ H (.bool b)) : EvD K (tAndV ta tb) σ H (.bool (a && b)) := fun H1 x Q q =>
  h1 H1 x _ fun v H2 e2 dv => by
    cases dv
    refine ⟨a, rfl, ?_⟩
    cases a with
    | true => exact iteT (h2 rfl H2 (x.trans e2) Q fun w H3 e3 dw => q w H3 (e2.trans e3) dw)
    | false => exact iteF (q _ H2 e2 (.bl false))
theorem ed_orV {a b : Bool} (h1 : EvD K ta σ H (.bool a)) (h2 : a = false → EvD K tb σ H (.bool b)) : EvD K (tOrV ta tb) σ H (.bool (a || b)) := fun H1 x Q q =>
  h1 H1 x _ fun v H2 e2 dv => by
    cases dv
    refine ⟨a, rfl, ?_⟩
    cases a with
    | true => exact iteT (q _ H2 e2 (.bl true))
    | false => exact iteF (h2 rfl H2 (x.trans e2) Q fun w H3 e3 dw => q w H3 (e2.trans e3) dw)
theorem ed_notV {a : Bool} (h1 : EvD K ta σ H (.bool a)) : EvD K (tNotV ta) σ H (.bool (!a)) := fun H1 x Q q =>
  h1 H1 x _ fun v H2 e2 dv => by
    cases dv
    exact ⟨a, rfl, q _ H2 e2 (.bl _)⟩
theorem ed_isN (ha : EvD K ta σ H d) (hd : d ≠ .none) : EvD K (tIsN ta) σ H (.bool false) := fun H1 a Q q =>
  ha H1 a _ fun x H2 e2 dx => by
    have : decide (x = V.non) = false := decide_eq_false fun z => by
      subst z
      cases dx
      exact hd rfl
    rw [this]
    exact q _ H2 e2 (.bl _)
/-- least <= value <= most -/
theorem ed_chain {i j k : Int} (ha : EvD K ta σ H (.int i)) (hb : EvD K tb σ H (.int j)) (hc : EvD K tc σ H (.int k)) :
    EvD K (tChain (rI0 fun i j => .bl (decide (i ≤ j))) (rI0 fun i j => .bl (decide (i ≤ j))) ta tb tc) σ H (.bool (decide (i ≤ j) && decide (j ≤ k))) := fun H1 x Q q =>
  ha H1 x _ fun v H2 e2 dv => hb H2 (x.trans e2) _ fun w H3 e3 dw => by
    cases dv
    cases dw
    refine ⟨i, j, rfl, rfl, _, rfl, ?_⟩
    cases hij : decide (i ≤ j) with
    | true =>
      rw [hij] at q
      refine iteT (hc H3 ((x.trans e2).trans e3) _ fun z H4 e4 dz => ?_)
      cases dz
      exact ⟨j, k, rfl, rfl, q _ H4 ((e2.trans e3).trans e4) (.bl _)⟩
    | false =>
      rw [hij] at q
      exact iteF (q _ H3 (e2.trans e3) (.bl _))
/-- tests -/
theorem et_test {b : Bool} (h : EvD K te σ H (.bool b)) : EvT (tTest te) σ H b := fun H1 a Q q => h H1 a _ fun v H2 e2 dv => by
  cases dv
  exact ⟨b, rfl, q H2 e2⟩
theorem et_B {b : Bool} (h : EvD K te σ H (.bool b)) : EvT (tB te) σ H b := fun H1 a Q q => h H1 a _ fun v H2 e2 dv => by
  cases dv
  exact ⟨b, rfl, q H2 e2⟩
theorem et_yes : EvT tYes σ H true := fun H1 _ Q q => q H1 (Evl.Ex.refl H1)

/-! ### arguments, calls, displays -/
theorem ead_nil : EvAD K tNil σ H [] := fun H1 _ Q q => q [] H1 (Evl.Ex.refl H1) .nil
theorem ead_cons {tr : TA} (h : EvD K ta σ H d) (hr : EvAD K tr σ H ds) : EvAD K (tCons ta tr) σ H (d :: ds) := fun H1 a Q q =>
  h H1 a _ fun v H2 e2 dv => hr H2 (a.trans e2) _ fun vs H3 e3 dvs => q _ H3 (e2.trans e3) (.cons (Ex.dp e3 dv) dvs)
theorem ead_one (h : EvD K ta σ H d) : EvAD K (tCons ta tNil) σ H [d] := ead_cons h ead_nil
theorem ed_tup {tr : TA} (h : EvAD K tr σ H ds) (hz : ds.length ≤ 1000) : EvD K (tTup tr) σ H (.tuple ds) := fun H1 a Q q =>
  h H1 a _ fun vs H2 e2 dvs => ⟨Evl.sz_of (by rw [dpAll_len dvs]; omega), fun p hp => by
    have ex := Evl.Ex.new (o := .tup vs) hp
    exact q _ _ (e2.trans ex) (.tup (.inl (.inl upd_same)) (Ex.dps ex dvs))⟩
theorem ef_lst {tr : TA} (h : EvAD K tr σ H ds) (hz : ds.length ≤ 1000) : EvF K (tLst tr) σ H ds := fun H1 a Q q =>
  h H1 a _ fun vs H2 e2 dvs => ⟨Evl.sz_of (by rw [dpAll_len dvs]; omega), fun p hp => by
    have ex := Evl.Ex.new (o := .lst vs) hp
    exact q p vs _ (Evl.fresh_back e2 hp) (e2.trans ex) upd_same (Ex.dps ex dvs)⟩
/-- a promise over data -/
def spR (K : PySem.W.Frag) (R : List PyData → PyData → Prop) : Sp := fun vs H Q _ => ∃ ds d, DpAll K H vs ds ∧ R ds d ∧ ∀ v H', Ex H H' → Dp K H' v d → Q v H'
/-- .. whose answer is a new list -/
def spN (K : PySem.W.Frag) (R : List PyData → List PyData → Prop) : Sp := fun vs H Q _ => ∃ ds es, DpAll K H vs ds ∧ R ds es ∧ ∀ p xs H', H p = none → Ex H H' → H' p = some (.lst xs) → DpAll K H' xs es → Q (.ref p) H'
theorem ed_call {R : List PyData → PyData → Prop} {E : XK} {tr : TA} (h : EvAD K tr σ H ds) (r : R ds d) : EvD K (tCall (spR K R) [] E tr) σ H d := fun H1 a Q q =>
  h H1 a _ fun vs H2 e2 dvs => ⟨ds, d, by rw [List.append_nil]; exact dvs, r, fun v H3 e3 dv => q v H3 (e2.trans e3) dv⟩
theorem ef_call {R : List PyData → List PyData → Prop} {E : XK} {tr : TA} (h : EvAD K tr σ H ds) (r : R ds es) : EvF K (tCall (spN K R) [] E tr) σ H es := fun H1 a Q q =>
  h H1 a _ fun vs H2 e2 dvs => ⟨ds, es, by rw [List.append_nil]; exact dvs, r, fun p xs H3 hp e3 h3 dx => q p xs H3 (Evl.fresh_back e2 hp) (e2.trans e3) h3 dx⟩
end
end Lr
end

section
set_option Elab.async false
set_option linter.all false
set_option maxRecDepth 100000
set_option maxHeartbeats 4000000
/-! Comprehensions over data. -/
namespace Lr
open PySem PySem.Spec PyProof.Rows L2
open Evl (Ex EvT)

/-- what else is known of a value: it stays, and a list that changes does not touch it -/
structure Stay (P : Hp → V → Prop) : Prop where
  mono : ∀ {H H' : Hp} {v : V}, Ex H H' → P H v → P H' v
  hid : ∀ {H : Hp} {l : Addr} {xs : List V} {v : V}, H l = some (.lst xs) → P H v → P (hid H l) v
def Any : Hp → V → Prop := fun _ _ => True
theorem stay_any : Stay Any := ⟨fun _ _ => trivial, fun _ _ => trivial⟩
theorem stay_zt : Stay Zt where
  mono := by
    rintro H H' v e ⟨a, o, xs, rfl, h, n⟩
    exact ⟨a, o, xs, rfl, e a _ h, n⟩
  hid := by
    rintro H l ys v hl ⟨a, o, xs, rfl, h, n⟩
    have ne : a ≠ l := fun z => by
      rw [z, hl] at h
      cases h
    exact ⟨a, o, xs, rfl, by rw [hid_ne ne]; exact h, n⟩

section
variable (K : PySem.W.Frag)
def EvDP (te : TE) (σ : L2.St) (H : Hp) (d : PyData) (P : Hp → V → Prop) : Prop := ∀ H1, Ex H H1 → ∀ Q : VK, (∀ v H2, Ex H1 H2 → Dp K H2 v d → P H2 v → Q v H2) → te σ H1 Q
def EvFP (te : TE) (σ : L2.St) (H : Hp) (ds : List PyData) (P : Hp → V → Prop) : Prop := ∀ H1, Ex H H1 → ∀ Q : VK, (∀ p xs H2, H1 p = none → Ex H1 H2 → H2 p = some (.lst xs) → DpAll K H2 xs ds → (∀ x ∈ xs, P H2 x) → Q (.ref p) H2) → te σ H1 Q
/-- a list that can be read -/
def EvLP (te : TE) (σ : L2.St) (H : Hp) (ds : List PyData) (P : Hp → V → Prop) : Prop := ∀ H1, Ex H H1 → ∀ Q : VK, (∀ p xs H2, Ex H1 H2 → SqL K H2 p xs → DpAll K H2 xs ds → (∀ x ∈ xs, P H2 x) → Q (.ref p) H2) → te σ H1 Q
end
section
variable {K : PySem.W.Frag} {σ : L2.St} {H H' : Hp} {ta tl te : TE} {t u tt : TT} {d e : PyData} {ds es : List PyData} {P : Hp → V → Prop}
theorem EvD.any (h : EvD K te σ H d) : EvDP K te σ H d Any := fun H1 a Q q => h H1 a Q fun v H2 e2 dv => q v H2 e2 dv trivial
theorem EvFP.f (h : EvFP K te σ H ds P) : EvF K te σ H ds := fun H1 a Q q => h H1 a Q fun p xs H2 hp e2 h2 dx _ => q p xs H2 hp e2 h2 dx
theorem EvFP.l (h : EvFP K te σ H ds P) : EvLP K te σ H ds P := fun H1 a Q q => h H1 a Q fun p xs H2 _ e2 h2 dx px => q p xs H2 e2 (.inl (.inl h2)) dx px
theorem EvFP.is (h : EvFP K te σ H ds P) (q : ds = es) : EvFP K te σ H es P := q ▸ h
theorem EvFP.mono (x : Ex H H') (h : EvFP K te σ H ds P) : EvFP K te σ H' ds P := fun H1 a Q q => h H1 (x.trans a) Q q
theorem EvD.l (h : EvD K te σ H (.list ds)) : EvLP K te σ H ds Any := fun H1 a Q q => h H1 a Q fun v H2 e2 dv => by
  cases dv with
  | lst a b => exact q _ _ H2 e2 a b fun _ _ => trivial

/-- an iterator over l, read where S stands; B tells the slots behind the target's store -/
structure Wk {α : Type} (J : It) (g : TG) (S : Hp) (σ0 : L2.St) (l : List α) (B : α → Hp → L2.St → Prop) : Prop where
  go : ∀ i H, i < l.length → Ex S H → J.go i H
  stop : ∀ H, Ex S H → J.stop l.length H
  turn : ∀ i a H x H', l[i]? = some a → Ex S H → J.yld i H x H' → ∀ Q : L2.St → Hp → Prop, (∀ σ2 H2, Ex H H2 → B a H2 σ2 → Q σ2 H2) → g x σ0 H' Q
def Src {α : Type} (wi : TI) (g : TG) (σ : L2.St) (H : Hp) (σ0 : L2.St) (l : List α) (B : α → Hp → L2.St → Prop) : Prop :=
  ∀ H1, Ex H H1 → ∀ R : It → Hp → Prop, (∀ J H2, Ex H1 H2 → Wk J g H2 σ0 l B → R J H2) → wi σ H1 R

theorem ef_lc {α : Type} {wi : TI} {g : TG} {vs : List Nat} {l : List α} {B : α → Hp → L2.St → Prop} (f : α → Bool) (G : α → PyData) (src : Src wi g σ H (wipe σ vs) l B) (hz : l.length ≤ 40000) (sP : Stay P)
    (hw : ∀ a H2 σ2, B a H2 σ2 → wipe σ2 vs = wipe σ vs) (ht : ∀ a ∈ l, ∀ H1 σ2, Ex H H1 → B a H1 σ2 → EvT tt σ2 H1 (f a))
    (he : ∀ a ∈ l, f a = true → ∀ H1 σ2, Ex H H1 → B a H1 σ2 → EvDP K te σ2 H1 (G a) P) (hn : ∀ a, noL (G a) = true) : EvFP K (tLc wi g tt te vs) σ H ((l.filter f).map G) P := fun H1 e Q q =>
  src H1 e _ fun J H2 e2 wk D hD => by
    refine ⟨fun i m H => m = l.length - i ∧ i ≤ l.length ∧ Ex H2 H ∧ ∃ xs, H D = some (.lst xs) ∧ xs.length ≤ i ∧ DpAll K (hid H D) xs (((l.take i).filter f).map G) ∧ ∀ x ∈ xs, P (hid H D) x,
      ⟨l.length, by simp, Nat.zero_le _, Evl.Ex.new hD, [], upd_same, Nat.le_refl _, .nil, fun _ h => absurd h (by simp)⟩, ?_⟩
    rintro i m H3 ⟨rfl, hi, e3, xs, h3, hx, dx, px⟩
    by_cases hlt : i < l.length
    · refine .inr ⟨wk.go i H3 hlt e3, fun H' => i + 1 ≤ l.length ∧ Ex H2 H' ∧ ∃ xs, H' D = some (.lst xs) ∧ xs.length ≤ i + 1 ∧ DpAll K (hid H' D) xs (((l.take (i + 1)).filter f).map G) ∧ ∀ x ∈ xs, P (hid H' D) x,
        fun H' p => ⟨l.length - (i + 1), by omega, rfl, p⟩, fun x H4 y => ?_⟩
      have ha : l[i]? = some l[i] := List.getElem?_eq_getElem hlt
      have hm : l[i] ∈ l := List.getElem_mem hlt
      refine wk.turn i l[i] H3 x H4 ha e3 y _ fun σ2 H5 e5 b => ⟨hw _ _ _ b, ?_⟩
      have e25 : Ex H2 H5 := e3.trans e5
      refine ht l[i] hm H5 σ2 ((e.trans e2).trans e25) b H5 (Evl.Ex.refl H5) _ fun H6 e6 => ?_
      have tk : (l.take (i + 1)).filter f = (l.take i).filter f ++ (if f l[i] = true then [l[i]] else []) := by
        rw [List.take_add_one, ha, List.filter_append]
        show _ ++ ([l[i]].filter f) = _
        cases hf : f l[i] <;> simp [hf]
      cases hf : f l[i] with
      | false =>
        refine iteF ⟨by omega, e25.trans e6, xs, e6 D _ (e5 D _ h3), by omega, ?_, fun x hx => sP.mono (hid_mono (e5.trans e6)) (px x hx)⟩
        rw [tk, hf, if_neg Bool.false_ne_true, List.append_nil]
        exact Ex.dps (hid_mono (e5.trans e6)) dx
      | true =>
        refine iteT (he l[i] hm hf H5 σ2 ((e.trans e2).trans e25) b H6 e6 _ fun yv H7 e7 dy py => ?_)
        have h7 : H7 D = some (.lst xs) := e7 D _ (e6 D _ (e5 D _ h3))
        have e37 : Ex H3 H7 := (e5.trans e6).trans e7
        refine ⟨xs, h7, Evl.sz_lt (by omega), by omega, Evl.Ex.mut (e3.trans e37) hD, xs ++ [yv], upd_same, by simp; omega, ?_, fun x hx => ?_⟩
        · rw [hid_upd, tk, hf, if_pos rfl, List.map_append]
          exact dp_app (Ex.dps (hid_mono e37) dx) (dp_one (dp_hid (NoT.lst h7) _ _ (hn _) dy))
        · rw [hid_upd]
          rcases List.mem_append.mp hx with z | z
          · exact sP.mono (hid_mono e37) (px x z)
          · rw [List.mem_singleton.mp z]
            exact sP.hid h7 py
    · have ei : i = l.length := by omega
      subst ei
      refine .inl ⟨wk.stop H3 e3, q D xs H3 (Evl.fresh_back e2 hD) (e2.trans e3) h3 ?_ fun x hx => sP.mono hid_ex (px x hx)⟩
      rw [List.take_length] at dx
      exact Ex.dps hid_ex dx
/-- without a test -/
theorem ef_lc0 {α : Type} {wi : TI} {g : TG} {vs : List Nat} {l : List α} {B : α → Hp → L2.St → Prop} (G : α → PyData) (src : Src wi g σ H (wipe σ vs) l B) (hz : l.length ≤ 40000) (sP : Stay P)
    (hw : ∀ a H2 σ2, B a H2 σ2 → wipe σ2 vs = wipe σ vs)
    (he : ∀ a ∈ l, ∀ H1 σ2, Ex H H1 → B a H1 σ2 → EvDP K te σ2 H1 (G a) P) (hn : ∀ a, noL (G a) = true) : EvFP K (tLc wi g tYes te vs) σ H (l.map G) P := by
  have h := ef_lc (tt := tYes) (fun _ => true) G src hz sP hw (fun a _ H1 σ2 _ _ => et_yes) (fun a ha _ => he a ha) hn
  rw [List.filter_eq_self.mpr fun _ _ => rfl] at h
  exact h

/-! ### sources -/
abbrev BName (K : PySem.W.Frag) {α : Type} (enc : α → PyData) (P : Hp → V → Prop) (σ0 : L2.St) (j : Nat) : α → Hp → L2.St → Prop := fun a H2 σ2 => ∃ x, Dp K H2 x (enc a) ∧ P H2 x ∧ σ2 = σ0.set j (some x)
theorem wk_list {α : Type} {l : List α} {enc : α → PyData} {σ0 : L2.St} {j : Nat} {a : Addr} {xs : List V} (hx : SqL K H a xs) (dx : DpAll K H xs (l.map enc)) (px : ∀ x ∈ xs, P H x) (sP : Stay P) : Wk (Itl K a) (gName j) H σ0 l (BName K enc P σ0 j) where
  go := fun i H1 hi e => by
    have hl : i < xs.length := by rw [dpAll_len dx, List.length_map]; exact hi
    exact ⟨xs, xs[i], Evl.ex_l e hx, by simp [hl]⟩
  stop := fun H1 e => ⟨xs, Evl.ex_l e hx, by rw [dpAll_len dx, List.length_map]; exact Nat.le_refl _⟩
  turn := fun i b H1 x H2 hb e y Q q => by
    obtain ⟨rfl, hxi⟩ := y
    have hxi := hxi xs (Evl.ex_l e hx)
    obtain ⟨d, hd, dd⟩ := dpAll_at dx hxi
    rw [List.getElem?_map, hb] at hd
    have ed : d = enc b := (Option.some.inj hd).symm
    subst ed
    exact q _ _ (Evl.Ex.refl _) ⟨x, Ex.dp e dd, sP.mono e (px x (List.mem_of_getElem? hxi)), rfl⟩
theorem wk_tup {α : Type} {l : List α} {enc : α → PyData} {σ0 : L2.St} {j : Nat} {a : Addr} {xs : List V} (hx : SqT K H a xs) (dx : DpAll K H xs (l.map enc)) : Wk (Itt K a) (gName j) H σ0 l (BName K enc Any σ0 j) where
  go := fun i H1 hi e => by
    have hl : i < xs.length := by rw [dpAll_len dx, List.length_map]; exact hi
    exact ⟨xs, xs[i], Evl.ex_t e hx, by simp [hl]⟩
  stop := fun H1 e => ⟨xs, Evl.ex_t e hx, by rw [dpAll_len dx, List.length_map]; exact Nat.le_refl _⟩
  turn := fun i b H1 x H2 hb e y Q q => by
    obtain ⟨rfl, hxi⟩ := y
    have hxi := hxi xs (Evl.ex_t e hx)
    obtain ⟨d, hd, dd⟩ := dpAll_at dx hxi
    rw [List.getElem?_map, hb] at hd
    have ed : d = enc b := (Option.some.inj hd).symm
    subst ed
    exact q _ _ (Evl.Ex.refl _) ⟨x, Ex.dp e dd, trivial, rfl⟩
theorem src_list {α : Type} {l : List α} {enc : α → PyData} {σ0 : L2.St} {j : Nat} (sP : Stay P) (h : EvLP K tl σ H (l.map enc) P) : Src (iList K tl) (gName j) σ H σ0 l (BName K enc P σ0 j) := fun H1 e R r =>
  h H1 e _ fun p xs H2 e2 hx dx px => ⟨p, rfl, ⟨xs, hx⟩, r _ H2 e2 (wk_list hx dx px sP)⟩
theorem src_tup {α : Type} {l : List α} {enc : α → PyData} {σ0 : L2.St} {j : Nat} (h : EvD K tl σ H (.tuple (l.map enc))) : Src (iTup K tl) (gName j) σ H σ0 l (BName K enc Any σ0 j) := fun H1 e R r =>
  h H1 e _ fun v H2 e2 dv => by
    cases dv with
    | @tup a xs _ hx dx => exact ⟨a, rfl, ⟨xs, hx⟩, r _ H2 e2 (wk_tup hx dx)⟩
theorem wk_range {σ0 : L2.St} {j n : Nat} : Wk (Itr 0 n) (gName j) H σ0 ((List.range n).map fun p : Nat => (p : Int)) (BName K PyData.int Any σ0 j) := by
  have len : ((List.range n).map fun p : Nat => (p : Int)).length = n := by simp
  refine ⟨fun i H3 hlt _ => ?_, fun H3 _ => ?_, fun i b H3 x H4 hb _ y Q q => ?_⟩
  · rw [len] at hlt
    exact hlt
  · rw [len]
    exact Nat.le_refl n
  · obtain ⟨rfl, rfl⟩ := y
    have eb : b = ((0 : Int) + (i : Int)) := by
      rw [List.getElem?_map] at hb
      cases hr : (List.range n)[i]? with
      | none => rw [hr] at hb; cases hb
      | some k =>
        rw [hr] at hb
        have h1 : (k : Int) = b := Option.some.inj hb
        obtain ⟨h2, h3⟩ := List.getElem?_eq_some_iff.mp hr
        rw [List.getElem_range] at h3
        omega
    subst eb
    exact q _ _ (Evl.Ex.refl _) ⟨_, .int _, trivial, rfl⟩
theorem src_range {σ0 : L2.St} {j n : Nat} {ar : TA} (h : EvAD K ar σ H [.int (n : Int)]) (hn : n ≤ 1000) : Src (iRng1 ar) (gName j) σ H σ0 ((List.range n).map fun p : Nat => (p : Int)) (BName K PyData.int Any σ0 j) := fun H1 e R r =>
  h H1 e _ fun vs H2 e2 dv => by
    cases dv with
    | cons a b =>
      cases a
      cases b
      exact ⟨n, rfl, by omega, by omega, r (Itr 0 n) H2 e2 wk_range⟩
/-- enumerate of a tuple -/
abbrev BEnum (K : PySem.W.Frag) {α : Type} (enc : α → PyData) (σ0 : L2.St) (i j : Nat) : (α × Nat) → Hp → L2.St → Prop := fun a H2 σ2 => ∃ x, Dp K H2 x (enc a.1) ∧ σ2 = (σ0.set i (some (.int (a.2 : Nat)))).set j (some x)
theorem wk_enum {α : Type} {l : List α} {enc : α → PyData} {σ0 : L2.St} {i j : Nat} {a : Addr} {xs : List V} (hx : SqT K H a xs) (dx : DpAll K H xs (l.map enc)) :
    Wk (Itet K a) (gTup K 2 (gCons (gName i) (gCons (gName j) gNil))) H σ0 l.zipIdx (BEnum K enc σ0 i j) := by
  have len : xs.length = l.length := by rw [dpAll_len dx, List.length_map]
  refine ⟨fun k H3 hlt e3 => ?_, fun H3 e3 => ?_, fun k b H3 v H4 hb e3 y Q q => ?_⟩
  · rw [List.length_zipIdx] at hlt
    have hl : k < xs.length := by omega
    exact ⟨xs, xs[k], Evl.ex_t e3 hx, by simp [hl]⟩
  · rw [List.length_zipIdx]
    exact ⟨xs, Evl.ex_t e3 hx, len⟩
  · obtain ⟨T, x, rfl, hT, rfl, hxk⟩ := y
    have hxk := hxk xs (Evl.ex_t e3 hx)
    obtain ⟨d, hd, dd⟩ := dpAll_at dx hxk
    rw [List.getElem?_zipIdx] at hb
    cases hl : l[k]? with
    | none => rw [hl] at hb; cases hb
    | some c =>
      rw [hl] at hb
      have eb : (c, 0 + k) = b := Option.some.inj hb
      rw [List.getElem?_map, hl] at hd
      have ed : d = enc c := (Option.some.inj hd).symm
      subst ed eb
      have ex := Evl.Ex.new (o := .tup [.int (k : Nat), x]) hT
      refine ⟨T, [.int (k : Nat), x], rfl, .inl (.inl upd_same), rfl, _, _, rfl, _, _, rfl, rfl, q _ _ ex ⟨x, Ex.dp (e3.trans ex) dd, ?_⟩⟩
      show _ = _
      rw [Nat.zero_add]
theorem src_enum {α : Type} {l : List α} {enc : α → PyData} {σ0 : L2.St} {i j : Nat} {ar : TA} (h : EvAD K ar σ H [.tuple (l.map enc)]) :
    Src (iEnumT K ar) (gTup K 2 (gCons (gName i) (gCons (gName j) gNil))) σ H σ0 l.zipIdx (BEnum K enc σ0 i j) := fun H1 e R r =>
  h H1 e _ fun vs H2 e2 dv => by
    cases dv with
    | cons a b =>
      cases b
      cases a with
      | @tup a xs _ hx dx => exact ⟨a, xs, rfl, hx, r (Itet K a) H2 e2 (wk_enum hx dx)⟩
end
end Lr
end

section
set_option Elab.async false
set_option linter.all false
set_option maxRecDepth 100000
set_option maxHeartbeats 4000000
/-! Built-ins over data; comprehensions of two clauses; statements. -/
namespace Lr
open PySem PySem.Spec PyProof.Rows L2
open Evl (Ex EvT)

section
variable {K : PySem.W.Frag} {σ : L2.St} {H H' : Hp} {ta tl te to : TE} {t u tt : TT} {d e : PyData} {ds es : List PyData} {P : Hp → V → Prop}
theorem ed_cb1 {r : List V → Hp → VK → Prop} {f : PyData} (h : EvD K te σ H d) (hr : ∀ x H1, Ex H H1 → Dp K H1 x d → ∀ Q : VK, (∀ v H2, Ex H1 H2 → Dp K H2 v f → Q v H2) → r [x] H1 Q) : EvD K (tCB r (tCons te tNil)) σ H f := fun H1 a Q q =>
  h H1 a _ fun x H2 e2 dx => hr x H2 (a.trans e2) dx Q fun v H3 e3 dv => q v H3 (e2.trans e3) dv
theorem ed_lenL (h : EvD K te σ H (.list ds)) : EvD K (tCB (Evl.rLenS K) (tCons te tNil)) σ H (.int (ds.length : Nat)) := ed_cb1 h fun x H1 _ dx Q q => by
  cases dx with
  | @lst a xs _ s dd => exact ⟨a, xs, rfl, .inl s, by rw [dpAll_len dd]; exact q _ H1 (Evl.Ex.refl H1) (.int _)⟩
theorem ed_lenT (h : EvD K te σ H (.tuple ds)) : EvD K (tCB (Evl.rLenS K) (tCons te tNil)) σ H (.int (ds.length : Nat)) := ed_cb1 h fun x H1 _ dx Q q => by
  cases dx with
  | @tup a xs _ s dd => exact ⟨a, xs, rfl, .inr s, by rw [dpAll_len dd]; exact q _ H1 (Evl.Ex.refl H1) (.int _)⟩
theorem ed_sum {ns : List Int} (h : EvD K te σ H (.list (ns.map .int))) : EvD K (tCB (rSum K) (tCons te tNil)) σ H (.int ns.sum) := ed_cb1 h fun x H1 _ dx Q q => by
  cases dx with
  | @lst a xs _ s dd =>
    have z := ints_of dd
    subst z
    exact ⟨a, ns, rfl, s, q _ H1 (Evl.Ex.refl H1) (.int _)⟩
theorem ed_max {ns : List Int} {m : Int} (h : EvD K te σ H (.list (ns.map .int))) (hm : m ∈ ns) (hle : ∀ y ∈ ns, y ≤ m) : EvD K (tCB (rMax K) (tCons te tNil)) σ H (.int m) := ed_cb1 h fun x H1 _ dx Q q => by
  cases dx with
  | @lst a xs _ s dd =>
    have z := ints_of dd
    subst z
    refine ⟨a, ns, rfl, s, List.length_pos_of_mem hm, fun m' h1 h2 => ?_⟩
    have e : m' = m := Int.le_antisymm (hle _ h1) (h2 _ hm)
    subst e
    exact q _ H1 (Evl.Ex.refl H1) (.int _)
theorem ed_min {ns : List Int} {m : Int} (h : EvD K te σ H (.list (ns.map .int))) (hm : m ∈ ns) (hle : ∀ y ∈ ns, m ≤ y) : EvD K (tCB (rMin K) (tCons te tNil)) σ H (.int m) := ed_cb1 h fun x H1 _ dx Q q => by
  cases dx with
  | @lst a xs _ s dd =>
    have z := ints_of dd
    subst z
    refine ⟨a, ns, rfl, s, List.length_pos_of_mem hm, fun m' h1 h2 => ?_⟩
    have e : m' = m := Int.le_antisymm (h2 _ hm) (hle _ h1)
    subst e
    exact q _ H1 (Evl.Ex.refl H1) (.int _)
theorem ed_any {bs : List Bool} (h : EvD K te σ H (.list (bs.map .bool))) : EvD K (tCB (rAny K) (tCons te tNil)) σ H (.bool (bs.any id)) := ed_cb1 h fun x H1 _ dx Q q => by
  cases dx with
  | @lst a xs _ s dd =>
    have z := bls_of dd
    subst z
    exact ⟨a, bs, rfl, s, q _ H1 (Evl.Ex.refl H1) (.bl _)⟩
theorem ed_all {bs : List Bool} (h : EvD K te σ H (.list (bs.map .bool))) : EvD K (tCB (rAll K) (tCons te tNil)) σ H (.bool (bs.all id)) := ed_cb1 h fun x H1 _ dx Q q => by
  cases dx with
  | @lst a xs _ s dd =>
    have z := bls_of dd
    subst z
    exact ⟨a, bs, rfl, s, q _ H1 (Evl.Ex.refl H1) (.bl _)⟩
theorem ed_minD (h : EvD K te σ H (.list (d :: ds))) (ha : PySem.W.AlikeAll (d :: ds)) (hd : PyData.depthAll (d :: ds) ≤ 8) : EvD K (tCB (rMinD K) (tCons te tNil)) σ H (PySem.W.minD d ds) := ed_cb1 h fun x H1 _ dx Q q => by
  cases dx with
  | @lst a xs _ s dd => exact ⟨a, xs, d, ds, rfl, s, dd, ha, hd, fun v dv => q v H1 (Evl.Ex.refl H1) dv⟩
/-- tuple(xs) -/
def rTupL (K : PySem.W.Frag) : List V → Hp → VK → Prop := fun xs H Q => ∃ p ys, xs = [V.ref p] ∧ ((SqL K H p ys ∧ ∀ l, H l = none → Q (.ref l) (upd H l (.tup ys))) ∨ (SqT K H p ys ∧ Q (.ref p) H))
theorem ed_tupL (h : EvD K te σ H (.list ds)) : EvD K (tCB (rTupL K) (tCons te tNil)) σ H (.tuple ds) := ed_cb1 h fun x H1 _ dx Q q => by
  cases dx with
  | @lst a xs _ s dd =>
    refine ⟨a, xs, rfl, .inl ⟨s, fun l hl => ?_⟩⟩
    have ex := Evl.Ex.new (o := .tup xs) hl
    exact q _ _ ex (.tup (.inl (.inl upd_same)) (Ex.dps ex dd))
theorem ed_tupZ (h : EvD K te σ H (.list ds)) : EvDP K (tCB (rTupZ K) (tCons te tNil)) σ H (.tuple ds) Zt := fun H1 a Q q =>
  h H1 a _ fun x H2 e2 dx => by
    cases dx with
    | @lst b xs _ s dd =>
      refine ⟨b, xs, rfl, s, fun l o hl ho => ?_⟩
      have ex := Evl.Ex.new (o := .frz o (.tup xs)) hl
      exact q _ _ (e2.trans ex) (.tup (.inl (.inr ⟨o, upd_same⟩)) (Ex.dps ex dd)) ⟨l, o, xs, rfl, upd_same, ho⟩
theorem ef_list (h : EvD K te σ H (.tuple ds)) : EvF K (tCB (Evl.rListS K) (tCons te tNil)) σ H ds := fun H1 a Q q =>
  h H1 a _ fun x H2 e2 dx => by
    cases dx with
    | @tup b xs _ s dd =>
      refine ⟨b, xs, rfl, .inr s, fun l hl => ?_⟩
      have ex := Evl.Ex.new (o := .lst xs) hl
      exact q l xs _ (Evl.fresh_back e2 hl) (e2.trans ex) upd_same (Ex.dps ex dd)
theorem asc_one : ∀ {l m : List Int}, l.Pairwise (· < ·) → m.Pairwise (· < ·) → (∀ x, x ∈ l ↔ x ∈ m) → l = m
  | [], [], _, _, _ => rfl
  | [], b :: m, _, _, h => absurd ((h b).mpr List.mem_cons_self) (by simp)
  | a :: l, [], _, _, h => absurd ((h a).mp List.mem_cons_self) (by simp)
  | a :: l, b :: m, h1, h2, h => by
    obtain ⟨p1, p2⟩ := List.pairwise_cons.mp h1
    obtain ⟨q1, q2⟩ := List.pairwise_cons.mp h2
    have e : a = b := by
      rcases List.mem_cons.mp ((h a).mp List.mem_cons_self) with z | z
      · exact z
      · rcases List.mem_cons.mp ((h b).mpr List.mem_cons_self) with y | y
        · exact y.symm
        · have := p1 b y
          have := q1 a z
          omega
    subst e
    rw [asc_one p2 q2 fun x => ⟨fun z => ?_, fun z => ?_⟩]
    · rcases List.mem_cons.mp ((h x).mp (List.mem_cons_of_mem _ z)) with y | y
      · have := p1 x z
        omega
      · exact y
    · rcases List.mem_cons.mp ((h x).mpr (List.mem_cons_of_mem _ z)) with y | y
      · have := q1 x z
        omega
      · exact y
/-- sorted(set(xs)) -/
theorem ef_sortedSet {w : World} {ns ms : List Int} (h : EvD K te σ H d) (hd : d = .list (ns.map .int) ∨ d = .tuple (ns.map .int)) (hz : ns.length < 64) (asc : ms.Pairwise (· < ·)) (mem : ∀ x, x ∈ ms ↔ x ∈ ns) :
    EvF K (tCB (rSortedSet w) (tCons (tCB (rSetI K w) (tCons te tNil)) tNil)) σ H (ms.map .int) := fun H1 a Q q =>
  h H1 a _ fun x H2 e2 dx => by
    have key : ∃ b, x = .ref b ∧ (SqL K H2 b (ns.map V.int) ∨ SqT K H2 b (ns.map V.int)) := by
      rcases hd with hd | hd
      · subst hd
        cases dx with
        | @lst b xs _ s dd =>
          have z := ints_of dd
          subst z
          exact ⟨b, rfl, .inl s⟩
      · subst hd
        cases dx with
        | @tup b xs _ s dd =>
          have z := ints_of dd
          subst z
          exact ⟨b, rfl, .inr s⟩
    obtain ⟨b, rfl, hs⟩ := key
    refine ⟨b, ns, rfl, hs, hz, fun p c hp hc => ⟨p, _, c, rfl, upd_same, by omega, fun ns' l h1 h2 _ hl => ?_⟩⟩
    have e : ns' = ms := asc_one h1 asc fun y => by
      rw [h2 y, mem y]
      exact decide_eq_true_iff
    subst e
    have ex1 := Evl.Ex.new (o := SetO w p (fun j => decide (j ∈ ns)) c) hp
    have ex2 := Evl.Ex.new (o := .lst (ns'.map V.int)) hl
    exact q l _ _ (Evl.fresh_back (e2.trans ex1) hl) ((e2.trans ex1).trans ex2) upd_same (of_ints ns')
/-- sorted(xs) -/
theorem ef_sortD (sP : Stay P) (h : EvLP K te σ H ds P) (hz : ds.length ≤ 100000) (h1 : PySem.W.AllAlike ds) (h2 : PySem.W.Sortable ds) (h3 : ∀ d ∈ ds, d.depth ≤ 8) :
    EvFP K (tCB (rSortD K) (tCons te tNil)) σ H (ds.mergeSort (PySem.W.dataLe false id)) P := fun H1 a Q q =>
  h H1 a _ fun p xs H2 e2 s dx px => ⟨p, xs, ds, rfl, s, dx, hz, h1, h2, h3, P H2, px, fun ys l hl dy py => by
    have ex := Evl.Ex.new (o := .lst ys) hl
    exact q l ys _ (Evl.fresh_back e2 hl) (e2.trans ex) upd_same (Ex.dps ex dy) fun y hy => sP.mono ex (py y hy)⟩
/-- isinstance -/
def tyN : PyData → String
  | .none => "NoneType" | .bool _ => "bool" | .int _ => "int" | .str _ => "str" | .list _ => "list" | .tuple _ => "tuple" | .dict _ => "dict"
theorem tyx_of {x : V} (h : Dp K H x d) : TyX K H x (.type (tyN d)) := by
  cases h with
  | non => exact .base .non
  | bl b => exact .base (.bl b)
  | int i => exact .base (.int i)
  | str x => exact .base (.str x)
  | lst s _ =>
    rcases s with (s | ⟨o, s⟩) | ⟨o, its, n, h1, h2, _⟩
    · exact .base (.lst s)
    · exact .base (.frz s)
    · exact .kList h1 h2
  | tup s _ =>
    rcases s with (s | ⟨o, s⟩) | ⟨o, its, n, h1, h2, _⟩
    · exact .base (.tup s)
    · exact .fTuple s
    · exact .kTuple h1 h2
theorem ed_isi {T : String} {b : Bool} (h : EvD K te σ H d) (hk : kitB (tyN d) T = some b) : EvD K (tCB (rIsi K) (tCons te (tCons (tC (.ty T)) tNil))) σ H (.bool b) := fun H1 a Q q =>
  h H1 a _ fun x H2 e2 dx => ⟨x, .ty T, _, _, b, rfl, .ty T, tyx_of dx, kit_ty hk, q _ H2 e2 (.bl b)⟩
theorem ed_isi2 {T U : String} {b1 b2 : Bool} (h : EvD K te σ H d) (h1 : kitB (tyN d) T = some b1) (h2 : kitB (tyN d) U = some b2) :
    EvD K (tCB (rIsiT K) (tCons te (tCons (tTup (tCons (tC (.ty T)) (tCons (tC (.ty U)) tNil))) tNil))) σ H (.bool (b1 || b2)) := fun H1 a Q q =>
  h H1 a _ fun x H2 e2 dx => ⟨by show 2 ≤ sizeLine; decide, fun p hp => by
    have ex := Evl.Ex.new (o := .tup [.ty T, .ty U]) hp
    have hk : PySem.W.kitAny K (.type (tyN d)) [.type T, .type U] = some (b1 || b2) := by
      refine kitAny_cons (kit_ty h1) (fun e => kitAny_cons (kit_ty h2) (fun e' => ?_) fun e' => ?_) fun e => ?_
      · rw [e, e']; rfl
      · rw [e, e']; rfl
      · rw [e]; rfl
    exact ⟨x, p, [.ty T, .ty U], _, _, _, rfl, upd_same, .cons (.ty T) (.cons (.ty U) .nil), tyx_of (Ex.dp ex dx), hk, q _ _ (e2.trans ex) (.bl _)⟩⟩
/-- methods -/
theorem ed_lcount {ns : List Int} {k : Int} (h : EvD K to σ H (.list (ns.map .int))) (hk : EvD K ta σ H (.int k)) : EvD K (tBM K "list" (rCntI K) to (tCons ta tNil)) σ H (.int (ns.count k : Nat)) := fun H1 a Q q =>
  h H1 a _ fun x H2 e2 dx => by
    cases dx with
    | @lst b xs _ s dd =>
      have z := ints_of dd
      subst z
      refine ⟨.inl ⟨rfl, _, s⟩, hk H2 (a.trans e2) _ fun y H3 e3 dy => ?_⟩
      cases dy
      exact ⟨b, ns, k, rfl, rfl, Evl.ex_l e3 s, q _ H3 (e2.trans e3) (.int _)⟩
theorem ed_lindex {ns : List Int} {k : Int} {j : Nat} (h : EvD K to σ H (.list (ns.map .int))) (hk : EvD K ta σ H (.int k)) (hj : ns[j]? = some k) (hf : ∀ m, m < j → ns[m]? ≠ some k) :
    EvD K (tBM K "list" (rIndex K) to (tCons ta tNil)) σ H (.int (j : Nat)) := fun H1 a Q q =>
  h H1 a _ fun x H2 e2 dx => by
    cases dx with
    | @lst b xs _ s dd =>
      have z := ints_of dd
      subst z
      refine ⟨.inl ⟨rfl, _, s⟩, hk H2 (a.trans e2) _ fun y H3 e3 dy => ?_⟩
      cases dy
      refine ⟨b, ns.map V.int, .int k, j, .int k, rfl, rfl, Evl.ex_l e3 s, rfl, flat_ints ns, by rw [List.getElem?_map, hj]; rfl, by show (k == k) = true; simp, fun m z hm hz => ?_, q _ H3 (e2.trans e3) (.int _)⟩
      rw [List.getElem?_map] at hz
      cases hn : ns[m]? with
      | none => rw [hn] at hz; cases hz
      | some k' =>
        rw [hn] at hz
        have e' : V.int k' = z := Option.some.inj hz
        subst e'
        show (k' == k) = false
        exact beq_eq_false_iff_ne.mpr fun e => hf m hm (by rw [hn, e])
theorem ed_countZ {i : Nat} {v : V} (hv : σ[i]? = some (some v)) (dv : Dp K H v (.tuple ds)) (zv : Zt H v) (ha : EvD K ta σ H d) (h1 : PyData.plainAll ds = true) (h2 : d.plain = true) (h3 : d.depth ≤ 8) :
    EvD K (tCountZ K (tVar i) (tCons ta tNil)) σ H (.int ((ds.countP fun z => PyData.eqv z d : Nat) : Int)) := fun H1 a Q q =>
  ⟨v, hv, stay_zt.mono a zv, ha H1 a _ fun y H2 e2 dy => by
    cases dv with
    | @tup b xs _ s dd => exact ⟨b, y, xs, ds, d, rfl, rfl, Evl.ex_t (a.trans e2) s, Ex.dps (a.trans e2) dd, dy, h1, h2, h3, q _ H2 e2 (.int _)⟩⟩

/-! ### [y for x in xs for y in x] -/
theorem tyes_go {Q : Bool → Hp → Prop} (h : Q true H) : tYes σ H Q := h
theorem ef_flat {wi : TI} {g : TG} {vs vs1 : List Nat} {j j1 : Nat} {l : List (List Int)} (src : Src wi g σ H (wipe σ vs) l (BName K encH Any (wipe σ vs) j)) (hz : l.length ≤ 100) (hzm : ∀ a ∈ l, a.length ≤ 100)
    (hw : ∀ x, wipe ((wipe σ vs).set j (some x)) vs = wipe σ vs) (hj : ∀ x, ((wipe σ vs).set j (some x))[j]? = some (some x))
    (hw1 : ∀ x y, wipe ((wipe ((wipe σ vs).set j (some x)) vs1).set j1 (some y)) vs1 = wipe ((wipe σ vs).set j (some x)) vs1)
    (hj1 : ∀ x y, ((wipe ((wipe σ vs).set j (some x)) vs1).set j1 (some y))[j1]? = some (some y)) :
    EvF K (tLc2 wi g tYes (iTup K (tVar j)) (gName j1) tYes (tVar j1) vs vs1) σ H (l.flatten.map .int) := fun H1 e Q q =>
  src H1 e _ fun J H2 e2 wk D hD => by
    refine ⟨fun i k H => k = l.length - i ∧ i ≤ l.length ∧ Ex H2 H ∧ ∃ xs, H D = some (.lst xs) ∧ xs.length ≤ i * 100 ∧ DpAll K (hid H D) xs ((l.take i).flatten.map .int),
      ⟨l.length, by simp, Nat.zero_le _, Evl.Ex.new hD, [], upd_same, Nat.zero_le _, .nil⟩, ?_⟩
    rintro i k H3 ⟨rfl, hi, e3, xs, h3, hx, dx⟩
    by_cases hlt : i < l.length
    · refine .inr ⟨wk.go i H3 hlt e3, fun H' => i + 1 ≤ l.length ∧ Ex H2 H' ∧ ∃ xs, H' D = some (.lst xs) ∧ xs.length ≤ (i + 1) * 100 ∧ DpAll K (hid H' D) xs ((l.take (i + 1)).flatten.map .int),
        fun H' p => ⟨l.length - (i + 1), by omega, rfl, p⟩, fun x H4 y => ?_⟩
      have ha : l[i]? = some l[i] := List.getElem?_eq_getElem hlt
      have hm : l[i] ∈ l := List.getElem_mem hlt
      have hlim := hzm _ hm
      have tk : (l.take (i + 1)).flatten = (l.take i).flatten ++ l[i] := by
        rw [List.take_add_one, ha, List.flatten_append]
        simp
      refine wk.turn i l[i] H3 x H4 ha e3 y _ fun σ2 H5 e5 b => ?_
      obtain ⟨z, dz, _, rfl⟩ := b
      refine ⟨hw z, ?_⟩
      have e25 : Ex H2 H5 := e3.trans e5
      have h5 := e5 D _ h3
      have dz5 := dp_hid (NoT.lst h5) _ _ (noL_H _) dz
      generalize hen : encH l[i] = en at dz5
      cases dz5 with
      | non => simp [encH] at hen
      | bl _ => simp [encH] at hen
      | int _ => simp [encH] at hen
      | str _ => simp [encH] at hen
      | lst _ _ => simp [encH] at hen
      | @tup a zs ds sz dd =>
        have hds : ds = l[i].map .int := by
          have z := hen
          unfold encH at z
          injection z with z
          exact z.symm
        subst hds
        have ez := ints_of dd
        subst ez
        refine tyes_go ?_
        refine iteT ?_
        refine ⟨.ref a, hj _, a, rfl, ⟨_, Evl.ex_t hid_ex sz⟩, ?_⟩
        refine ⟨fun j k H => k = l[i].length - j ∧ j ≤ l[i].length ∧ Ex (hid H5 D) (hid H D) ∧ Ex H2 H ∧ ∃ ys, H D = some (.lst ys) ∧ ys.length ≤ i * 100 + j ∧ DpAll K (hid H D) ys (((l.take i).flatten ++ l[i].take j).map .int),
          ⟨l[i].length, by simp, Nat.zero_le _, Evl.Ex.refl _, e25, xs, h5, by omega, ?_⟩, ?_⟩
        · rw [List.take_zero, List.append_nil]
          exact Ex.dps (hid_mono e5) dx
        · rintro j2 k2 H6 ⟨rfl, hj2, e6, e26, ys, h6, hy, dy⟩
          have s6 : SqT K H6 a (l[i].map V.int) := Evl.ex_t hid_ex (Evl.ex_t e6 sz)
          by_cases hl2 : j2 < l[i].length
          · have hat : (l[i].map V.int)[j2]? = some (.int l[i][j2]) := by simp [hl2]
            refine .inr ⟨⟨_, _, s6, hat⟩, fun H' => j2 + 1 ≤ l[i].length ∧ Ex (hid H5 D) (hid H' D) ∧ Ex H2 H' ∧ ∃ ys, H' D = some (.lst ys) ∧ ys.length ≤ i * 100 + (j2 + 1) ∧ DpAll K (hid H' D) ys (((l.take i).flatten ++ l[i].take (j2 + 1)).map .int),
              fun H' p => ⟨l[i].length - (j2 + 1), by omega, rfl, p⟩, fun v H7 yv => ?_⟩
            obtain ⟨rfl, hv⟩ := yv
            have ev : v = .int l[i][j2] := by
              have z := hv _ s6
              rw [hat] at z
              exact (Option.some.inj z).symm
            subst ev
            refine ⟨hw1 _ _, ?_⟩
            refine tyes_go ?_
            refine iteT ?_
            refine ⟨_, hj1 _ _, ys, h6, Evl.sz_lt (by omega), by omega, by rw [hid_upd]; exact e6, Evl.Ex.mut e26 hD, ys ++ [.int l[i][j2]], upd_same, by simp; omega, ?_⟩
            rw [hid_upd, List.take_add_one, List.getElem?_eq_getElem hl2, ← List.append_assoc, List.map_append]
            exact dp_app dy (dp_one (.int _))
          · have ej : j2 = l[i].length := by omega
            subst ej
            refine .inl ⟨⟨_, s6, by simp⟩, by omega, e26, ys, h6, by omega, ?_⟩
            rw [List.take_length] at dy
            rw [tk]
            exact dy
    · have ei : i = l.length := by omega
      subst ei
      refine .inl ⟨wk.stop H3 e3, q D xs H3 (Evl.fresh_back e2 hD) (e2.trans e3) h3 ?_⟩
      rw [List.take_length] at dx
      exact Ex.dps hid_ex dx
end
end Lr
end

section
set_option Elab.async false
set_option linter.all false
set_option maxRecDepth 100000
set_option maxHeartbeats 4000000
/-! Data of ints, lists, tuples: equality, depth, order. -/
namespace Lr
open PySem PySem.Spec PyProof.Rows L2
mutual
/-- ints, lists, tuples alone -/
def cln : PyData → Bool
  | .int _ => true
  | .list ds => clns ds
  | .tuple ds => clns ds
  | _ => false
def clns : List PyData → Bool
  | [] => true
  | d :: ds => cln d && clns ds
end
theorem clns_map {α : Type} {f : α → PyData} (h : ∀ a, cln (f a) = true) : ∀ l : List α, clns (l.map f) = true
  | [] => by simp [clns]
  | a :: l => by simp [clns, h a, clns_map h l]
theorem cln_int (i : Int) : cln (.int i) = true := by simp [cln]
theorem cln_H (h : List Int) : cln (encH h) = true := by simp [encH, cln, clns_map cln_int h]
theorem cln_E (e : List (List Int)) : cln (encE e) = true := by simp [encE, cln, clns_map cln_H e]
mutual
theorem cln_can : ∀ d : PyData, cln d = true → d.canLay0 = true
  | .none, h => by simp [cln] at h
  | .bool _, h => by simp [cln] at h
  | .int _, _ => by simp [PyData.canLay0]
  | .str _, h => by simp [cln] at h
  | .list ds, h => by
    simp only [cln] at h
    simp only [PyData.canLay0]
    exact clns_can ds h
  | .tuple ds, h => by
    simp only [cln] at h
    simp only [PyData.canLay0]
    exact clns_can ds h
  | .dict _, h => by simp [cln] at h
theorem clns_can : ∀ ds : List PyData, clns ds = true → PyData.canLayAll0 ds = true
  | [], _ => by simp [PyData.canLayAll0]
  | d :: ds, h => by
    simp only [clns, Bool.and_eq_true] at h
    simp only [PyData.canLayAll0, Bool.and_eq_true]
    exact ⟨cln_can d h.1, clns_can ds h.2⟩
end
mutual
theorem cln_plain : ∀ d : PyData, cln d = true → d.plain = true
  | .none, h => by simp [cln] at h
  | .bool _, h => by simp [cln] at h
  | .int _, _ => by simp [PyData.plain]
  | .str _, h => by simp [cln] at h
  | .list ds, h => by
    simp only [cln] at h
    simp only [PyData.plain]
    exact clns_plain ds h
  | .tuple ds, h => by
    simp only [cln] at h
    simp only [PyData.plain]
    exact clns_plain ds h
  | .dict _, h => by simp [cln] at h
theorem clns_plain : ∀ ds : List PyData, clns ds = true → PyData.plainAll ds = true
  | [], _ => by simp [PyData.plainAll]
  | d :: ds, h => by
    simp only [clns, Bool.and_eq_true] at h
    simp only [PyData.plainAll, Bool.and_eq_true]
    exact ⟨cln_plain d h.1, clns_plain ds h.2⟩
end
mutual
theorem eqv_iff : ∀ d e : PyData, cln d = true → cln e = true → (PyData.eqv d e = true ↔ d = e)
  | .int i, .int j, _, _ => by simp [PyData.eqv]
  | .int _, .list _, _, _ => by simp [PyData.eqv]
  | .int _, .tuple _, _, _ => by simp [PyData.eqv]
  | .list _, .int _, _, _ => by simp [PyData.eqv]
  | .tuple _, .int _, _, _ => by simp [PyData.eqv]
  | .list _, .tuple _, _, _ => by simp [PyData.eqv]
  | .tuple _, .list _, _, _ => by simp [PyData.eqv]
  | .list xs, .list ys, h1, h2 => by
    simp only [cln] at h1 h2
    simp only [PyData.eqv, PyData.list.injEq]
    exact eqvs_iff xs ys h1 h2
  | .tuple xs, .tuple ys, h1, h2 => by
    simp only [cln] at h1 h2
    simp only [PyData.eqv, PyData.tuple.injEq]
    exact eqvs_iff xs ys h1 h2
  | .none, _, h, _ => by simp [cln] at h
  | .bool _, _, h, _ => by simp [cln] at h
  | .str _, _, h, _ => by simp [cln] at h
  | .dict _, _, h, _ => by simp [cln] at h
  | _, .none, _, h => by simp [cln] at h
  | _, .bool _, _, h => by simp [cln] at h
  | _, .str _, _, h => by simp [cln] at h
  | _, .dict _, _, h => by simp [cln] at h
theorem eqvs_iff : ∀ ds es : List PyData, clns ds = true → clns es = true → (PyData.eqvAll ds es = true ↔ ds = es)
  | [], [], _, _ => by simp [PyData.eqvAll]
  | [], _ :: _, _, _ => by simp [PyData.eqvAll]
  | _ :: _, [], _, _ => by simp [PyData.eqvAll]
  | d :: ds, e :: es, h1, h2 => by
    simp only [clns, Bool.and_eq_true] at h1 h2
    simp only [PyData.eqvAll, Bool.and_eq_true, List.cons.injEq]
    rw [eqv_iff d e h1.1 h2.1, eqvs_iff ds es h1.2 h2.2]
end
theorem eqv_is {d e : PyData} (h1 : cln d = true) (h2 : cln e = true) : PyData.eqv d e = true ↔ d = e := eqv_iff d e h1 h2
theorem eqv_int (i j : Int) : PyData.eqv (.int i) (.int j) = (i == j) := by simp [PyData.eqv]
theorem eqv_bool (i j : Bool) : PyData.eqv (.bool i) (.bool j) = (i == j) := by simp [PyData.eqv]
/-! depth -/
theorem deps_le {α : Type} {f : α → PyData} {n : Nat} (h : ∀ a, (f a).depth ≤ n) : ∀ l : List α, PyData.depthAll (l.map f) ≤ n
  | [] => by simp [PyData.depthAll]
  | a :: l => by
    simp only [List.map_cons, PyData.depthAll]
    exact Nat.max_le.mpr ⟨h a, deps_le h l⟩
theorem dep_int (i : Int) : (PyData.int i).depth = 0 := by simp [PyData.depth]
theorem dep_tup {ds : List PyData} {n : Nat} (h : PyData.depthAll ds ≤ n) : (PyData.tuple ds).depth ≤ n + 1 := by
  simp only [PyData.depth]
  omega
theorem dep_lst {ds : List PyData} {n : Nat} (h : PyData.depthAll ds ≤ n) : (PyData.list ds).depth ≤ n + 1 := by
  simp only [PyData.depth]
  omega
theorem dep_H (h : List Int) : (encH h).depth ≤ 1 := dep_tup (deps_le (fun i => by rw [dep_int]; exact Nat.le_refl 0) h)
theorem dep_E (e : List (List Int)) : (encE e).depth ≤ 2 := dep_tup (deps_le dep_H e)
theorem shaped_of {d : PyData} (h : cln d = true) (n : d.depth ≤ 64) : SeqAt.shaped d = true := by
  unfold SeqAt.shaped
  rw [cln_can d h, decide_eq_true n]
  rfl
theorem shaped_int (i : Int) : SeqAt.shaped (.int i) = true := shaped_of (cln_int i) (by rw [dep_int]; omega)
theorem shaped_bool (b : Bool) : SeqAt.shaped (.bool b) = true := by
  unfold SeqAt.shaped
  simp [PyData.canLay0, PyData.depth]
theorem shaped_ints (l : List Int) : SeqAt.shaped (.list (l.map .int)) = true := shaped_of (by simp [cln, clns_map cln_int l]) (by
  have := dep_lst (deps_le (f := PyData.int) (n := 0) (fun i => by rw [dep_int]; exact Nat.le_refl 0) l)
  omega)
theorem shaped_H (l : List Int) : SeqAt.shaped (encH l) = true := shaped_of (cln_H l) (by have := dep_H l; omega)
theorem eqv_ints (l m : List Int) : PyData.eqv (.list (l.map .int)) (.list (m.map .int)) = decide (l = m) := by
  rw [Bool.eq_iff_iff, eqv_is (by simp [cln, clns_map cln_int l]) (by simp [cln, clns_map cln_int m]), decide_eq_true_iff]
  constructor
  · intro h
    injection h with h
    exact map_inj (fun a b e => by injection e) h
  · rintro rfl
    rfl
theorem encH_inj {a b : List Int} (h : encH a = encH b) : a = b := by
  unfold encH at h
  injection h with h
  exact map_inj (fun a b e => by injection e) h
theorem encE_inj {a b : List (List Int)} (h : encE a = encE b) : a = b := by
  unfold encE at h
  injection h with h
  exact map_inj (fun a b e => encH_inj e) h
theorem eqv_H (l m : List Int) : PyData.eqv (encH l) (encH m) = decide (l = m) := by
  rw [Bool.eq_iff_iff, eqv_is (cln_H l) (cln_H m), decide_eq_true_iff]
  exact ⟨encH_inj, fun e => e ▸ rfl⟩
/-! alike -/
theorem alike_all0 {f : Int → PyData} (h : ∀ a b, PySem.W.alike (f a) (f b) = true) : ∀ l m : List Int, PySem.W.alikeAll (l.map f) (m.map f) = true
  | [], _ => by simp [PySem.W.alikeAll]
  | _ :: _, [] => by simp [PySem.W.alikeAll]
  | a :: l, b :: m => by simp [PySem.W.alikeAll, h a b, alike_all0 h l m]
theorem alike_alls {f : List Int → PyData} (h : ∀ a b, PySem.W.alike (f a) (f b) = true) : ∀ l m : List (List Int), PySem.W.alikeAll (l.map f) (m.map f) = true
  | [], _ => by simp [PySem.W.alikeAll]
  | _ :: _, [] => by simp [PySem.W.alikeAll]
  | a :: l, b :: m => by simp [PySem.W.alikeAll, h a b, alike_alls h l m]
theorem alike_H (l m : List Int) : PySem.W.alike (encH l) (encH m) = true := by
  simp only [encH, PySem.W.alike]
  exact alike_all0 (fun a b => by simp [PySem.W.alike]) l m
theorem alike_E (l m : List (List Int)) : PySem.W.alike (encE l) (encE m) = true := by
  simp only [encE, PySem.W.alike]
  exact alike_alls alike_H l m
end Lr
end

section
set_option Elab.async false
set_option linter.all false
set_option maxRecDepth 100000
set_option maxHeartbeats 4000000
/-! The order of ends. -/
namespace Lr
open PySem PySem.Spec PyProof.Rows L2
def leE (a b : List (List Int)) : Bool := PySem.W.dataLe false id (encE a) (encE b)
theorem leE_not (a b : List (List Int)) : leE a b = !PySem.W.dataLt (encE b) (encE a) := rfl
theorem leE_total : PySem.W.TotalLe leE := by
  have h := PySem.W.sortLe_total (PyProof.Rows.listOrd itemOrd) false (fun b : List (List Int) => PySem.W.keyToks (encE b))
  exact ⟨fun a b c => h.trans a b c, fun a b => h.total a b⟩
theorem leE_anti (a b : List (List Int)) (h1 : leE a b = true) (h2 : leE b a = true) : a = b := by
  rw [leE_not, Bool.not_eq_true'] at h1 h2
  have e : PySem.W.keyToks (encE b) = PySem.W.keyToks (encE a) := lex_total _ _ h1 h2
  obtain ⟨t1, t2⟩ := PySem.W.toks_eqv (encE b) (encE a) (alike_E b a)
  cases hq : PyData.eqv (encE b) (encE a) with
  | true => exact (encE_inj ((eqv_is (cln_E b) (cln_E a)).mp hq)).symm
  | false =>
    have z := t2 hq [.inl 0] [.inl 1]
    rw [e, PySem.W.lex_pre, lex_irrefl] at z
    rw [PySem.W.lex_one] at z
    exact absurd z (by decide)
def sortE (l : List (List (List Int))) : List (List (List Int)) := l.mergeSort leE
theorem sortE_enc (l : List (List (List Int))) : (sortE l).map encE = (l.map encE).mergeSort (PySem.W.dataLe false id) := by
  unfold sortE
  exact PySem.W.sort_maps encE fun _ _ _ _ => rfl
theorem sortE_perm {l m : List (List (List Int))} (h : l.Perm m) : sortE l = sortE m := by
  unfold sortE
  refine PySem.W.Srt.the_of_perm (le := leE) leE_total.trans (fun a b => ?_) leE_anti ((List.mergeSort_perm l leE).trans h) ?_
  · have := leE_total.total a b
    simpa using this
  · exact PySem.W.sort_pairwise leE_total l
theorem sortE_pair (l : List (List (List Int))) : (sortE l).Pairwise fun a b => leE a b = true := PySem.W.sort_pairwise leE_total l
theorem mem_sortE {l : List (List (List Int))} {a : List (List Int)} : a ∈ sortE l ↔ a ∈ l := List.mem_mergeSort
end Lr
end

section
set_option Elab.async false
set_option linter.all false
set_option maxRecDepth 100000
set_option maxHeartbeats 4000000
/-! The least of pairs (a number, an end). -/
namespace Lr
open PySem PySem.Spec PyProof.Rows L2
abbrev En := List (List Int)
def pairD (c : En → Int) (e : En) : PyData := .tuple [.int (c e), encE e]
def leP (c : En → Int) (a b : En) : Bool := decide (c a < c b) || (decide (c a = c b) && leE a b)
theorem lt_pair (c : En → Int) (a b : En) : PySem.W.dataLt (pairD c a) (pairD c b) = !leP c b a := by
  unfold pairD leP
  rw [PySem.W.dataLt_pair (by simp [PySem.W.alike]) (alike_E a b), PySem.W.dataLt_int, eqv_int]
  by_cases h : c a = c b
  · rw [if_pos (by rw [beq_iff_eq]; exact h), decide_eq_false (show ¬ c b < c a by omega), decide_eq_true h.symm, Bool.false_or, Bool.true_and, leE_not, Bool.not_not]
    split
    · rename_i q
      have e := encE_inj ((eqv_is (cln_E a) (cln_E b)).mp q)
      subst e
      unfold PySem.W.dataLt
      rw [lex_irrefl]
    · rfl
  · rw [if_neg (by rw [beq_iff_eq]; exact h), decide_eq_false (show ¬ c b = c a from fun z => h z.symm), Bool.false_and, Bool.or_false]
    by_cases h2 : c a < c b
    · rw [decide_eq_true h2, decide_eq_false (show ¬ c b < c a by omega)]
      rfl
    · rw [decide_eq_false h2, decide_eq_true (show c b < c a by omega)]
      rfl
theorem leP_iff {c : En → Int} {a b : En} : leP c a b = true ↔ c a < c b ∨ (c a = c b ∧ leE a b = true) := by
  unfold leP
  simp
theorem leP_total (c : En → Int) : PySem.W.TotalLe (leP c) where
  trans := fun x y z h1 h2 => by
    rw [leP_iff] at h1 h2 ⊢
    rcases h1 with h1 | ⟨h1, h1'⟩ <;> rcases h2 with h2 | ⟨h2, h2'⟩
    · exact .inl (by omega)
    · exact .inl (by omega)
    · exact .inl (by omega)
    · exact .inr ⟨by omega, leE_total.trans _ _ _ h1' h2'⟩
  total := fun x y => by
    rw [leP_iff, leP_iff]
    by_cases h : c x = c y
    · rcases leE_total.total x y with z | z
      · exact .inl (.inr ⟨h, z⟩)
      · exact .inr (.inr ⟨h.symm, z⟩)
    · rcases Int.lt_or_gt_of_ne h with z | z
      · exact .inl (.inl z)
      · exact .inr (.inl z)
def minE (c : En → Int) (x : En) (xs : List En) : En := xs.foldl (fun a y => if PySem.W.dataLt (pairD c y) (pairD c a) then y else a) x
theorem minD_pair (c : En → Int) : ∀ (xs : List En) (x : En), PySem.W.minD (pairD c x) (xs.map (pairD c)) = pairD c (minE c x xs)
  | [], _ => rfl
  | y :: r, x => by
    show PySem.W.minD (if PySem.W.dataLt (pairD c y) (pairD c x) = true then pairD c y else pairD c x) (r.map (pairD c)) = pairD c (minE c (if PySem.W.dataLt (pairD c y) (pairD c x) = true then y else x) r)
    rw [← minD_pair c r]
    split <;> rfl
theorem minE_mem (c : En → Int) : ∀ (xs : List En) (x : En), minE c x xs ∈ x :: xs
  | [], x => by simp [minE]
  | y :: r, x => by
    show minE c (if PySem.W.dataLt (pairD c y) (pairD c x) = true then y else x) r ∈ _
    have := minE_mem c r (if PySem.W.dataLt (pairD c y) (pairD c x) = true then y else x)
    rcases List.mem_cons.mp this with e | e
    · rw [e]
      split <;> simp
    · simp [e]
theorem minE_le (c : En → Int) : ∀ (xs : List En) (x : En), ∀ y ∈ x :: xs, leP c (minE c x xs) y = true
  | [], x, y, h => by
    have : y = x := by simpa using h
    subst this
    exact (leP_total c).refl y
  | z :: r, x, y, h => by
    show leP c (minE c (if PySem.W.dataLt (pairD c z) (pairD c x) = true then z else x) r) y = true
    have ih := minE_le c r (if PySem.W.dataLt (pairD c z) (pairD c x) = true then z else x)
    have a := ih _ List.mem_cons_self
    rw [lt_pair] at ih a ⊢
    rcases List.mem_cons.mp h with rfl | h
    · refine (leP_total c).trans _ _ _ a ?_
      cases q : leP c y z with
      | true => exact (leP_total c).refl y
      | false => exact ((leP_total c).total z y).resolve_right (by rw [q]; exact Bool.false_ne_true)
    · rcases List.mem_cons.mp h with rfl | h
      · refine (leP_total c).trans _ _ _ a ?_
        cases q : leP c x y with
        | true => exact q
        | false => exact (leP_total c).refl y
      · exact ih y (List.mem_cons_of_mem _ h)
/-- the least pair's end -/
def bestE (c : En → Int) : List En → En
  | [] => []
  | x :: xs => minE c x xs
theorem bestE_mem {c : En → Int} {l : List En} (h : l ≠ []) : bestE c l ∈ l := by
  cases l with
  | nil => exact absurd rfl h
  | cons x xs => exact minE_mem c xs x
theorem bestE_le {c : En → Int} {l : List En} {y : En} (h : y ∈ l) : leP c (bestE c l) y = true := by
  cases l with
  | nil => simp at h
  | cons x xs => exact minE_le c xs x y h
/-- the greatest number, and the first end that has it -/
theorem most_first {c : En → Int} {l : List En} (hs : l.Pairwise fun a b => leE a b = true) {j : Nat} {e : En} (hj : l[j]? = some e) (hm : ∀ y ∈ l, c y ≤ c e) (hf : ∀ (i : Nat) (y : En), i < j → l[i]? = some y → c y ≠ c e) : bestE (fun e => -(c e)) l = e := by
  have he : e ∈ l := List.mem_of_getElem? hj
  have hb := bestE_mem (c := fun e => -(c e)) (List.ne_nil_of_mem he)
  have h1 := bestE_le (c := fun e => -(c e)) he
  generalize bestE (fun e => -(c e)) l = b at hb h1
  rw [leP_iff] at h1
  have h2 := hm b hb
  rcases h1 with h1 | ⟨h1, h3⟩
  · omega
  · obtain ⟨k, hk⟩ := List.getElem?_of_mem hb
    refine leE_anti b e h3 ?_
    by_cases hkj : k < j
    · exact absurd (show c b = c e by omega) (hf k b hkj hk)
    · by_cases hkj : k = j
      · subst hkj
        rw [hk] at hj
        have := Option.some.inj hj
        subst this
        exact leE_total.refl b
      · obtain ⟨j1, j2⟩ := List.getElem?_eq_some_iff.mp hj
        obtain ⟨k1, k2⟩ := List.getElem?_eq_some_iff.mp hk
        have := List.pairwise_iff_getElem.mp hs j k j1 k1 (by omega)
        rw [j2, k2] at this
        exact this
theorem pair_alike (c : En → Int) (a b : En) : PySem.W.alike (pairD c a) (pairD c b) = true := by
  have h := alike_E a b
  simp only [pairD, PySem.W.alike, PySem.W.alikeAll, Bool.true_and, Bool.and_true]
  exact h
theorem pair_alikes (c : En → Int) (l : List En) : PySem.W.AlikeAll (l.map (pairD c)) := by
  refine ⟨fun x hx y hy => ?_, fun x hx => ?_⟩
  · obtain ⟨a, _, rfl⟩ := List.mem_map.mp hx
    obtain ⟨b, _, rfl⟩ := List.mem_map.mp hy
    exact pair_alike c a b
  · obtain ⟨a, _, rfl⟩ := List.mem_map.mp hx
    intro z
    cases z
theorem pair_dep (c : En → Int) (e : En) : (pairD c e).depth ≤ 3 := by
  have h := dep_E e
  simp only [pairD, PyData.depth, PyData.depthAll]
  omega
theorem noL_pair (c : En → Int) (e : En) : noL (pairD c e) = true := by
  have h := noL_E e
  simp only [pairD, noL, noLs, Bool.true_and, Bool.and_true]
  exact h
section
variable {K : PySem.W.Frag} {σ : L2.St} {H : Hp} {te : TE}
theorem ed_minP {c : En → Int} {l : List En} (hl : l ≠ []) (h : EvD K te σ H (.list (l.map (pairD c)))) : EvD K (tCB (rMinD K) (tCons te tNil)) σ H (pairD c (bestE c l)) := by
  cases l with
  | nil => exact absurd rfl hl
  | cons x xs =>
    refine (ed_minD (d := pairD c x) (ds := xs.map (pairD c)) h (pair_alikes c (x :: xs)) ?_).is (minD_pair c xs x)
    have := deps_le (pair_dep c) (x :: xs)
    exact Nat.le_trans this (by decide)
end
/-- the greatest length -/
def topOf (e : En) : Int := e.foldr (fun h m => max (h.length : Int) m) 0
theorem topOf_le : ∀ (e : En), 0 ≤ topOf e ∧ ∀ h ∈ e, (h.length : Int) ≤ topOf e
  | [] => ⟨Int.le_refl _, fun _ h => absurd h (by simp)⟩
  | g :: e => by
    obtain ⟨h1, h2⟩ := topOf_le e
    show 0 ≤ max (g.length : Int) (topOf e) ∧ ∀ h ∈ g :: e, (h.length : Int) ≤ max (g.length : Int) (topOf e)
    refine ⟨by omega, fun h hh => ?_⟩
    rcases List.mem_cons.mp hh with z | z
    · rw [z]; omega
    · have := h2 h z
      omega
theorem topOf_mem : ∀ (e : En), e ≠ [] → ∃ h ∈ e, (h.length : Int) = topOf e
  | [], h => absurd rfl h
  | [g], _ => ⟨g, by simp, by show (g.length : Int) = max (g.length : Int) 0; omega⟩
  | g :: g2 :: e, _ => by
    obtain ⟨h, hh, e1⟩ := topOf_mem (g2 :: e) (by simp)
    show ∃ h ∈ g :: g2 :: e, (h.length : Int) = max (g.length : Int) (topOf (g2 :: e))
    by_cases z : topOf (g2 :: e) ≤ (g.length : Int)
    · exact ⟨g, by simp, by omega⟩
    · exact ⟨h, List.mem_cons_of_mem _ hh, by omega⟩
def sqOf (e : En) : Int := (e.map fun h => (h.length : Int) * (h.length : Int)).sum
def emptyOf (e : En) : Int := ((e.countP fun h => decide (h = [])) : Nat)
def lenAt (p : Nat) (e : En) : Int := ((e.getD p []).length : Nat)
end Lr
end

section
set_option Elab.async false
set_option linter.all false
set_option maxRecDepth 100000
set_option maxHeartbeats 4000000
/-! The text's defs; what a def's call promises; statements over data. -/
namespace Lr
open PySem PySem.Spec PyProof.Rows L2
open Evl (Ex EvT)
def topS (i : Nat) : Stmt := PySem.Challenge.pw_lastholders_k23_whole_fair_ends.main.body.getD i (.Pass ⟨0, 0, 0, 0⟩)
/-- what the names of the top hold -/
structure Names (mg : Str → Option Value) : Prop where
  len : mg "len" = none
  min : mg "min" = none
  max : mg "max" = none
  sum : mg "sum" = none
  any : mg "any" = none
  all : mg "all" = none
  list : mg "list" = none
  tuple : mg "tuple" = none
  sorted : mg "sorted" = none
  set : mg "set" = none
  isinstance : mg "isinstance" = none
  range : mg "range" = none
  enumerate : mg "enumerate" = none
  int : mg "int" = none
  bool : mg "bool" = none
  str : mg "str" = none
  mp : ∃ t, mg "MOST_PEOPLE" = some t ∧ RelV (.int 7) t
  mt : ∃ t, mg "MOST_THINGS" = some t ∧ RelV (.int 8) t
/-- a def of the top that can be called -/
structure Kn (P : Program) (w : World) (K : PySem.W.Frag) (mg : Str → Option Value) (base : Heap) (k : Nat) (x : Str) (ps : List Str) (sp : Sp) : Prop where
  ex : ∃ f fd, FnOk P w K mg base CX0 k f fd ps sp ∧ mg x = some (.ref f) ∧ PySem.W.keepIn K (.ref f) = true ∧ Binds K fd ps []
section
variable {X : Cx} {k : Nat} {ps : List Str} {sp : Sp} {x : Str} {e : Expr} {es : List Expr} {t : TA} {p pos : Pos}
theorem pe_fn (G : Kn X.prog X.w X.K X.mg X.base k x ps sp) (hr : Room k X.A) (ha : PA X (e :: es) t) (hg : Gl X x := by rfl) (hdb : (x == ("__debug__" : Str)) = false := by decide) (he : starEach (e :: es) X.env = (false, eval e X.env) :: starEach es X.env := by rfl) (hpl : (backTo pos (starEach es X.env)).any (·.1) = false := by rfl) :
    PE X (.Call (.Name x p) (e :: es) [] pos) (tCall sp [] E0 t) := by
  obtain ⟨f, fd, F, hm, hk, hb⟩ := G.ex
  exact pe_call F hr hg hm hk hb .nil pass0 ha hdb he hpl
theorem pe_const {v : V} (hg : Gl X x) (hm : ∃ t, X.mg x = some t ∧ RelV v t) (hd : (x == ("__debug__" : Str)) = false := by decide) : PE X (.Name x pos) (tC v) := by
  obtain ⟨t, h, r⟩ := hm
  exact pe_glob hg h r hd
end
section
variable {K : PySem.W.Frag} {σ : L2.St} {H H' : Hp} {te ta to : TE} {tt : TT} {tu tw tz : TS} {D : Ends} {d : PyData} {ds : List PyData}
theorem qd_asg {i : Nat} (h : EvD K te σ H d) (k : ∀ v H1, Ex H H1 → Dp K H1 v d → tz D (σ.set i (some v)) H1) : tSeq (tAsg te (gName i)) tz D σ H := h H (Evl.Ex.refl H) _ fun v H1 e dv => k v H1 e dv
theorem qf_asg {i : Nat} (h : EvF K te σ H ds) (k : ∀ p xs H1, H p = none → Ex H H1 → H1 p = some (.lst xs) → DpAll K H1 xs ds → tz D (σ.set i (some (.ref p))) H1) : tSeq (tAsg te (gName i)) tz D σ H := h H (Evl.Ex.refl H) _ fun p xs H1 hp e h1 dx => k p xs H1 hp e h1 dx
theorem sd_asg {i : Nat} (h : EvD K te σ H d) (k : ∀ v H1, Ex H H1 → Dp K H1 v d → D.nx (σ.set i (some v)) H1) : tAsg te (gName i) D σ H := h H (Evl.Ex.refl H) _ fun v H1 e dv => k v H1 e dv
theorem sf_asg {i : Nat} (h : EvF K te σ H ds) (k : ∀ p xs H1, H p = none → Ex H H1 → H1 p = some (.lst xs) → DpAll K H1 xs ds → D.nx (σ.set i (some (.ref p))) H1) : tAsg te (gName i) D σ H := h H (Evl.Ex.refl H) _ fun p xs H1 hp e h1 dx => k p xs H1 hp e h1 dx
theorem sd_ret (h : EvD K te σ H d) (k : ∀ v H1, Ex H H1 → Dp K H1 v d → D.rt v H1) : tRet te D σ H := h H (Evl.Ex.refl H) _ fun v H1 e dv => k v H1 e dv
theorem sf_ret (h : EvF K te σ H ds) (k : ∀ p xs H1, H p = none → Ex H H1 → H1 p = some (.lst xs) → DpAll K H1 xs ds → D.rt (.ref p) H1) : tRet te D σ H := h H (Evl.Ex.refl H) _ fun p xs H1 hp e h1 dx => k p xs H1 hp e h1 dx
/-- xs.append(e) -/
theorem sd_app {i : Nat} {l : Addr} {xs : List V} (hi : σ[i]? = some (some (.ref l))) (hl : H l = some (.lst xs)) (h : EvD K te σ H d) (hz : xs.length < 100000) (k : ∀ v H1, Ex H H1 → Dp K H1 v d → D.nx σ (upd H1 l (.lst (xs ++ [v])))) :
    tDrop (tBM K "list" rAppend (tVar i) (tCons te tNil)) D σ H :=
  ⟨_, hi, .inl ⟨rfl, _, .inl (.inl hl)⟩, h H (Evl.Ex.refl H) _ fun v H1 e dv => ⟨l, xs, v, rfl, rfl, e l _ hl, Evl.sz_lt hz, k v H1 e dv⟩⟩
/-- comprehensions whose target is one name -/
theorem lc_fp {α : Type} {wi : TI} {vs : List Nat} {j : Nat} {l : List α} {enc : α → PyData} {P P' : Hp → V → Prop} {es : List PyData} (f : α → Bool) (G : α → PyData) (src : Src wi (gName j) σ H (wipe σ vs) l (BName K enc P' (wipe σ vs) j)) (hz : l.length ≤ 40000) (sP : Stay P)
    (hw : ∀ x, wipe ((wipe σ vs).set j (some x)) vs = wipe σ vs) (ht : ∀ a ∈ l, ∀ x H1, Ex H H1 → Dp K H1 x (enc a) → P' H1 x → EvT tt ((wipe σ vs).set j (some x)) H1 (f a))
    (he : ∀ a ∈ l, f a = true → ∀ x H1, Ex H H1 → Dp K H1 x (enc a) → P' H1 x → EvDP K te ((wipe σ vs).set j (some x)) H1 (G a) P) (hn : ∀ a, noL (G a) = true) (e : (l.filter f).map G = es) : EvFP K (tLc wi (gName j) tt te vs) σ H es P :=
  e ▸ ef_lc f G src hz sP (fun a H2 σ2 ⟨x, _, _, z⟩ => z ▸ hw x) (fun a ha H1 σ2 e1 ⟨x, dx, px, z⟩ => z ▸ ht a ha x H1 e1 dx px) (fun a ha hf H1 σ2 e1 ⟨x, dx, px, z⟩ => z ▸ he a ha hf x H1 e1 dx px) hn
theorem lc_fp0 {α : Type} {wi : TI} {vs : List Nat} {j : Nat} {l : List α} {enc : α → PyData} {P P' : Hp → V → Prop} {es : List PyData} (G : α → PyData) (src : Src wi (gName j) σ H (wipe σ vs) l (BName K enc P' (wipe σ vs) j)) (hz : l.length ≤ 40000) (sP : Stay P)
    (hw : ∀ x, wipe ((wipe σ vs).set j (some x)) vs = wipe σ vs)
    (he : ∀ a ∈ l, ∀ x H1, Ex H H1 → Dp K H1 x (enc a) → P' H1 x → EvDP K te ((wipe σ vs).set j (some x)) H1 (G a) P) (hn : ∀ a, noL (G a) = true) (e : l.map G = es) : EvFP K (tLc wi (gName j) tYes te vs) σ H es P :=
  e ▸ ef_lc0 G src hz sP (fun a H2 σ2 ⟨x, _, _, z⟩ => z ▸ hw x) (fun a ha H1 σ2 e1 ⟨x, dx, px, z⟩ => z ▸ he a ha x H1 e1 dx px) hn
theorem lc_f {α : Type} {wi : TI} {vs : List Nat} {j : Nat} {l : List α} {enc : α → PyData} {P' : Hp → V → Prop} {es : List PyData} (f : α → Bool) (G : α → PyData) (src : Src wi (gName j) σ H (wipe σ vs) l (BName K enc P' (wipe σ vs) j)) (hz : l.length ≤ 40000)
    (hw : ∀ x, wipe ((wipe σ vs).set j (some x)) vs = wipe σ vs) (ht : ∀ a ∈ l, ∀ x H1, Ex H H1 → Dp K H1 x (enc a) → P' H1 x → EvT tt ((wipe σ vs).set j (some x)) H1 (f a))
    (he : ∀ a ∈ l, f a = true → ∀ x H1, Ex H H1 → Dp K H1 x (enc a) → P' H1 x → EvD K te ((wipe σ vs).set j (some x)) H1 (G a)) (hn : ∀ a, noL (G a) = true) (e : (l.filter f).map G = es) : EvF K (tLc wi (gName j) tt te vs) σ H es :=
  (lc_fp f G src hz stay_any hw ht (fun a ha hf x H1 e1 dx px => (he a ha hf x H1 e1 dx px).any) hn e).f
theorem lc_f0 {α : Type} {wi : TI} {vs : List Nat} {j : Nat} {l : List α} {enc : α → PyData} {P' : Hp → V → Prop} {es : List PyData} (G : α → PyData) (src : Src wi (gName j) σ H (wipe σ vs) l (BName K enc P' (wipe σ vs) j)) (hz : l.length ≤ 40000)
    (hw : ∀ x, wipe ((wipe σ vs).set j (some x)) vs = wipe σ vs)
    (he : ∀ a ∈ l, ∀ x H1, Ex H H1 → Dp K H1 x (enc a) → P' H1 x → EvD K te ((wipe σ vs).set j (some x)) H1 (G a)) (hn : ∀ a, noL (G a) = true) (e : l.map G = es) : EvF K (tLc wi (gName j) tYes te vs) σ H es :=
  (lc_fp0 G src hz stay_any hw (fun a ha x H1 e1 dx px => (he a ha x H1 e1 dx px).any) hn e).f
theorem lc_d {α : Type} {wi : TI} {vs : List Nat} {j : Nat} {l : List α} {enc : α → PyData} {P' : Hp → V → Prop} {es : List PyData} (f : α → Bool) (G : α → PyData) (src : Src wi (gName j) σ H (wipe σ vs) l (BName K enc P' (wipe σ vs) j)) (hz : l.length ≤ 40000)
    (hw : ∀ x, wipe ((wipe σ vs).set j (some x)) vs = wipe σ vs) (ht : ∀ a ∈ l, ∀ x H1, Ex H H1 → Dp K H1 x (enc a) → P' H1 x → EvT tt ((wipe σ vs).set j (some x)) H1 (f a))
    (he : ∀ a ∈ l, f a = true → ∀ x H1, Ex H H1 → Dp K H1 x (enc a) → P' H1 x → EvD K te ((wipe σ vs).set j (some x)) H1 (G a)) (hn : ∀ a, noL (G a) = true) (e : (l.filter f).map G = es) : EvD K (tLc wi (gName j) tt te vs) σ H (.list es) :=
  (lc_f f G src hz hw ht he hn e).evd
theorem lc_d0 {α : Type} {wi : TI} {vs : List Nat} {j : Nat} {l : List α} {enc : α → PyData} {P' : Hp → V → Prop} {es : List PyData} (G : α → PyData) (src : Src wi (gName j) σ H (wipe σ vs) l (BName K enc P' (wipe σ vs) j)) (hz : l.length ≤ 40000)
    (hw : ∀ x, wipe ((wipe σ vs).set j (some x)) vs = wipe σ vs)
    (he : ∀ a ∈ l, ∀ x H1, Ex H H1 → Dp K H1 x (enc a) → P' H1 x → EvD K te ((wipe σ vs).set j (some x)) H1 (G a)) (hn : ∀ a, noL (G a) = true) (e : l.map G = es) : EvD K (tLc wi (gName j) tYes te vs) σ H (.list es) :=
  (lc_f0 G src hz hw he hn e).evd
theorem lc_fe {α : Type} {ar : TA} {vs : List Nat} {i j : Nat} {l : List α} {enc : α → PyData} {es : List PyData} (f : α × Nat → Bool) (G : α × Nat → PyData) (src : EvAD K ar σ H [.tuple (l.map enc)]) (hz : l.length ≤ 40000)
    (hw : ∀ k x, wipe (((wipe σ vs).set i (some (.int k))).set j (some x)) vs = wipe σ vs) (ht : ∀ a ∈ l.zipIdx, ∀ x H1, Ex H H1 → Dp K H1 x (enc a.1) → EvT tt (((wipe σ vs).set i (some (.int (a.2 : Nat)))).set j (some x)) H1 (f a))
    (he : ∀ a ∈ l.zipIdx, f a = true → ∀ x H1, Ex H H1 → Dp K H1 x (enc a.1) → EvD K te (((wipe σ vs).set i (some (.int (a.2 : Nat)))).set j (some x)) H1 (G a)) (hn : ∀ a, noL (G a) = true) (e : (l.zipIdx.filter f).map G = es) :
    EvF K (tLc (iEnumT K ar) (gTup K 2 (gCons (gName i) (gCons (gName j) gNil))) tt te vs) σ H es :=
  (e ▸ ef_lc f G (src_enum src) (by rw [List.length_zipIdx]; exact hz) stay_any (fun a H2 σ2 ⟨x, _, z⟩ => z ▸ hw _ x) (fun a ha H1 σ2 e1 ⟨x, dx, z⟩ => z ▸ ht a ha x H1 e1 dx) (fun a ha hf H1 σ2 e1 ⟨x, dx, z⟩ => z ▸ (he a ha hf x H1 e1 dx).any) hn : EvFP K _ σ H es Any).f
/-- a for over anything that stands in S -/
theorem for_W {α : Type} {J : It} {g : TG} {S : Hp} {l : List α} {B : L2.St → α → Hp → L2.St → Prop} {tb : TS} (wk : ∀ σ0, Wk J g S σ0 l (B σ0)) (Pv : Nat → L2.St → Hp → Prop) (h0 : Pv 0 σ H) (hS : ∀ i σ' H', Pv i σ' H' → Ex S H')
    (hs : ∀ i b σ1 H1 σ2 H2, l[i]? = some b → Pv i σ1 H1 → Ex H1 H2 → B σ1 b H2 σ2 → tb { D with nx := Pv (i + 1), ct := Pv (i + 1), bk := D.nx } σ2 H2) (hd : ∀ σ' H', Pv l.length σ' H' → D.nx σ' H') : ∃ W : Nat → Nat → L2.St → Hp → Prop, (∃ m, W 0 m σ H) ∧ ∀ i m σ H, W i m σ H →
      (J.stop i H ∧ D.nx σ H) ∨ (J.go i H ∧ ∃ N : L2.St → Hp → Prop, (∀ σ' H', N σ' H' → ∃ m', m' < m ∧ W (i + 1) m' σ' H') ∧ ∀ x H', J.yld i H x H' → g x σ H' fun σ2 H2 => tb { D with nx := N, ct := N, bk := D.nx } σ2 H2) := by
  refine ⟨fun i m σ' H' => m = l.length - i ∧ i ≤ l.length ∧ Pv i σ' H', ⟨l.length, by simp, Nat.zero_le _, h0⟩, ?_⟩
  rintro i m σ1 H1 ⟨rfl, hi, pv1⟩
  have e1 := hS i σ1 H1 pv1
  by_cases hlt : i < l.length
  · refine .inr ⟨(wk σ1).go i H1 hlt e1, Pv (i + 1), fun σ2 H2 p2 => ⟨l.length - (i + 1), by omega, rfl, by omega, p2⟩, fun x H2 y => ?_⟩
    exact (wk σ1).turn i l[i] H1 x H2 (List.getElem?_eq_getElem hlt) e1 y _ fun σ2 H3 e3 b => hs i l[i] σ1 H1 σ2 H3 (List.getElem?_eq_getElem hlt) pv1 e3 b
  · have ei : i = l.length := by omega
    subst ei
    exact .inl ⟨(wk σ1).stop H1 e1, hd σ1 H1 pv1⟩
/-- a for over a list that stands in S -/
theorem for_S {α : Type} {a : Addr} {xs : List V} {S : Hp} {l : List α} {enc : α → PyData} {P : Hp → V → Prop} {j : Nat} {tb : TS} (hx : SqL K S a xs) (dx : DpAll K S xs (l.map enc)) (px : ∀ x ∈ xs, P S x) (sP : Stay P) (Pv : Nat → L2.St → Hp → Prop) (h0 : Pv 0 σ H)
    (hS : ∀ i σ' H', Pv i σ' H' → Ex S H') (hs : ∀ i b x σ' H', l[i]? = some b → Pv i σ' H' → Dp K H' x (enc b) → P H' x → tb { D with nx := Pv (i + 1), ct := Pv (i + 1), bk := D.nx } (σ'.set j (some x)) H')
    (hd : ∀ σ' H', Pv l.length σ' H' → D.nx σ' H') : ∃ W : Nat → Nat → L2.St → Hp → Prop, (∃ m, W 0 m σ H) ∧ ∀ i m σ H, W i m σ H →
      ((Itl K a).stop i H ∧ D.nx σ H) ∨ ((Itl K a).go i H ∧ ∃ N : L2.St → Hp → Prop, (∀ σ' H', N σ' H' → ∃ m', m' < m ∧ W (i + 1) m' σ' H') ∧ ∀ x H', (Itl K a).yld i H x H' → gName j x σ H' fun σ2 H2 => tb { D with nx := N, ct := N, bk := D.nx } σ2 H2) := by
  have len : xs.length = l.length := by rw [dpAll_len dx, List.length_map]
  refine ⟨fun i m σ' H' => m = l.length - i ∧ i ≤ l.length ∧ Pv i σ' H', ⟨l.length, by simp, Nat.zero_le _, h0⟩, ?_⟩
  rintro i m σ1 H1 ⟨rfl, hi, pv1⟩
  have e1 := hS i σ1 H1 pv1
  by_cases hlt : i < l.length
  · have hlx : i < xs.length := by omega
    refine .inr ⟨⟨xs, xs[i], Evl.ex_l e1 hx, by simp [hlx]⟩, Pv (i + 1), fun σ2 H2 p2 => ?_, fun x H2 y => ?_⟩
    · exact ⟨l.length - (i + 1), by omega, rfl, by omega, p2⟩
    · obtain ⟨rfl, hv⟩ := y
      have hv := hv xs (Evl.ex_l e1 hx)
      obtain ⟨d, hd', dd⟩ := dpAll_at dx hv
      have hb : l[i]? = some l[i] := List.getElem?_eq_getElem hlt
      rw [List.getElem?_map, hb] at hd'
      have ed : d = enc l[i] := (Option.some.inj hd').symm
      subst ed
      exact hs i l[i] x σ1 H2 hb pv1 (Ex.dp e1 dd) (sP.mono e1 (px x (List.mem_of_getElem? hv)))
  · have ei : i = l.length := by omega
    subst ei
    exact .inl ⟨⟨xs, Evl.ex_l e1 hx, by omega⟩, hd σ1 H1 pv1⟩
/-- a for over range(n) -/
theorem tfor_rng {ar : TA} {g : TG} {tb : TS} {n : Nat} (h : EvAD K ar σ H [.int (n : Int)]) (hn : n ≤ 1000) (k : ∀ H1, Ex H H1 → ∃ W : Nat → Nat → L2.St → Hp → Prop, (∃ m, W 0 m σ H1) ∧ ∀ i m σ H, W i m σ H →
      ((Itr 0 n).stop i H ∧ D.nx σ H) ∨ ((Itr 0 n).go i H ∧ ∃ N : L2.St → Hp → Prop, (∀ σ' H', N σ' H' → ∃ m', m' < m ∧ W (i + 1) m' σ' H') ∧ ∀ x H', (Itr 0 n).yld i H x H' → g x σ H' fun σ2 H2 => tb { D with nx := N, ct := N, bk := D.nx } σ2 H2)) :
    tFor (iRng1 ar) g tb D σ H := h H (Evl.Ex.refl H) _ fun vs H2 e2 dv => by
  cases dv with
  | cons dn r =>
  cases r
  cases dn
  exact ⟨n, rfl, by omega, by omega, k H2 e2⟩
theorem mem_range_at {n i : Nat} {b : Int} (hb : ((List.range n).map fun p : Nat => (p : Int))[i]? = some b) : i < n ∧ b = (i : Int) := by
  rw [List.getElem?_map] at hb
  cases hr : (List.range n)[i]? with
  | none => rw [hr] at hb; cases hb
  | some p =>
    rw [hr] at hb
    obtain ⟨h2, h3⟩ := List.getElem?_eq_some_iff.mp hr
    rw [List.getElem_range] at h3
    have h4 : (p : Int) = b := Option.some.inj hb
    rw [List.length_range] at h2
    exact ⟨h2, by omega⟩
end
end Lr
end

section
set_option Elab.async false
set_option linter.all false
set_option maxRecDepth 100000
set_option maxHeartbeats 4000000
/-! The checks, the hands. -/
namespace Lr
open PySem PySem.Spec PyProof.Rows L2
open Evl (Ex EvT)
abbrev st_is_integer : Stmt := topS 1
theorem sc_is_integer : FnScope ["value"] ["value"] (defScope st_is_integer) := ⟨rfl, rfl, rfl, by decide +kernel, rfl, by decide +kernel, by decide +kernel⟩
abbrev st_is_in : Stmt := topS 2
theorem sc_is_in : FnScope ["value", "least", "most"] ["value", "least", "most"] (defScope st_is_in) := ⟨rfl, rfl, rfl, by decide +kernel, rfl, by decide +kernel, by decide +kernel⟩
abbrev st_is_list : Stmt := topS 3
theorem sc_is_list : FnScope ["value", "least", "most"] ["value", "least", "most"] (defScope st_is_list) := ⟨rfl, rfl, rfl, by decide +kernel, rfl, by decide +kernel, by decide +kernel⟩
abbrev st_is_hand : Stmt := topS 11
theorem sc_is_hand : FnScope ["value", "thing"] ["value"] (defScope st_is_hand) := ⟨rfl, rfl, rfl, by decide +kernel, rfl, by decide +kernel, by decide +kernel⟩
abbrev st_need_hands : Stmt := topS 12
theorem sc_need_hands : FnScope ["hands", "index", "hand"] ["hands"] (defScope st_need_hands) := ⟨rfl, rfl, rfl, by decide +kernel, rfl, by decide +kernel, by decide +kernel⟩
abbrev st_need_person : Stmt := topS 13
theorem sc_need_person : FnScope ["hands", "person"] ["hands", "person"] (defScope st_need_person) := ⟨rfl, rfl, rfl, by decide +kernel, rfl, by decide +kernel, by decide +kernel⟩
abbrev st_things_in : Stmt := topS 14
theorem sc_things_in : FnScope ["hands", "hand", "thing"] ["hands"] (defScope st_things_in) := ⟨rfl, rfl, rfl, by decide +kernel, rfl, by decide +kernel, by decide +kernel⟩
abbrev st_holders_in : Stmt := topS 15
theorem sc_holders_in : FnScope ["hands", "thing", "person", "hand"] ["hands", "thing"] (defScope st_holders_in) := ⟨rfl, rfl, rfl, by decide +kernel, rfl, by decide +kernel, by decide +kernel⟩
/-- a hand in order -/
structure OkH (h : List Int) : Prop where
  asc : h.Pairwise (· < ·)
  low : ∀ x ∈ h, 0 ≤ x ∧ x ≤ 5
/-- hands that the law gives -/
structure OkS (S : List (List Int)) : Prop where
  lo : 1 ≤ S.length
  hi : S.length ≤ 5
  all : ∀ h ∈ S, OkH h
theorem upTo_asc (n : Nat) : (Lh.upTo n).Pairwise (· < ·) := by
  unfold Lh.upTo
  rw [List.pairwise_map]
  exact List.pairwise_lt_range.imp fun h => by omega
theorem ascOf_asc (l : List Int) : (Lh.ascOf l).Pairwise (· < ·) := (upTo_asc 8).filter _
theorem OkH.is {h : List Int} (o : OkH h) : h = Lh.ascOf h := asc_one o.asc (ascOf_asc h) fun x => by
  rw [Lh.mem_ascOf]
  exact ⟨fun m => ⟨m, (o.low x m).1, by have := (o.low x m).2; omega⟩, fun m => m.1⟩
theorem OkH.len {h : List Int} (o : OkH h) : h.length ≤ 8 := by
  rw [o.is]
  exact Lh.ascOf_len h
theorem flat_le : ∀ (S : List (List Int)), (∀ h ∈ S, OkH h) → S.flatten.length ≤ S.length * 8
  | [], _ => by simp
  | h :: S, o => by
    have h1 := (o h List.mem_cons_self).len
    have h2 := flat_le S fun g hg => o g (List.mem_cons_of_mem _ hg)
    simp only [List.flatten_cons, List.length_append, List.length_cons]
    omega
theorem flat_len {S : List (List Int)} (o : OkS S) : S.flatten.length < 64 := by
  have := flat_le S o.all
  have := o.hi
  omega
theorem range_zip {S : List (List Int)} {t : Int} : ∀ (T : List (List Int)) (n : Nat), (∀ i, T[i]? = S[n + i]?) → n + T.length = S.length →
    ((List.range' n T.length).filter fun p : Nat => (S.getD p []).contains t) = ((T.zipIdx n).filter fun a => a.1.contains t).map (·.2)
  | [], _, _, _ => rfl
  | h :: T, n, e, l => by
    have e0 : S.getD n [] = h := by
      have := e 0
      rw [List.getElem?_cons_zero, Nat.add_zero] at this
      rw [List.getD_eq_getElem?_getD, ← this]
      rfl
    have ih := range_zip (S := S) (t := t) T (n + 1) (fun i => by
      have := e (i + 1)
      rw [List.getElem?_cons_succ] at this
      rw [this]
      congr 1
      omega) (by rw [List.length_cons] at l; omega)
    rw [List.length_cons, List.range'_succ, List.zipIdx_cons, List.filter_cons, List.filter_cons, e0]
    cases hc : h.contains t with
    | true => simp only [if_true, List.map_cons]; rw [ih]
    | false =>
      simp only [Bool.false_eq_true, if_false]
      exact ih
theorem holders_zip (S : List (List Int)) (t : Int) : Lh.holders S t = (S.zipIdx.filter fun a => a.1.contains t).map fun a => (a.2 : Int) := by
  unfold Lh.holders
  rw [List.range_eq_range', range_zip S 0 (fun i => by rw [Nat.zero_add]) (by omega), List.map_map]
  rfl
section
variable {P : Program} {w : World} {K : PySem.W.Frag} {mg : Str → Option Value} {base : Heap} {f : Addr} {fd : FuncData}
/-- is_integer(value) -/
def rIsInteger (ds : List PyData) (d : PyData) : Prop := ∃ i : Int, ds = [.int i] ∧ d = .bool true
theorem ok_is_integer (F : Fun K "is_integer" "is_integer" st_is_integer f fd) (B : Names mg) : FnOk P w K mg base CX0 1 f fd ["value"] (spR K rIsInteger) := by
  refine F.ok sc_is_integer (fun vs H Q E h => ?_) (fun cdv A outer s H vs Q E hr h => ?_)
  · obtain ⟨ds, d, dv, ⟨i, rfl, _⟩, _⟩ := h
    exact dpAll_len dv
  · obtain ⟨ds, d, dv, ⟨i, rfl, rfl⟩, q⟩ := h
    refine ⟨_, (pss_one (ps_ret (pe_and (pe_callB call_isi (by rfl) B.isinstance (by decide +kernel) (pa_cons (pv 0) (pa_cons (pe_bltn (v := .ty "int") (by rfl) B.int (by decide +kernel) rfl) pa_nil))) (pe_one (pe_not (pe_callB call_isi (by rfl) B.isinstance (by decide +kernel) (pa_cons (pv 0) (pa_cons (pe_bltn (v := .ty "bool") (by rfl) B.bool (by decide +kernel) rfl) pa_nil)))))))), ?_⟩
    cases dv with
    | cons a b =>
    cases b
    refine sd_ret (d := .bool true) ?_ fun v H1 e1 dv => q v H1 e1 dv
    exact ed_andV (a := true) (b := true) (ed_isi (b := true) (ed_var rfl a) (show kitB "int" "int" = some true by decide +kernel)) fun _ => ed_notV (a := false) (ed_isi (b := false) (ed_var rfl a) (show kitB "int" "bool" = some false by decide +kernel))
/-- is_in(value, least, most) -/
def rIsIn (ds : List PyData) (d : PyData) : Prop := ∃ i a b : Int, ds = [.int i, .int a, .int b] ∧ d = .bool (decide (a ≤ i) && decide (i ≤ b))
theorem ok_is_in (F : Fun K "is_in" "is_in" st_is_in f fd) (B : Names mg) (G_is_integer : Kn P w K mg base 1 "is_integer" ["value"] (spR K rIsInteger)) : FnOk P w K mg base CX0 2 f fd ["value", "least", "most"] (spR K rIsIn) := by
  refine F.ok sc_is_in (fun vs H Q E h => ?_) (fun cdv A outer s H vs Q E hr h => ?_)
  · obtain ⟨ds, d, dv, ⟨i, a, b, rfl, _⟩, _⟩ := h
    exact dpAll_len dv
  · obtain ⟨ds, d, dv, ⟨i, a, b, rfl, rfl⟩, q⟩ := h
    refine ⟨_, (pss_one (ps_ret (pe_and (pe_fn G_is_integer hr (pa_cons (pv 0) pa_nil)) (pe_one (pe_chain op_le op_le (pv 1) (pv 0) (pv 2)))))), ?_⟩
    cases dv with
    | cons di r =>
    cases r with
    | cons da r =>
    cases r with
    | cons db r =>
    cases r
    refine sd_ret ?_ fun v H1 e1 dv => q v H1 e1 dv
    exact (ed_andV (a := true) (ed_call (ead_one (ed_var rfl di)) ⟨i, rfl, rfl⟩) fun _ => ed_chain (ed_var rfl da) (ed_var rfl di) (ed_var rfl db)).is (by rw [Bool.true_and])
/-- is_list(value, least, most) -/
def rIsList (ds : List PyData) (d : PyData) : Prop := ∃ (xs : List PyData) (a b : Int), ds = [.tuple xs, .int a, .int b] ∧ d = .bool (decide (a ≤ xs.length) && decide ((xs.length : Int) ≤ b))
theorem ok_is_list (F : Fun K "is_list" "is_list" st_is_list f fd) (B : Names mg) : FnOk P w K mg base CX0 1 f fd ["value", "least", "most"] (spR K rIsList) := by
  refine F.ok sc_is_list (fun vs H Q E h => ?_) (fun cdv A outer s H vs Q E hr h => ?_)
  · obtain ⟨ds, d, dv, ⟨i, a, b, rfl, _⟩, _⟩ := h
    exact dpAll_len dv
  · obtain ⟨ds, d, dv, ⟨xs, a, b, rfl, rfl⟩, q⟩ := h
    refine ⟨_, (pss_one (ps_ret (pe_and (pe_callB call_isi (by rfl) B.isinstance (by decide +kernel) (pa_cons (pv 0) (pa_cons (pe_bltn (v := .ty "tuple") (by rfl) B.tuple (by decide +kernel) rfl) pa_nil))) (pe_one (pe_chain op_le op_le (pv 1) (pe_callB call_len_seq (by rfl) B.len (by decide +kernel) (pa_cons (pv 0) pa_nil)) (pv 2)))))), ?_⟩
    cases dv with
    | cons di r =>
    cases r with
    | cons da r =>
    cases r with
    | cons db r =>
    cases r
    refine sd_ret ?_ fun v H1 e1 dv => q v H1 e1 dv
    exact (ed_andV (a := true) (ed_isi (ed_var rfl di) (show kitB "tuple" "tuple" = some true by decide +kernel)) fun _ => ed_chain (ed_var rfl da) (ed_lenT (ed_var rfl di)) (ed_var rfl db)).is (by rw [Bool.true_and])
/-- is_hand(value) of a hand in order -/
def rIsHand (ds : List PyData) (d : PyData) : Prop := ∃ h, OkH h ∧ ds = [encH h] ∧ d = .bool true
theorem ok_is_hand (F : Fun K "is_hand" "is_hand" st_is_hand f fd) (B : Names mg) (G_is_list : Kn P w K mg base 1 "is_list" ["value", "least", "most"] (spR K rIsList)) (G_is_in : Kn P w K mg base 2 "is_in" ["value", "least", "most"] (spR K rIsIn)) :
    FnOk P w K mg base CX0 3 f fd ["value"] (spR K rIsHand) := by
  refine F.ok sc_is_hand (fun vs H Q E h => ?_) (fun cdv A outer s H vs Q E hr h => ?_)
  · obtain ⟨ds, d, dv, ⟨i, _, rfl, _⟩, _⟩ := h
    exact dpAll_len dv
  · obtain ⟨ds, d, dv, ⟨h, oh, rfl, rfl⟩, q⟩ := h
    refine ⟨_, (pss_cons (ps_if (PW.pt (pw_or (pt_not (pt_val (pe_fn G_is_list (hr.mono (by decide)) (pa_cons (pv 0) (pa_cons pe_int (pa_cons (pe_const rfl B.mt) pa_nil)))))) (pw_or1 (pt_not (pt_val (pe_callB (cr_all rfl) (by rfl) B.all (by decide +kernel) (pa_cons (pe_lc (own := [("thing", 1)]) (wi := (iTup K (tVar 0))) (g := (gName 1)) (te := (tCall (spR K rIsIn) [] E0 (tCons (tVar 1) (tCons (tC (V.int 0)) (tCons (tOp (rI0 fun i j => V.int (i - j)) (tC (V.int 8)) (tC (V.int 1))) tNil))))) (tt := tYes) rfl sc_is_hand.nd (pi_tup (pv 0)) (blkOk_by (by rfl)) (fun _ _ _ _ _ => (pg_name (i := 1) sc_is_hand.nd rfl (by first | exact Or.inl rfl | exact Or.inr rfl))) (fun _ _ _ _ _ => pts_nil) (fun _ _ _ _ _ => (pe_fn G_is_in hr (pa_cons (pv 1) (pa_cons pe_int (pa_cons (pe_op op_sub (pe_const rfl B.mt) pe_int) pa_nil)))))) pa_nil))))))) (pss_one (ps_ret pe_bl)) pss_nil) (pss_one (ps_ret (pe_cmpR (op_eqD hr.units) (pe_callTy call_list_of (by rfl) B.list (by decide +kernel) (pa_cons (pv 0) pa_nil)) (pe_callB (cr_sortedSet rfl) (by rfl) B.sorted (by decide +kernel) (pa_cons (pe_callTy (cr_setI rfl) (by rfl) B.set (by decide +kernel) (pa_cons (pv 0) pa_nil)) pa_nil)) (nomark _))))), ?_⟩
    cases dv with
    | cons dh r =>
    cases r
    have hl := oh.len
    refine Evl.q_when (b := false) (Evl.et_or (a := false) (b := false) (Evl.et_not (a := true) (et_B (K := K) (EvD.is (ed_call (ead_cons (ed_var rfl dh) (ead_cons ed_int (ead_one ed_int))) ⟨_, _, _, rfl, rfl⟩) ?_))) fun _ => Evl.et_not (a := true) (et_B (K := K) ?_)) (fun z => by cases z) fun _ H1 e1 => ?_
    · rw [List.length_map]
      have h1 : decide ((0 : Int) ≤ (h.length : Nat)) = true := decide_eq_true (by omega)
      have h2 : decide (((h.length : Nat) : Int) ≤ 8) = true := decide_eq_true (by omega)
      rw [h1, h2]
      rfl
    · refine EvD.is (ed_all (bs := h.map fun _ => true) (lc_d0 (enc := PyData.int) (fun _ => .bool true) (src_tup (l := h) (ed_var rfl dh)) (by omega) (fun _ => rfl) (fun x hx v H1 e1 dv _ => ?_) (fun _ => rfl) ?_)) ?_
      · refine EvD.is (ed_call (ead_cons (ed_var rfl dv) (ead_cons ed_int (ead_one (ed_I0 (g := fun i j => .int (i - j)) ed_int ed_int fun _ => .int _)))) ⟨_, _, _, rfl, rfl⟩) ?_
        obtain ⟨h1, h2⟩ := oh.low x hx
        rw [decide_eq_true h1, decide_eq_true (show x ≤ 8 - 1 by omega)]
        rfl
      · rw [List.map_map]
        rfl
      · rw [List.all_map]
        exact congrArg _ (List.all_eq_true.mpr fun _ _ => rfl)
    · refine sd_ret (d := .bool true) ?_ fun v H2 e2 dv => q v H2 (e1.trans e2) dv
      have dh1 := Ex.dp e1 dh
      refine (ed_eq (ef_list (ed_var rfl dh1)).evd (ef_sortedSet (ed_var rfl dh1) (.inr rfl) (by omega) oh.asc fun x => Iff.rfl).evd ?_ ?_).is ?_
      · exact shaped_ints h
      · exact shaped_ints h
      · rw [eqv_ints, decide_eq_true rfl]
/-- need_hands(hands) of hands in order -/
def rNeedHands (ds : List PyData) (d : PyData) : Prop := ∃ S, OkS S ∧ ds = [encE S] ∧ d = .none
theorem ok_need_hands (F : Fun K "need_hands" "need_hands" st_need_hands f fd) (B : Names mg) (G_is_list : Kn P w K mg base 1 "is_list" ["value", "least", "most"] (spR K rIsList)) (G_is_hand : Kn P w K mg base 3 "is_hand" ["value"] (spR K rIsHand)) :
    FnOk P w K mg base CX0 4 f fd ["hands"] (spR K rNeedHands) := by
  refine F.ok sc_need_hands (fun vs H Q E h => ?_) (fun cdv A outer s H vs Q E hr h => ?_)
  · obtain ⟨ds, d, dv, ⟨i, _, rfl, _⟩, _⟩ := h
    exact dpAll_len dv
  · obtain ⟨ds, d, dv, ⟨S, oS, rfl, rfl⟩, q⟩ := h
    refine ⟨_, (pss_cons (ps_if (pt_not (pt_val (pe_fn G_is_list (hr.mono (by decide)) (pa_cons (pv 0) (pa_cons pe_int (pa_cons (pe_const rfl B.mp) pa_nil)))))) (pss_one ps_never) pss_nil) (pss_one (ps_for PassesOwn.never rfl (pi_enumT (by rfl) B.enumerate (pa_cons (pv 0) pa_nil)) (pg_tup (by rfl) (pgs_cons (pg_name (i := 1) sc_need_hands.nd rfl (by first | exact Or.inl rfl | exact Or.inr rfl)) (pgs_cons (pg_name (i := 2) sc_need_hands.nd rfl (by first | exact Or.inl rfl | exact Or.inr rfl)) pgs_nil))) (pss_one (ps_if (pt_not (pt_val (pe_fn G_is_hand hr (pa_cons (pv 2) pa_nil)))) (pss_one ps_never) pss_nil))))), ?_⟩
    cases dv with
    | @cons v _ _ _ dS r =>
    cases r
    have h1 := oS.lo
    have h2 := oS.hi
    refine Evl.q_when (b := false) (Evl.et_not (a := true) (et_B (K := K) (EvD.is (ed_call (ead_cons (ed_var rfl dS) (ead_cons ed_int (ead_one ed_int))) ⟨_, _, _, rfl, rfl⟩) ?_))) (fun z => by cases z) fun _ H1 e1 => ?_
    · rw [List.length_map]
      have h1 : decide ((1 : Int) ≤ (S.length : Nat)) = true := decide_eq_true (by omega)
      have h2 : decide (((S.length : Nat) : Int) ≤ 7) = true := decide_eq_true (by omega)
      rw [h1, h2]
      rfl
    · have dS1 := Ex.dp e1 dS
      cases dS1 with
      | @tup a xs _ hx dx =>
      refine ⟨_, rfl, a, xs, rfl, hx, ?_⟩
      refine for_W (S := H1) (fun σ0 => wk_enum hx dx) (fun i σ' H' => (∃ y z, σ' = [some (.ref a), y, z]) ∧ Ex H1 H') ⟨⟨_, _, rfl⟩, Evl.Ex.refl _⟩ (fun i σ' H' p => p.2) (fun i b σ1 H2 σ2 H3 hb p e3 bb => ?_) (fun σ' H' p => ?_)
      · obtain ⟨⟨y, z, rfl⟩, e2⟩ := p
        obtain ⟨x, dx, rfl⟩ := bb
        have hm : b.1 ∈ S := by
          rw [List.getElem?_zipIdx] at hb
          cases hl : S[i]? with
          | none => rw [hl] at hb; cases hb
          | some c =>
            rw [hl] at hb
            have eb : (c, 0 + i) = b := Option.some.inj hb
            subst eb
            exact List.mem_of_getElem? hl
        refine Evl.s_when (b := false) (Evl.et_not (a := true) (et_B (K := K) (ed_call (ead_one (ed_var rfl dx)) ⟨b.1, oS.all _ hm, rfl, rfl⟩))) (fun z => by cases z) fun _ H4 e4 => ?_
        exact ⟨⟨_, _, rfl⟩, (e2.trans e3).trans e4⟩
      · exact q _ H' (e1.trans p.2) .non
/-- need_person(hands, person) -/
def rNeedPerson (ds : List PyData) (d : PyData) : Prop := ∃ (S : List (List Int)) (p : Int), 0 ≤ p ∧ p < S.length ∧ ds = [encE S, .int p] ∧ d = .none
theorem ok_need_person (F : Fun K "need_person" "need_person" st_need_person f fd) (B : Names mg) (G_is_in : Kn P w K mg base 2 "is_in" ["value", "least", "most"] (spR K rIsIn)) :
    FnOk P w K mg base CX0 3 f fd ["hands", "person"] (spR K rNeedPerson) := by
  refine F.ok sc_need_person (fun vs H Q E h => ?_) (fun cdv A outer s H vs Q E hr h => ?_)
  · obtain ⟨ds, d, dv, ⟨i, _, _, _, rfl, _⟩, _⟩ := h
    exact dpAll_len dv
  · obtain ⟨ds, d, dv, ⟨S, p, h1, h2, rfl, rfl⟩, q⟩ := h
    refine ⟨_, (pss_one (ps_if (pt_not (pt_val (pe_fn G_is_in hr (pa_cons (pv 1) (pa_cons pe_int (pa_cons (pe_op op_sub (pe_callB call_len_seq (by rfl) B.len (by decide +kernel) (pa_cons (pv 0) pa_nil)) pe_int) pa_nil)))))) (pss_one ps_never) pss_nil)), ?_⟩
    cases dv with
    | cons dS r =>
    cases r with
    | cons dp r =>
    cases r
    refine Evl.s_when (b := false) (Evl.et_not (a := true) (et_B (K := K) (EvD.is (ed_call (ead_cons (ed_var rfl dp) (ead_cons ed_int (ead_one (ed_I0 (g := fun i j => .int (i - j)) (ed_lenT (ed_var rfl dS)) ed_int fun _ => .int _)))) ⟨_, _, _, rfl, rfl⟩) ?_))) (fun z => by cases z) fun _ H1 e1 => q _ H1 e1 .non
    rw [List.length_map, decide_eq_true h1, decide_eq_true (show p ≤ ((S.length : Nat) : Int) - 1 by omega)]
    rfl
/-- things_in(hands) -/
def rThingsIn (ds es : List PyData) : Prop := ∃ S, OkS S ∧ ds = [encE S] ∧ es = (Lh.things S).map .int
theorem ok_things_in (F : Fun K "things_in" "things_in" st_things_in f fd) (B : Names mg) : FnOk P w K mg base CX0 1 f fd ["hands"] (spN K rThingsIn) := by
  refine F.ok sc_things_in (fun vs H Q E h => ?_) (fun cdv A outer s H vs Q E hr h => ?_)
  · obtain ⟨ds, d, dv, ⟨i, _, rfl, _⟩, _⟩ := h
    exact dpAll_len dv
  · obtain ⟨ds, es, dv, ⟨S, oS, rfl, rfl⟩, q⟩ := h
    refine ⟨_, (pss_one (ps_ret (pe_callB (cr_sortedSet rfl) (by rfl) B.sorted (by decide +kernel) (pa_cons (pe_callTy (cr_setI rfl) (by rfl) B.set (by decide +kernel) (pa_cons (pe_lc2 (own := [("hand", 1), ("thing", 2)]) (vs1 := [2]) (wi := (iTup K (tVar 0))) (g := (gName 1)) (te := (tVar 2)) (wi1 := (iTup K (tVar 1))) (g1 := (gName 2)) (tt := tYes) (tt1 := tYes) rfl sc_things_in.nd (pi_tup (pv 0)) (blkOk_by (by rfl)) (by decide) (fun _ _ _ _ _ => (pg_name (i := 1) sc_things_in.nd rfl (by first | exact Or.inl rfl | exact Or.inr rfl))) (fun _ _ _ _ _ => pts_nil) (fun _ _ _ _ _ => (pi_tup (pv 1))) (fun _ _ _ _ _ => (pg_name (i := 2) sc_things_in.nd rfl (by first | exact Or.inl rfl | exact Or.inr rfl))) (fun _ _ _ _ _ => pts_nil) (fun _ _ _ _ _ => (pv 2))) pa_nil)) pa_nil)))), ?_⟩
    cases dv with
    | cons dS r =>
    cases r
    refine sf_ret ?_ fun p xs H1 hp e1 h1 dx => q p xs H1 hp e1 h1 dx
    refine ef_sortedSet (ns := S.flatten) (ef_flat (l := S) (src_tup (enc := encH) (ed_var rfl dS)) ?_ ?_ (fun _ => rfl) (fun _ => rfl) (fun _ _ => rfl) (fun _ _ => rfl)).evd (.inl rfl) ?_ (ascOf_asc _) fun x => ?_
    · have := oS.hi
      omega
    · exact fun h hh => by have := (oS.all h hh).len; omega
    · exact flat_len oS
    · show x ∈ Lh.ascOf _ ↔ _
      rw [Lh.mem_ascOf]
      refine ⟨fun z => z.1, fun z => ⟨z, ?_⟩⟩
      obtain ⟨h, hh, hx⟩ := List.mem_flatten.mp z
      have := (oS.all h hh).low x hx
      omega
/-- holders_in(hands, thing) -/
def rHoldersIn (ds es : List PyData) : Prop := ∃ (S : List (List Int)) (t : Int), S.length ≤ 5 ∧ ds = [encE S, .int t] ∧ es = (Lh.holders S t).map .int
theorem ok_holders_in (F : Fun K "holders_in" "holders_in" st_holders_in f fd) (B : Names mg) : FnOk P w K mg base CX0 1 f fd ["hands", "thing"] (spN K rHoldersIn) := by
  refine F.ok sc_holders_in (fun vs H Q E h => ?_) (fun cdv A outer s H vs Q E hr h => ?_)
  · obtain ⟨ds, d, dv, ⟨i, _, _, rfl, _⟩, _⟩ := h
    exact dpAll_len dv
  · obtain ⟨ds, es, dv, ⟨S, t, hS, rfl, rfl⟩, q⟩ := h
    refine ⟨_, (pss_one (ps_ret (pe_lc (own := [("person", 2), ("hand", 3)]) (wi := (iEnumT K (tCons (tVar 0) tNil))) (g := (gTup K 2 (gCons (gName 2) (gCons (gName 3) gNil)))) (te := (tVar 2)) (tt := (tTest (tOp (rIn K false) (tVar 1) (tVar 3)))) rfl sc_holders_in.nd (pi_enumT (by rfl) B.enumerate (pa_cons (pv 0) pa_nil)) (blkOk_by (by rfl)) (fun _ _ _ _ _ => (pg_tup (by rfl) (pgs_cons (pg_name (i := 2) sc_holders_in.nd rfl (by first | exact Or.inl rfl | exact Or.inr rfl)) (pgs_cons (pg_name (i := 3) sc_holders_in.nd rfl (by first | exact Or.inl rfl | exact Or.inr rfl)) pgs_nil)))) (fun _ _ _ _ _ => (pts_one (pt_cmpR op_in_seq (pv 1) (pv 3) (by rfl)))) (fun _ _ _ _ _ => (pv 2))))), ?_⟩
    cases dv with
    | cons dS r =>
    cases r with
    | cons dt r =>
    cases r
    refine sf_ret ?_ fun p xs H1 hp e1 h1 dx => q p xs H1 hp e1 h1 dx
    refine lc_fe (l := S) (enc := encH) (fun a => a.1.contains t) (fun a => PyData.int (a.2 : Nat)) (ead_one (ed_var rfl dS)) (by omega) (fun _ _ => rfl)
      (fun a ha x H1 e1 dx => et_test (ed_inT (neg := false) (ed_var rfl (Ex.dp e1 dt)) (ed_var rfl dx))) (fun a ha hf x H1 e1 dx => ed_var rfl (.int _)) (fun _ => rfl) ?_
    rw [holders_zip]
    rw [List.map_map]
    rfl
end
end Lr
end

section
set_option Elab.async false
set_option linter.all false
set_option maxRecDepth 100000
set_option maxHeartbeats 4000000
/-! has_ring, steps_of. -/
namespace Lr
open PySem PySem.Spec PyProof.Rows L2
open Evl (Ex EvT)
abbrev st_has_ring : Stmt := topS 17
theorem sc_has_ring : FnScope ["steps", "left", "pair", "person", "free"] ["steps"] (defScope st_has_ring) := ⟨rfl, rfl, rfl, by decide +kernel, rfl, by decide +kernel, by decide +kernel⟩
abbrev st_steps_of : Stmt := topS 18
theorem sc_steps_of : FnScope ["hands", "keeper", "found", "thing", "person", "other"] ["hands", "keeper"] (defScope st_steps_of) := ⟨rfl, rfl, rfl, by decide +kernel, rfl, by decide +kernel, by decide +kernel⟩
def encP (q : Int × Int) : PyData := .tuple [.int q.1, .int q.2]
theorem noL_P (q : Int × Int) : noL (encP q) = true := rfl
section
variable {K : PySem.W.Frag} {σ : L2.St} {H H' : Hp} {te ta tl to : TE} {tt : TT} {tu tw tz : TS} {D : Ends} {d : PyData} {ds : List PyData}
theorem src_ld {α : Type} {l : List α} {enc : α → PyData} {σ0 : L2.St} {j : Nat} (h : EvD K tl σ H (.list (l.map enc))) : Src (iList K tl) (gName j) σ H σ0 l (BName K enc Any σ0 j) := src_list stay_any h.l
theorem ed_0 : EvD K (tC (.int 0)) σ H (.int ((0 : Nat) : Int)) := ed_int
theorem ed_1 : EvD K (tC (.int 1)) σ H (.int ((1 : Nat) : Int)) := ed_int
theorem ed_2 : EvD K (tC (.int 2)) σ H (.int ((2 : Nat) : Int)) := ed_int
theorem ed_3 : EvD K (tC (.int 3)) σ H (.int ((3 : Nat) : Int)) := ed_int
theorem ed_eqI {i j : Int} (ha : EvD K ta σ H (.int i)) (hb : EvD K te σ H (.int j)) : EvD K (tOp (rEqD K) ta te) σ H (.bool (i == j)) := (ed_eq ha hb (shaped_int i) (shaped_int j)).is (by rw [eqv_int])
theorem ed_neI {i j : Int} (ha : EvD K ta σ H (.int i)) (hb : EvD K te σ H (.int j)) : EvD K (tOp (rNeD K) ta te) σ H (.bool (!(i == j))) := (ed_ne ha hb (shaped_int i) (shaped_int j)).is (by rw [eqv_int])
theorem ed_eqL {l m : List Int} (ha : EvD K ta σ H (.list (l.map .int))) (hb : EvD K te σ H (.list (m.map .int))) : EvD K (tOp (rEqD K) ta te) σ H (.bool (decide (l = m))) := (ed_eq ha hb (shaped_ints l) (shaped_ints m)).is (by rw [eqv_ints])
theorem ed_neL {l m : List Int} (ha : EvD K ta σ H (.list (l.map .int))) (hb : EvD K te σ H (.list (m.map .int))) : EvD K (tOp (rNeD K) ta te) σ H (.bool (!decide (l = m))) := (ed_ne ha hb (shaped_ints l) (shaped_ints m)).is (by rw [eqv_ints])
theorem ed_nilL : EvD K (tLst tNil) σ H (.list (([] : List Int).map .int)) := (ef_lst ead_nil (by simp)).evd
/-- xs.extend(..) -/
theorem sd_ext {i : Nat} {l : Addr} {xs : List V} (hi : σ[i]? = some (some (.ref l))) (hl : H l = some (.lst xs)) (h : EvF K te σ H ds) (hz : xs.length + ds.length ≤ 100000) (k : ∀ zs H1, Ex H H1 → DpAll K H1 zs ds → D.nx σ (upd H1 l (.lst (xs ++ zs)))) :
    tDrop (tBM K "list" rExtend (tVar i) (tCons te tNil)) D σ H :=
  ⟨_, hi, .inl ⟨rfl, _, .inl (.inl hl)⟩, h H (Evl.Ex.refl H) _ fun p zs H1 hp e h1 dz => ⟨l, p, xs, zs, rfl, rfl, e l _ hl, h1, Evl.sz_of (by rw [dpAll_len dz]; exact hz), k zs H1 e dz⟩⟩
theorem ef_flatP {wi : TI} {vs vs1 : List Nat} {j j1 : Nat} {l : List (Int × Int)} (src : Src wi (gName j) σ H (wipe σ vs) (l.map fun q => [q.1, q.2]) (BName K encH Any (wipe σ vs) j)) (hz : l.length ≤ 100)
    (hw : ∀ x, wipe ((wipe σ vs).set j (some x)) vs = wipe σ vs) (hj : ∀ x, ((wipe σ vs).set j (some x))[j]? = some (some x))
    (hw1 : ∀ x y, wipe ((wipe ((wipe σ vs).set j (some x)) vs1).set j1 (some y)) vs1 = wipe ((wipe σ vs).set j (some x)) vs1)
    (hj1 : ∀ x y, ((wipe ((wipe σ vs).set j (some x)) vs1).set j1 (some y))[j1]? = some (some y)) :
    EvF K (tLc2 wi (gName j) tYes (iTup K (tVar j)) (gName j1) tYes (tVar j1) vs vs1) σ H ((Lh.flatS l).map .int) := by
  have h := ef_flat src (by rw [List.length_map]; exact hz) (fun a ha => by
    obtain ⟨q, _, rfl⟩ := List.mem_map.mp ha
    simp) hw hj hw1 hj1
  rw [show (l.map fun q => [q.1, q.2]).flatten = Lh.flatS l from rfl] at h
  exact h
end
section
variable {P : Program} {w : World} {K : PySem.W.Frag} {mg : Str → Option Value} {base : Heap} {f : Addr} {fd : FuncData}
/-- pairs of people below 8 -/
structure OkP (steps : List (Int × Int)) : Prop where
  len : steps.length ≤ 30
  low : ∀ q ∈ steps, (0 ≤ q.1 ∧ q.1 < 8) ∧ (0 ≤ q.2 ∧ q.2 < 8)
theorem flatS_len : ∀ steps : List (Int × Int), (Lh.flatS steps).length = 2 * steps.length
  | [] => rfl
  | q :: r => by
    have := flatS_len r
    show ([q.1, q.2] ++ Lh.flatS r).length = _
    rw [List.length_append, this]
    simp only [List.length_cons, List.length_nil]
    omega
def rHasRing (ds : List PyData) (d : PyData) : Prop := ∃ steps, OkP steps ∧ ds = [.list (steps.map encP)] ∧ d = .bool (Lh.hasRing steps)
theorem ok_has_ring (F : Fun K "has_ring" "has_ring" st_has_ring f fd) (B : Names mg) : FnOk P w K mg base CX0 1 f fd ["steps"] (spR K rHasRing) := by
  refine F.ok sc_has_ring (fun vs H Q E h => ?_) (fun cdv A outer s H vs Q E hr h => ?_)
  · obtain ⟨ds, d, dv, ⟨i, _, rfl, _⟩, _⟩ := h
    exact dpAll_len dv
  · obtain ⟨ds, d, dv, ⟨steps, oP, rfl, rfl⟩, q⟩ := h
    refine ⟨_, (pss_cons (ps_set (i := 1) sc_has_ring.nd rfl (by first | exact Or.inl rfl | exact Or.inr rfl) (pe_callB (cr_sortedSet rfl) (by rfl) B.sorted (by decide +kernel) (pa_cons (pe_callTy (cr_setI rfl) (by rfl) B.set (by decide +kernel) (pa_cons (pe_lc2 (own := [("pair", 2), ("person", 3)]) (vs1 := [3]) (wi := (iList K (tVar 0))) (g := (gName 2)) (te := (tVar 3)) (wi1 := (iTup K (tVar 2))) (g1 := (gName 3)) (tt := tYes) (tt1 := tYes) rfl sc_has_ring.nd (pi_list (pv 0)) (blkOk_by (by rfl)) (by decide) (fun _ _ _ _ _ => (pg_name (i := 2) sc_has_ring.nd rfl (by first | exact Or.inl rfl | exact Or.inr rfl))) (fun _ _ _ _ _ => pts_nil) (fun _ _ _ _ _ => (pi_tup (pv 2))) (fun _ _ _ _ _ => (pg_name (i := 3) sc_has_ring.nd rfl (by first | exact Or.inl rfl | exact Or.inr rfl))) (fun _ _ _ _ _ => pts_nil) (fun _ _ _ _ _ => (pv 3))) pa_nil)) pa_nil))) (Evl.pss_cut (ps_while PassesOwn.never (pt_cmpR (op_neD hr.units) (pv 1) (pe_lst pa_nil) (nomark _)) (pss_cons (ps_set (i := 4) sc_has_ring.nd rfl (by first | exact Or.inl rfl | exact Or.inr rfl) (pe_lc (own := [("person", 3)]) (wi := (iList K (tVar 1))) (g := (gName 3)) (te := (tVar 3)) (tt := (tNot (tB (tCB (rAny K) (tCons (tLc (iList K (tVar 0)) (gName 2) tYes (tAndV (tOp (rEqD K) (tOp (rIxT K) (tVar 2) (tC (V.int 1))) (tVar 3)) (tOp (rIn K false) (tOp (rIxT K) (tVar 2) (tC (V.int 0))) (tVar 1))) [2]) tNil))))) rfl sc_has_ring.nd (pi_list (pv 1)) (blkOk_by (by rfl)) (fun _ _ _ _ _ => (pg_name (i := 3) sc_has_ring.nd rfl (by first | exact Or.inl rfl | exact Or.inr rfl))) (fun _ _ _ _ _ => (pts_one (pt_not (pt_val (pe_callB (cr_any rfl) (by rfl) B.any (by decide +kernel) (pa_cons (pe_lc (own := [("pair", 2)]) (wi := (iList K (tVar 0))) (g := (gName 2)) (te := (tAndV (tOp (rEqD K) (tOp (rIxT K) (tVar 2) (tC (V.int 1))) (tVar 3)) (tOp (rIn K false) (tOp (rIxT K) (tVar 2) (tC (V.int 0))) (tVar 1)))) (tt := tYes) rfl sc_has_ring.nd (pi_list (pv 0)) (blkOk_by (by rfl)) (fun _ _ _ _ _ => (pg_name (i := 2) sc_has_ring.nd rfl (by first | exact Or.inl rfl | exact Or.inr rfl))) (fun _ _ _ _ _ => pts_nil) (fun _ _ _ _ _ => (pe_and (pe_cmpR (op_eqD hr.units) (pe_ix ix_tup (pv 2) pe_int (fun _ _ => rfl)) (pv 3) (nomark _)) (pe_one (pe_cmpR op_in_seq (pe_ix ix_tup (pv 2) pe_int (fun _ _ => rfl)) (pv 1) (by rfl)))))) pa_nil)))))) (fun _ _ _ _ _ => (pv 3)))) (pss_cons (ps_if (pt_cmpR (op_eqD hr.units) (pv 4) (pe_lst pa_nil) (nomark _)) (pss_one (ps_ret pe_bl)) pss_nil) (pss_one (ps_set (i := 1) sc_has_ring.nd rfl (by first | exact Or.inl rfl | exact Or.inr rfl) (pe_lc (own := [("person", 3)]) (wi := (iList K (tVar 1))) (g := (gName 3)) (te := (tVar 3)) (tt := (tTest (tOp (rIn K true) (tVar 3) (tVar 4)))) rfl sc_has_ring.nd (pi_list (pv 1)) (blkOk_by (by rfl)) (fun _ _ _ _ _ => (pg_name (i := 3) sc_has_ring.nd rfl (by first | exact Or.inl rfl | exact Or.inr rfl))) (fun _ _ _ _ _ => (pts_one (pt_cmpR op_notIn_seq (pv 3) (pv 4) (by rfl)))) (fun _ _ _ _ _ => (pv 3)))))))) (pss_one (ps_ret pe_bl)))), ?_⟩
    cases dv with
    | @cons v _ _ _ dS r =>
    cases r
    have hl := oP.len
    refine qd_asg (ef_sortedSet (ns := Lh.flatS steps) (ms := Lh.ascOf (Lh.flatS steps)) (ef_flatP (src_ld (enc := encH) (EvD.is (ed_var rfl dS) ?_)) (by omega) (fun _ => rfl) (fun _ => rfl) (fun _ _ => rfl) (fun _ _ => rfl)).evd (.inl rfl) ?_ (ascOf_asc _) fun x => ?_).evd fun v1 H1 e1 d1 => ?_
    · rw [List.map_map]
      rfl
    · rw [flatS_len]
      omega
    · rw [Lh.mem_ascOf]
      refine ⟨fun z => z.1, fun z => ⟨z, ?_⟩⟩
      obtain ⟨p, hp, h⟩ := Lh.mem_flatS.mp z
      obtain ⟨a, b⟩ := oP.low p hp
      rcases h with rfl | rfl
      · omega
      · omega
    refine Evl.q_cut (M := fun σ' H' => Ex H H' ∧ Lh.hasRing steps = false) ?_ fun σ' H2 m => ?_
    · refine ⟨fun m σ' H' => ∃ (p y : V) (z : Option V) (L : List Int), σ' = [some v, some p, none, none, z] ∧ m = L.length ∧ Ex H H' ∧ Dp K H' p (.list (L.map .int)) ∧ L.length ≤ 8 ∧ Lh.ringL steps 8 L = Lh.hasRing steps,
        ⟨_, v1, v1, none, _, rfl, rfl, e1, d1, Lh.ascOf_len _, rfl⟩, ?_⟩
      rintro m σ' H2 ⟨p, y, z, L, rfl, rfl, e2, dL, hL, ring⟩
      refine et_test (ed_neL (ed_var rfl dL) ed_nilL) H2 (Evl.Ex.refl H2) _ fun H3 e3 => ?_
      by_cases hn : L = []
      · subst hn
        exact ⟨e2.trans e3, ring.symm⟩
      · rw [decide_eq_false hn]
        refine iteT ⟨fun σ' H' => ∃ (p y : V) (z : Option V) (L' : List Int), σ' = [some v, some p, none, none, z] ∧ L'.length < L.length ∧ Ex H H' ∧ Dp K H' p (.list (L'.map .int)) ∧ Lh.ringL steps 8 L' = Lh.hasRing steps, ?_, ?_⟩
        · rintro σ' H' ⟨p', y', z', L', rfl, h1, h2, h3, h4⟩
          exact ⟨L'.length, h1, p', y', z', L', rfl, rfl, h2, h3, by omega, h4⟩
        · have dS3 := Ex.dp (e2.trans e3) dS
          have dL3 := Ex.dp e3 dL
          refine qd_asg (lc_d (enc := PyData.int) (es := (Lh.freeOf steps L).map .int) (fun p => !(steps.any fun q => q.2 == p && L.contains q.1)) PyData.int (src_ld (ed_var rfl dL3)) (by omega) (fun _ => rfl) (fun a ha x H4 e4 dx _ => ?_) (fun a ha _ x H4 e4 dx _ => ed_var rfl dx) (fun _ => rfl) rfl) fun v2 H4 e4 d4 => ?_
          · refine Evl.et_not (et_B (K := K) (EvD.is (ed_any (bs := steps.map fun q => q.2 == a && L.contains q.1) (lc_d0 (enc := encP) (fun q => .bool (q.2 == a && L.contains q.1)) (src_ld (ed_var rfl (Ex.dp e4 dS3))) (by omega) (fun _ => rfl) (fun q hq y H5 e5 dq _ => ?_) (fun _ => rfl) (by rw [List.map_map]; rfl))) ?_))
            · refine ed_andV (ed_eqI (ed_ixT (ed_var rfl dq) ed_1 rfl) (ed_var rfl (Ex.dp e5 dx))) fun _ => ?_
              exact ed_inL (neg := false) (ed_ixT (ed_var rfl dq) ed_0 rfl) (ed_var rfl (Ex.dp (e4.trans e5) dL3))
            · rw [List.any_map]
              rfl
          · refine Evl.q_when (et_test (ed_eqL (ed_var rfl d4) ed_nilL)) (fun z H5 e5 => ?_) fun z H5 e5 => ?_
            · have hf : Lh.freeOf steps L = [] := of_decide_eq_true z
              have hr : Lh.hasRing steps = true := by
                rw [← ring]
                unfold Lh.ringL
                rw [if_neg hn, if_pos hf]
              refine sd_ret ed_bl fun w H6 e6 dw => q w H6 ((((e2.trans e3).trans e4).trans e5).trans e6) (hr ▸ dw)
            · have hf : Lh.freeOf steps L ≠ [] := of_decide_eq_false z
              have d5 := Ex.dp e5 d4
              have dL5 := Ex.dp (e4.trans e5) dL3
              have sh := Lh.shrink hf
              refine sd_asg (lc_d (enc := PyData.int) (es := (L.filter fun p => !((Lh.freeOf steps L).contains p)).map .int) (fun p => !((Lh.freeOf steps L).contains p)) PyData.int (src_ld (ed_var rfl dL5)) (by omega) (fun _ => rfl) (fun a ha x H6 e6 dx _ => ?_) (fun a ha _ x H6 e6 dx _ => ed_var rfl dx) (fun _ => rfl) rfl) fun v3 H6 e6 d6 => ?_
              · exact et_test (ed_inL (neg := true) (ed_var rfl dx) (ed_var rfl (Ex.dp e6 d5)))
              · refine ⟨v3, v3, some v2, _, rfl, sh, (((e2.trans e3).trans e4).trans e5).trans e6, d6, ?_⟩
                rw [← ring]
                conv => rhs; unfold Lh.ringL
                rw [if_neg hn, if_neg hf]
                exact Lh.ringL_more steps 8 7 _ (by omega) (by omega)
    · obtain ⟨e2, hr⟩ := m
      refine sd_ret ed_bl fun w H6 e6 dw => q w H6 (e2.trans e6) (hr ▸ dw)
/-- a keeper as a dict's pairs -/
def kvK (k : Lh.Keep) : List (Key × V) := k.map fun tp => ((Sum.inl tp.1 : Key), V.int tp.2)
theorem wk_items {k : Lh.Keep} {σ0 : L2.St} {i j : Nat} {a : Addr} {o : Obj} {S : Hp} (hS : S a = some (.frz o (.dK (kvK k)))) :
    Wk (Iti a o (kvK k)) (gTup K 2 (gCons (gName i) (gCons (gName j) gNil))) S σ0 k (fun tp _ σ2 => σ2 = (σ0.set i (some (.int tp.1))).set j (some (.int tp.2))) := by
  have len : (kvK k).length = k.length := by unfold kvK; rw [List.length_map]
  refine ⟨fun n H1 hn e => ⟨e a _ hS, by omega⟩, fun H1 e => ⟨e a _ hS, by omega⟩, fun n b H1 x H2 hb e y Q q => ?_⟩
  obtain ⟨T, k', v, hk, rfl, hT, rfl⟩ := y
  have hk' : (kvK k)[n]? = some ((Sum.inl b.1 : Key), V.int b.2) := by
    unfold kvK
    rw [List.getElem?_map, hb]
    rfl
  rw [hk'] at hk
  have e2 := Option.some.inj hk
  obtain ⟨rfl, rfl⟩ := Prod.mk.inj e2
  exact ⟨T, [.int b.1, .int b.2], rfl, .inl (.inl upd_same), rfl, _, _, rfl, _, _, rfl, rfl, q _ _ (Evl.Ex.new hT) rfl⟩
def spSteps (K : PySem.W.Frag) : Sp := fun vs H Q _ => ∃ (v : V) (a : Addr) (S : List (List Int)) (k : Lh.Keep), vs = [v, .ref a] ∧ Dp K H v (encE S) ∧ S.length ≤ 5 ∧ H a = some (.dK (kvK k)) ∧ k.length ≤ 8 ∧
  ∀ p xs H', H p = none → Ex H H' → H' p = some (.lst xs) → DpAll K H' xs ((Lh.stepsOf S k).map encP) → Q (.ref p) H'
theorem stepsOf_take {S : List (List Int)} {k : Lh.Keep} {i : Nat} {tp : Int × Int} (h : k[i]? = some tp) : Lh.stepsOf S (k.take (i + 1)) = Lh.stepsOf S (k.take i) ++ ((Lh.holders S tp.1).filter fun o => !(o == tp.2)).map fun o => (o, tp.2) := by
  unfold Lh.stepsOf
  rw [List.take_add_one, h, List.flatMap_append]
  show _ ++ ([tp].flatMap _) = _
  simp
theorem holders_len (S : List (List Int)) (t : Int) : (Lh.holders S t).length ≤ S.length := by
  unfold Lh.holders
  rw [List.length_map]
  refine Nat.le_trans (List.length_filter_le _ _) ?_
  simp
theorem stepsOf_len {S : List (List Int)} (hS : S.length ≤ 5) : ∀ k : Lh.Keep, (Lh.stepsOf S k).length ≤ 5 * k.length
  | [] => Nat.le_refl _
  | tp :: k => by
    have ih := stepsOf_len hS k
    unfold Lh.stepsOf at ih ⊢
    rw [List.flatMap_cons, List.length_append, List.length_map, List.length_cons]
    have h1 := List.length_filter_le (fun o => !(o == tp.2)) (Lh.holders S tp.1)
    have h2 := holders_len S tp.1
    omega
theorem ok_steps_of (F : Fun K "steps_of" "steps_of" st_steps_of f fd) (B : Names mg) (G_holders_in : Kn P w K mg base 1 "holders_in" ["hands", "thing"] (spN K rHoldersIn)) : FnOk P w K mg base CX0 2 f fd ["hands", "keeper"] (spSteps K) := by
  refine F.ok sc_steps_of (fun vs H Q E h => ?_) (fun cdv A outer s H vs Q E hr h => ?_)
  · obtain ⟨_, _, _, _, rfl, _⟩ := h
    rfl
  · obtain ⟨v, a, S, k, rfl, dS, hS, ha, hk, q⟩ := h
    refine ⟨_, (pss_cons (ps_set (i := 2) sc_steps_of.nd rfl (by first | exact Or.inl rfl | exact Or.inr rfl) (pe_lst pa_nil)) (Evl.pss_cut (ps_lock (ps_for PassesOwn.never rfl (pi_items (pv 1)) (pg_tup (by rfl) (pgs_cons (pg_name (i := 3) sc_steps_of.nd rfl (by first | exact Or.inl rfl | exact Or.inr rfl)) (pgs_cons (pg_name (i := 4) sc_steps_of.nd rfl (by first | exact Or.inl rfl | exact Or.inr rfl)) pgs_nil))) (pss_one (ps_expr (pe_bm PySem.F.plainAttrs_list PySem.F.slot_list_extend PySem.F.type_list_extend mt_extend (pv 2) (pa_cons (pe_lc (own := [("other", 5)]) (wi := (iList K (tCall (spN K rHoldersIn) [] E0 (tCons (tVar 0) (tCons (tVar 3) tNil))))) (g := (gName 5)) (te := (tTup (tCons (tVar 5) (tCons (tVar 4) tNil)))) (tt := (tTest (tOp (rNeD K) (tVar 5) (tVar 4)))) rfl sc_steps_of.nd (pi_list (pe_fn G_holders_in hr (pa_cons (pv 0) (pa_cons (pv 3) pa_nil)))) (blkOk_by (by rfl)) (fun _ _ _ _ _ => (pg_name (i := 5) sc_steps_of.nd rfl (by first | exact Or.inl rfl | exact Or.inr rfl))) (fun _ _ _ _ _ => (pts_one (pt_cmpR (op_neD hr.units) (pv 5) (pv 4) (nomark _)))) (fun _ _ _ _ _ => (pe_tup (pa_cons (pv 5) (pa_cons (pv 4) pa_nil))))) pa_nil)))))) (pss_one (ps_ret (pv 2))))), ?_⟩
    refine ⟨Nat.zero_le _, fun L hL => ?_⟩
    have neA : a ≠ L := ne_of_none ha hL
    refine ⟨fun σ' H' => (∃ y z, σ' = [some v, some (.ref a), some (.ref L), y, z, none]) ∧ Ex H H' ∧ ∃ xs, H' L = some (.lst xs) ∧ DpAll K (hid (hid H' L) a) xs ((Lh.stepsOf S k).map encP), ?_, ?_⟩
    · refine ⟨a, .dK (kvK k), by rw [upd_ne neA]; exact ha, trivial, fun od => ?_⟩
      have hS0 : (upd H a (.frz od (.dK (kvK k)))) a = some (.frz od (.dK (kvK k))) := upd_same
      have ex0 : Ex (hid H a) (upd H a (.frz od (.dK (kvK k)))) := fun b o e => by
        unfold hid at e
        split at e
        · cases e
        · rename_i h
          rw [upd_ne h]
          exact e
      have dS0 : Dp K (upd H a (.frz od (.dK (kvK k)))) v (encE S) := Ex.dp ex0 (dp_hid (NoT.dK ha) _ _ (noL_E S) dS)
      refine ⟨_, rfl, a, od, kvK k, rfl, upd_same, ?_⟩
      refine for_W (S := upd H a (.frz od (.dK (kvK k)))) (fun σ0 => wk_items hS0) (fun i σ' H' => (∃ y z, σ' = [some v, some (.ref a), some (.ref L), y, z, none]) ∧ Ex (upd H a (.frz od (.dK (kvK k)))) H' ∧ ∃ xs, H' L = some (.lst xs) ∧ DpAll K (hid H' L) xs ((Lh.stepsOf S (k.take i)).map encP))
        ⟨⟨_, _, rfl⟩, ?_, [], ?_, .nil⟩ (fun i σ' H' p => p.2.1) (fun i tp σ1 H1 σ2 H2 hb p e2 b => ?_) (fun σ' H' p => ?_)
      · rw [show upd (upd H L (.lst [])) a (.frz od (.dK (kvK k))) = upd (upd H a (.frz od (.dK (kvK k)))) L (.lst []) from ?_]
        · exact Evl.Ex.new (by rw [upd_ne neA.symm]; exact hL)
        · funext b
          unfold upd
          split <;> split <;> simp_all
      · rw [upd_ne neA.symm, upd_same]
      · obtain ⟨⟨y, z, rfl⟩, e1, xs, hx, dx⟩ := p
        subst b
        have hlim := stepsOf_len hS (k.take i)
        have hlim2 := holders_len S tp.1
        have hk2 : (k.take i).length ≤ 8 := by rw [List.length_take]; omega
        have lx := dpAll_len dx
        rw [List.length_map] at lx
        have e12 := e1.trans e2
        refine sd_ext (i := 2) rfl (e2 L _ hx) (lc_f (enc := PyData.int) (l := Lh.holders S tp.1) (es := (((Lh.holders S tp.1).filter fun o => !(o == tp.2)).map fun o => (o, tp.2)).map encP) (fun o => !(o == tp.2)) (fun o => encP (o, tp.2))
          (src_ld (EvF.evd (ef_call (ead_cons (ed_var rfl (Ex.dp e12 dS0)) (ead_one (ed_var rfl (.int tp.1)))) ⟨S, tp.1, hS, rfl, rfl⟩))) (by omega) (fun _ => rfl)
          (fun o ho x H3 e3 dx _ => et_test (ed_neI (ed_var rfl dx) (ed_var rfl (.int tp.2)))) (fun o ho _ x H3 e3 dx _ => ed_tup (ead_cons (ed_var rfl dx) (ead_one (ed_var rfl (.int tp.2)))) (by simp)) (fun _ => rfl) (by rw [List.map_map]; rfl)) ?_ fun zs H3 e3 dz => ?_
        · have := List.length_filter_le (fun o => !(o == tp.2)) (Lh.holders S tp.1)
          simp only [List.length_map]
          omega
        · have h3 : H3 L = some (.lst xs) := e3 L _ (e2 L _ hx)
          refine ⟨⟨_, _, rfl⟩, fun b o hb => ?_, xs ++ zs, upd_same, ?_⟩
          · have nb : b ≠ L := by
              rintro rfl
              rw [upd_ne neA.symm, hL] at hb
              cases hb
            rw [upd_ne nb]
            exact e3 b o (e12 b o hb)
          · rw [hid_upd, stepsOf_take hb, List.map_append]
            exact dp_app (Ex.dps (hid_mono (e2.trans e3)) dx) (dps_hid (NoT.lst h3) _ _ (noLs_map noL_P _) dz)
      · obtain ⟨⟨y, z, rfl⟩, e1, xs, hx, dx⟩ := p
        have hA : H' a = some (.frz od (.dK (kvK k))) := e1 a _ upd_same
        refine ⟨hA, ⟨_, _, rfl⟩, fun b o hb => ?_, xs, by rw [upd_ne neA.symm]; exact hx, ?_⟩
        · by_cases hba : b = a
          · subst hba
            rw [ha] at hb
            rw [upd_same]
            exact hb
          · rw [upd_ne hba]
            exact e1 b o (by rw [upd_ne hba]; exact hb)
        · rw [List.take_length] at dx
          have nt : NoT (hid H' L) a := by
            rintro ys (z | ⟨o, z⟩)
            · rw [hid_ne neA, hA] at z
              cases z
            · rw [hid_ne neA, hA] at z
              injection z with z
              injection z with z1 z2
              cases z2
          have r := dps_hid nt _ _ (noLs_map noL_P _) dx
          refine Ex.dps ?_ r
          intro b o hb
          unfold hid at hb ⊢
          split at hb
          · cases hb
          · rename_i h1
            rw [if_neg h1]
            split at hb
            · cases hb
            · rename_i h2
              rw [if_neg h2, upd_ne h1]
              exact hb
    · rintro σ' H' ⟨⟨y, z, rfl⟩, e1, xs, hx, dx⟩
      exact ⟨_, rfl, q L xs H' hL e1 hx (Ex.dps (fun b o hb => hid_ex b o (hid_ex b o hb)) dx)⟩
end
end Lr
end

section
set_option Elab.async false
set_option linter.all false
set_option maxRecDepth 100000
set_option maxHeartbeats 4000000
/-! keepers_in, end_by, ends_in. -/
namespace Lr
open PySem PySem.Spec PyProof.Rows L2
open Evl (Ex EvT)
abbrev st_keepers_in : Stmt := topS 19
theorem sc_keepers_in : FnScope ["hands", "found", "thing", "later", "keeper", "person", "longer"] ["hands"] (defScope st_keepers_in) := ⟨rfl, rfl, rfl, by decide +kernel, rfl, by decide +kernel, by decide +kernel⟩
abbrev st_end_by : Stmt := topS 20
theorem sc_end_by : FnScope ["hands", "keeper", "found", "person", "thing"] ["hands", "keeper"] (defScope st_end_by) := ⟨rfl, rfl, rfl, by decide +kernel, rfl, by decide +kernel, by decide +kernel⟩
abbrev st_ends_in : Stmt := topS 21
theorem sc_ends_in : FnScope ["hands", "keeper"] ["hands"] (defScope st_ends_in) := ⟨rfl, rfl, rfl, by decide +kernel, rfl, by decide +kernel, by decide +kernel⟩
/-- a list of dicts: keepers -/
inductive KpAll (H : Hp) : List V → List Lh.Keep → Prop
  | nil : KpAll H [] []
  | cons {a : Addr} {k : Lh.Keep} {xs : List V} {ks : List Lh.Keep} : H a = some (.dK (kvK k)) → KpAll H xs ks → KpAll H (.ref a :: xs) (k :: ks)
section
variable {H H' : Hp}
theorem KpAll.len : ∀ {xs : List V} {ks : List Lh.Keep}, KpAll H xs ks → xs.length = ks.length
  | _, _, .nil => rfl
  | _, _, .cons _ r => congrArg (· + 1) r.len
theorem KpAll.mono (e : Ex H H') : ∀ {xs : List V} {ks : List Lh.Keep}, KpAll H xs ks → KpAll H' xs ks
  | _, _, .nil => .nil
  | _, _, .cons h r => .cons (e _ _ h) (r.mono e)
theorem KpAll.upd {l : Addr} {o : HO} {ys : List V} (hl : H l = some (.lst ys)) : ∀ {xs : List V} {ks : List Lh.Keep}, KpAll H xs ks → KpAll (L2.upd H l o) xs ks
  | _, _, .nil => .nil
  | _, _, .cons (a := a) h r => .cons (by
      have ne : a ≠ l := fun z => by
        rw [z, hl] at h
        cases h
      rw [upd_ne ne]
      exact h) (r.upd hl)
theorem KpAll.app : ∀ {xs ys : List V} {ks ls : List Lh.Keep}, KpAll H xs ks → KpAll H ys ls → KpAll H (xs ++ ys) (ks ++ ls)
  | _, _, _, _, .nil, h => h
  | _, _, _, _, .cons a r, h => .cons a (r.app h)
theorem KpAll.at : ∀ {xs : List V} {ks : List Lh.Keep} {i : Nat} {k : Lh.Keep}, KpAll H xs ks → ks[i]? = some k → ∃ a, xs[i]? = some (.ref a) ∧ H a = some (.dK (kvK k))
  | _, _, _, _, .nil, h => by simp at h
  | _, _, 0, _, .cons (a := a) h r, e => by
    have z := Option.some.inj e
    subst z
    exact ⟨a, rfl, h⟩
  | _, _, i + 1, _, .cons h r, e => r.at (i := i) e
theorem wk_kp {K : PySem.W.Frag} {ks : List Lh.Keep} {xs : List V} {a : Addr} {S : Hp} {j : Nat} {σ0 : L2.St} (hx : SqL K S a xs) (kp : KpAll S xs ks) : Wk (Itl K a) (gName j) S σ0 ks (fun k H2 σ2 => ∃ b, H2 b = some (.dK (kvK k)) ∧ σ2 = σ0.set j (some (.ref b))) := by
  have len := kp.len
  refine ⟨fun n H1 hn e => ?_, fun H1 e => ⟨xs, Evl.ex_l e hx, by omega⟩, fun n b H1 x H2 hb e y Q q => ?_⟩
  · have hl : n < xs.length := by omega
    exact ⟨xs, xs[n], Evl.ex_l e hx, by simp [hl]⟩
  · obtain ⟨rfl, hv⟩ := y
    have hv := hv xs (Evl.ex_l e hx)
    obtain ⟨c, h1, h2⟩ := kp.at hb
    rw [h1] at hv
    have z := Option.some.inj hv
    subst z
    exact q _ _ (Evl.Ex.refl _) ⟨c, e _ _ h2, rfl⟩
end
theorem keepStep_len {S : List (List Int)} (hS : S.length ≤ 5) (t : Int) : ∀ f : List Lh.Keep, (Lh.keepStep S f t).length ≤ 5 * f.length
  | [] => Nat.le_refl _
  | k :: f => by
    have ih := keepStep_len hS t f
    unfold Lh.keepStep at ih ⊢
    rw [List.flatMap_cons, List.length_append, List.length_cons]
    have h1 := List.length_filter_le (fun k' => !(Lh.hasRing (Lh.stepsOf S k'))) ((Lh.holders S t).map fun p => k ++ [(t, p)])
    rw [List.length_map] at h1
    have h2 := holders_len S t
    omega
theorem keepersOf_len {S : List (List Int)} (hS : S.length ≤ 5) : ∀ (r ts : List Int), ts = r.reverse → (Lh.keepersOf S ts).length ≤ 5 ^ ts.length
  | [], _, e => by
    subst e
    exact Nat.le_refl _
  | t :: r, _, e => by
    subst e
    rw [List.reverse_cons, Lh.keepersOf_snoc]
    have ih := keepersOf_len hS r _ rfl
    have h := keepStep_len hS t (Lh.keepersOf S r.reverse)
    rw [List.length_append, List.length_singleton, Nat.pow_succ]
    omega
theorem OkS.small {S : List (List Int)} (o : OkS S) : Lh.Small S := ⟨by have := o.hi; omega, fun h hh t ht => by have := (o.all h hh).low t ht; omega⟩
theorem things_low {S : List (List Int)} (o : OkS S) {t : Int} (h : t ∈ Lh.things S) : 0 ≤ t ∧ t ≤ 5 := by
  obtain ⟨h1, _⟩ := Lh.mem_ascOf.mp h
  obtain ⟨g, hg, hx⟩ := List.mem_flatten.mp h1
  exact (o.all g hg).low t hx
theorem things_len {S : List (List Int)} (o : OkS S) : (Lh.things S).length ≤ 6 := by
  have e : Lh.things S = (Lh.upTo 6).filter fun t => S.flatten.contains t := by
    have hs : Lh.upTo 8 = Lh.upTo 6 ++ [6, 7] := by decide
    unfold Lh.things Lh.ascOf
    rw [hs, List.filter_append]
    have z : ([6, 7] : List Int).filter (fun t => S.flatten.contains t) = [] := by
      rw [List.filter_eq_nil_iff]
      intro t ht hc
      have hm : t ∈ Lh.things S := Lh.mem_ascOf.mpr ⟨List.contains_iff_mem.mp hc, by
        simp only [List.mem_cons, List.not_mem_nil, or_false] at ht
        omega⟩
      have := things_low o hm
      simp only [List.mem_cons, List.not_mem_nil, or_false] at ht
      omega
    rw [z, List.append_nil]
  rw [e]
  exact Nat.le_trans (List.length_filter_le _ _) (by decide)
theorem putK_new {k : Lh.Keep} {t p : Int} (h : t ∉ k.map Prod.fst) : putK (kvK k) (Sum.inl t : Key) (V.int p) = kvK (k ++ [(t, p)]) := by
  unfold putK
  rw [if_neg]
  · unfold kvK
    rw [List.map_append]
    rfl
  · rw [List.any_eq_true]
    rintro ⟨kv, hkv, e⟩
    unfold kvK at hkv
    obtain ⟨tp, htp, rfl⟩ := List.mem_map.mp hkv
    have e2 : (Sum.inl tp.1 : Key) = Sum.inl t := of_decide_eq_true e
    injection e2 with e3
    exact h (List.mem_map.mpr ⟨tp, htp, e3⟩)
theorem okP_of {S : List (List Int)} {k : Lh.Keep} (hS : S.length ≤ 5) (hk : k.length ≤ 6) (h : ∀ tp ∈ k, tp.2 ∈ Lh.holders S tp.1) : OkP (Lh.stepsOf S k) := by
  refine ⟨by have := stepsOf_len hS k; omega, fun q hq => ?_⟩
  obtain ⟨tp, h1, h2, _, h3⟩ := Lh.mem_stepsOf.mp hq
  have a := Lh.mem_holders.mp h2
  have b := Lh.mem_holders.mp (h tp h1)
  rw [h3]
  omega
section
variable {P : Program} {w : World} {K : PySem.W.Frag} {mg : Str → Option Value} {base : Heap} {f : Addr} {fd : FuncData} {σ : L2.St} {H : Hp}
theorem ed_steps {i j : Nat} {v : V} {a : Addr} {S : List (List Int)} {k : Lh.Keep} (hi : σ[i]? = some (some v)) (hj : σ[j]? = some (some (.ref a))) (dS : Dp K H v (encE S)) (hS : S.length ≤ 5) (ha : H a = some (.dK (kvK k))) (hk : k.length ≤ 8) :
    EvD K (tCall (spSteps K) [] E0 (tCons (tVar i) (tCons (tVar j) tNil))) σ H (.list ((Lh.stepsOf S k).map encP)) := fun H1 e Q q =>
  ⟨v, hi, .ref a, hj, v, a, S, k, rfl, Ex.dp e dS, hS, e _ _ ha, hk, fun p xs H2 hp e2 h2 dx => q _ H2 e2 (.lst (.inl (.inl h2)) dx)⟩
def spKeepers (K : PySem.W.Frag) : Sp := fun vs H Q _ => ∃ (v : V) (S : List (List Int)), vs = [v] ∧ Dp K H v (encE S) ∧ OkS S ∧
  ∀ p xs H', H p = none → Ex H H' → H' p = some (.lst xs) → KpAll H' xs (Lh.keepers S) → Q (.ref p) H'
theorem ok_keepers_in (F : Fun K "keepers_in" "keepers_in" st_keepers_in f fd) (B : Names mg) (G_things_in : Kn P w K mg base 1 "things_in" ["hands"] (spN K rThingsIn)) (G_holders_in : Kn P w K mg base 1 "holders_in" ["hands", "thing"] (spN K rHoldersIn))
    (G_has_ring : Kn P w K mg base 1 "has_ring" ["steps"] (spR K rHasRing)) (G_steps_of : Kn P w K mg base 2 "steps_of" ["hands", "keeper"] (spSteps K)) : FnOk P w K mg base CX0 3 f fd ["hands"] (spKeepers K) := by
  refine F.ok sc_keepers_in (fun vs H Q E h => ?_) (fun cdv A outer s H vs Q E hr h => ?_)
  · obtain ⟨_, _, rfl, _⟩ := h
    rfl
  · obtain ⟨v, S, rfl, dS, oS, q⟩ := h
    refine ⟨_, (pss_cons (ps_set (i := 1) sc_keepers_in.nd rfl (by first | exact Or.inl rfl | exact Or.inr rfl) (pe_lst (pa_cons pe_dnewK pa_nil))) (Evl.pss_cut (ps_for PassesOwn.never rfl (pi_list (pe_fn G_things_in (hr.mono (by decide)) (pa_cons (pv 0) pa_nil))) (pg_name (i := 2) sc_keepers_in.nd rfl (by first | exact Or.inl rfl | exact Or.inr rfl)) (pss_cons (ps_set (i := 3) sc_keepers_in.nd rfl (by first | exact Or.inl rfl | exact Or.inr rfl) (pe_lst pa_nil)) (Evl.pss_cut (ps_for PassesOwn.never rfl (pi_list (pv 1)) (pg_name (i := 4) sc_keepers_in.nd rfl (by first | exact Or.inl rfl | exact Or.inr rfl)) (pss_one (ps_for PassesOwn.never rfl (pi_list (pe_fn G_holders_in (hr.mono (by decide)) (pa_cons (pv 0) (pa_cons (pv 2) pa_nil)))) (pg_name (i := 5) sc_keepers_in.nd rfl (by first | exact Or.inl rfl | exact Or.inr rfl)) (pss_cons (ps_set (i := 6) sc_keepers_in.nd rfl (by first | exact Or.inl rfl | exact Or.inr rfl) (pe_star (pv 4) (pv 2) (pv 5))) (pss_one (ps_if (pt_not (pt_val (pe_fn G_has_ring (hr.mono (by decide)) (pa_cons (pe_fn G_steps_of hr (pa_cons (pv 0) (pa_cons (pv 6) pa_nil))) pa_nil)))) (pss_one (ps_expr (pe_bm PySem.F.plainAttrs_list PySem.F.slot_list_append PySem.F.type_list_append mt_append (pv 3) (pa_cons (pv 6) pa_nil)))) pss_nil)))))) (pss_one (ps_set (i := 1) sc_keepers_in.nd rfl (by first | exact Or.inl rfl | exact Or.inr rfl) (pv 3)))))) (pss_one (ps_ret (pv 1))))), ?_⟩
    refine fun a0 hA0 => ⟨by show 1 ≤ sizeLine; decide, fun F0 hF0 => ?_⟩
    have ex0 := Evl.Ex.new (o := .dK []) hA0
    have ex1 := Evl.Ex.new (o := .lst [V.ref a0]) hF0
    have ne0 : a0 ≠ F0 := fun z => by
      rw [← z, upd_same] at hF0
      cases hF0
    generalize hH1 : upd (upd H a0 (.dK [])) F0 (.lst [V.ref a0]) = H1 at ex1
    have e01 := ex0.trans ex1
    have hF1 : H1 F0 = some (.lst [V.ref a0]) := by rw [← hH1, upd_same]
    have hA1 : H1 a0 = some (.dK []) := by rw [← hH1, upd_ne ne0, upd_same]
    have hF00 : H F0 = none := Evl.fresh_back ex0 hF0
    have tl := things_len oS
    refine Evl.q_cut (M := fun σ' H' => ∃ (F1 : Addr) (y1 y2 y3 y4 y5 : Option V) (xs : List V), σ' = [some v, some (.ref F1), y1, y2, y3, y4, y5] ∧ H F1 = none ∧ Ex H H' ∧ H' F1 = some (.lst xs) ∧ KpAll H' xs (Lh.keepers S)) ?_ ?_
    · refine ef_call (ead_one (ed_var rfl (Ex.dp e01 dS))) ⟨S, oS, rfl, rfl⟩ H1 (Evl.Ex.refl _) _ fun p ts H2 hp e2 h2 dx => ⟨p, rfl, ⟨ts, .inl (.inl h2)⟩, ?_⟩
      refine for_S (S := H2) (l := Lh.things S) (enc := PyData.int) (P := Any) (.inl (.inl h2)) dx (fun _ _ => trivial) stay_any
        (fun i σ' H' => (∃ (F1 : Addr) (y1 y2 y3 y4 y5 : Option V) (xs : List V), σ' = [some v, some (.ref F1), y1, y2, y3, y4, y5] ∧ H F1 = none ∧ H' F1 = some (.lst xs) ∧ KpAll H' xs (Lh.keepersOf S ((Lh.things S).take i))) ∧ Ex H2 H')
        ⟨⟨F0, none, none, none, none, none, _, rfl, hF00, e2 _ _ hF1, .cons (k := []) (e2 _ _ hA1) .nil⟩, Evl.Ex.refl _⟩ (fun i σ' H' p => p.2) (fun i t x σ1 H3 ht pv dt _ => ?_) (fun σ' H' pv => ?_)
      · obtain ⟨⟨F1, y1, y2, y3, y4, y5, xs, rfl, hF, hx, kp⟩, e3⟩ := pv
        cases dt
        have e03 : Ex H H3 := (e01.trans e2).trans e3
        have hi : i < (Lh.things S).length := (List.getElem?_eq_some_iff.mp ht).1
        have tk : (Lh.things S).take (i + 1) = (Lh.things S).take i ++ [t] := by rw [List.take_add_one, ht]; rfl
        have ltk : ((Lh.things S).take i).length ≤ 5 := by rw [List.length_take]; omega
        have hform := Lh.keepers_form (S := S) _ ((Lh.things S).take i) (List.reverse_reverse _).symm
        have klen := keepersOf_len oS.hi _ ((Lh.things S).take i) (List.reverse_reverse _).symm
        have kle : (Lh.keepersOf S ((Lh.things S).take i)).length ≤ 3125 := Nat.le_trans klen (Nat.pow_le_pow_right (by decide) ltk : 5 ^ ((Lh.things S).take i).length ≤ 5 ^ 5)
        have tnew : t ∉ (Lh.things S).take i := by
          have nd := Lh.nodup_ascOf S.flatten
          rw [show Lh.ascOf S.flatten = Lh.things S from rfl, ← List.take_append_drop (i + 1) (Lh.things S), tk, List.append_assoc] at nd
          intro z
          exact (List.nodup_append.mp nd).2.2 t z t (by simp) rfl
        generalize hks : Lh.keepersOf S ((Lh.things S).take i) = ks at kp hform kle
        -- later = []
        refine ⟨Nat.zero_le _, fun L hL => ?_⟩
        have hLH : H L = none := Evl.fresh_back e03 hL
        have neF : F1 ≠ L := ne_of_none hx hL
        refine Evl.q_cut (M := fun σ' H' => (∃ (y3 y4 y5 : Option V), σ' = [some v, some (.ref F1), some (.int t), some (.ref L), y3, y4, y5]) ∧ Ex H3 H' ∧ ∃ ys, H' L = some (.lst ys) ∧ KpAll H' ys (Lh.keepStep S ks t)) ?_ ?_
        · refine ⟨_, rfl, F1, rfl, ⟨xs, .inl (.inl (by rw [upd_ne neF]; exact hx))⟩, ?_⟩
          refine for_W (S := H3) (fun σ0 => wk_kp (j := 4) (.inl (.inl hx)) kp) (fun j σ' H' => (∃ (y3 y4 y5 : Option V), σ' = [some v, some (.ref F1), some (.int t), some (.ref L), y3, y4, y5]) ∧ Ex H3 H' ∧ ∃ ys, H' L = some (.lst ys) ∧ KpAll H' ys (Lh.keepStep S (ks.take j) t))
            ⟨⟨_, _, _, rfl⟩, Evl.Ex.new hL, [], upd_same, .nil⟩ (fun j σ' H' p => p.2.1) (fun j k σ1 H4 σ2 H5 hk p e5 b => ?_) (fun σ' H' p => ?_)
          · obtain ⟨⟨z3, z4, z5, rfl⟩, e4, ys, hy, ky⟩ := p
            obtain ⟨a, ha, rfl⟩ := b
            have e35 := e4.trans e5
            have dS5 := Ex.dp (e03.trans e35) dS
            have hkm : k ∈ ks := List.mem_of_getElem? hk
            obtain ⟨kf, kh⟩ := hform k hkm
            have klk : k.length ≤ 5 := by
              have := congrArg List.length kf
              rw [List.length_map] at this
              omega
            have lhold := holders_len S t
            have o5 := oS.hi
            refine ef_call (ead_cons (ed_var rfl dS5) (ead_one (ed_var rfl (.int t)))) ⟨S, t, oS.hi, rfl, rfl⟩ H5 (Evl.Ex.refl _) _ fun h hs H6 hh e6 h6 dh => ⟨h, rfl, ⟨hs, .inl (.inl h6)⟩, ?_⟩
            have hy6 : H6 L = some (.lst ys) := e6 _ _ (e5 _ _ hy)
            have neh : h ≠ L := fun z => by
              rw [z, e5 _ _ hy] at hh
              cases hh
            have h6' : (hid H6 L) h = some (.lst hs) := by rw [hid_ne neh]; exact h6
            have dh' : DpAll K (hid H6 L) hs ((Lh.holders S t).map .int) := dps_hid (NoT.lst hy6) _ _ (noLs_map noL_int _) dh
            have dS6 : Dp K (hid H6 L) v (encE S) := dp_hid (NoT.lst hy6) _ _ (noL_E S) (Ex.dp e6 dS5)
            have nea : a ≠ L := fun z => by
              rw [z, e5 _ _ hy] at ha
              cases ha
            have ha6 : (hid H6 L) a = some (.dK (kvK k)) := by rw [hid_ne nea]; exact e6 _ _ ha
            refine for_S (S := hid H6 L) (l := Lh.holders S t) (enc := PyData.int) (P := Any) (.inl (.inl h6')) dh' (fun _ _ => trivial) stay_any
              (fun m σ' H' => (∃ (y4 y5 : Option V), σ' = [some v, some (.ref F1), some (.int t), some (.ref L), some (.ref a), y4, y5]) ∧ Ex (hid H6 L) H' ∧ ∃ ys, H' L = some (.lst ys) ∧ KpAll H' ys (Lh.keepStep S (ks.take j) t ++ (((Lh.holders S t).take m).map fun p => k ++ [(t, p)]).filter fun k' => !(Lh.hasRing (Lh.stepsOf S k'))))
              ⟨⟨_, _, rfl⟩, hid_ex, ys, hy6, by rw [List.take_zero, List.map_nil, List.filter_nil, List.append_nil]; exact (ky.mono (e5.trans e6))⟩ (fun m σ' H' p => p.2.1) (fun m p x σ1 H7 hp pv dp _ => ?_) (fun σ' H' pv => ?_)
            · obtain ⟨⟨y4, y5, rfl⟩, e7, ys7, hy7, ky7⟩ := pv
              cases dp
              have hpm : p ∈ Lh.holders S t := List.mem_of_getElem? hp
              have tkp : (((Lh.holders S t).take (m + 1)).map fun p => k ++ [(t, p)]) = (((Lh.holders S t).take m).map fun p => k ++ [(t, p)]) ++ [k ++ [(t, p)]] := by
                rw [List.take_add_one, hp, List.map_append]
                rfl
              refine ⟨a, kvK k, t, .int p, rfl, e7 _ _ ha6, rfl, rfl, by unfold kvK; rw [List.length_map]; omega, fun d g hd hg ne => ?_⟩
              rw [putK_new (by rw [kf]; exact tnew)]
              generalize hk' : k ++ [(t, p)] = k' at tkp
              have ex8 : Ex H7 (upd (upd H7 d (.dK (kvK k'))) g (.dK [(.inl t, .int p)])) := (Evl.Ex.new hd).trans (Evl.Ex.new (by rw [upd_ne ne.symm]; exact hg))
              have hd8 : (upd (upd H7 d (.dK (kvK k'))) g (.dK [(.inl t, .int p)])) d = some (.dK (kvK k')) := by rw [upd_ne ne, upd_same]
              generalize upd (upd H7 d (.dK (kvK k'))) g (.dK [(.inl t, .int p)]) = H8 at ex8 hd8
              have lk' : k'.length ≤ 6 := by rw [← hk', List.length_append, List.length_singleton]; omega
              have kh' : ∀ tp ∈ k', tp.2 ∈ Lh.holders S tp.1 := fun tp htp => by
                rw [← hk'] at htp
                rcases List.mem_append.mp htp with z | z
                · exact kh tp z
                · rw [List.mem_singleton.mp z]
                  exact hpm
              have dS8 := Ex.dp (e7.trans ex8) dS6
              refine Evl.s_when (Evl.et_not (et_B (K := K) (ed_call (ead_one (ed_steps (i := 0) (j := 6) rfl rfl dS8 oS.hi hd8 (by omega))) ⟨_, okP_of oS.hi lk' kh', rfl, rfl⟩))) (fun z H9 e9 => ?_) fun z H9 e9 => ?_
              · have hy9 : H9 L = some (.lst ys7) := e9 _ _ (ex8 _ _ hy7)
                have ln := ky7.len
                have lstep := keepStep_len oS.hi t (ks.take j)
                have ltj : (ks.take j).length ≤ ks.length := by rw [List.length_take]; omega
                have lf := List.length_filter_le (fun k' => !(Lh.hasRing (Lh.stepsOf S k'))) (((Lh.holders S t).take m).map fun p => k ++ [(t, p)])
                rw [List.length_map, List.length_take] at lf
                rw [List.length_append] at ln
                refine ⟨_, rfl, .inl ⟨rfl, _, .inl (.inl hy9)⟩, _, rfl, L, ys7, .ref d, rfl, rfl, hy9, Evl.sz_lt (by omega), ⟨_, _, rfl⟩, fun b o hb => ?_, ys7 ++ [.ref d], upd_same, ?_⟩
                · have nb : b ≠ L := by
                    rintro rfl
                    rw [hid_same] at hb
                    cases hb
                  rw [upd_ne nb]
                  exact e9 b o (ex8 b o (e7 b o hb))
                · rw [tkp, List.filter_append, ← List.append_assoc]
                  rw [show ([k'].filter fun k' => !(Lh.hasRing (Lh.stepsOf S k'))) = [k'] by rw [List.filter_cons, if_pos z]; rfl]
                  exact ((ky7.mono (ex8.trans e9)).upd hy9).app (KpAll.upd hy9 (.cons (e9 _ _ hd8) .nil))
              · refine ⟨⟨_, _, rfl⟩, e7.trans (ex8.trans e9), ys7, e9 _ _ (ex8 _ _ hy7), ?_⟩
                rw [tkp, List.filter_append]
                rw [show ([k'].filter fun k' => !(Lh.hasRing (Lh.stepsOf S k'))) = [] by rw [List.filter_cons, if_neg (by rw [z]; exact Bool.false_ne_true)]; rfl]
                rw [List.append_nil]
                exact ky7.mono (ex8.trans e9)
            · obtain ⟨⟨y4, y5, rfl⟩, e7, ys7, hy7, ky7⟩ := pv
              refine ⟨⟨_, _, _, rfl⟩, (ex_hid (e35.trans e6) hL).trans e7, ys7, hy7, ?_⟩
              rw [List.take_length] at ky7
              have : Lh.keepStep S (ks.take (j + 1)) t = Lh.keepStep S (ks.take j) t ++ ((Lh.holders S t).map fun p => k ++ [(t, p)]).filter fun k' => !(Lh.hasRing (Lh.stepsOf S k')) := by
                unfold Lh.keepStep
                rw [List.take_add_one, hk, List.flatMap_append]
                simp
              rw [this]
              exact ky7
          · obtain ⟨y, e4, ys, hy, ky⟩ := p
            rw [List.take_length] at ky
            exact ⟨y, e4, ys, hy, ky⟩
        · rintro σ' H' ⟨⟨z3, z4, z5, rfl⟩, e4, ys, hy, ky⟩
          refine ⟨_, rfl, ⟨L, _, _, _, _, _, ys, rfl, hLH, hy, ?_⟩, e3.trans e4⟩
          rw [tk, Lh.keepersOf_snoc, hks]
          exact ky
      · obtain ⟨⟨F1, y1, y2, y3, y4, y5, xs, rfl, hF, hx, kp⟩, e3⟩ := pv
        rw [List.take_length] at kp
        exact ⟨F1, _, _, _, _, _, xs, rfl, hF, (e01.trans e2).trans e3, hx, kp⟩
    · rintro σ' H' ⟨F1, y1, y2, y3, y4, y5, xs, rfl, hF, e, hx, kp⟩
      exact ⟨_, rfl, q F1 xs H' hF e hx kp⟩
end
end Lr
end

section
set_option Elab.async false
set_option linter.all false
set_option maxRecDepth 100000
set_option maxHeartbeats 4000000
/-! end_by, ends_in. -/
namespace Lr
open PySem PySem.Spec PyProof.Rows L2
open Evl (Ex EvT)
section
variable {P : Program} {w : World} {K : PySem.W.Frag} {mg : Str → Option Value} {base : Heap} {f : Addr} {fd : FuncData} {σ : L2.St} {H : Hp} {te : TE}
theorem valV_kvK : ∀ {k : Lh.Keep} {t p : Int}, Lh.look k t = some p → valV (kvK k) (Sum.inl t : Key) = some (.int p)
  | [], _, _, h => by simp [Lh.look] at h
  | tp :: k, t, p, h => by
    by_cases e : tp.1 = t
    · have h2 : Lh.look (tp :: k) t = some tp.2 := by
        unfold Lh.look
        rw [List.lookup_cons, show (t == tp.1) = true by rw [beq_iff_eq]; exact e.symm]
      rw [h2] at h
      have z := Option.some.inj h
      subst z
      exact valV_pos (p := ((Sum.inl tp.1 : Key), V.int tp.2)) (congrArg Sum.inl e)
    · have h2 : Lh.look (tp :: k) t = Lh.look k t := by
        unfold Lh.look
        rw [List.lookup_cons, show (t == tp.1) = false from beq_eq_false_iff_ne.mpr fun z => e z.symm]
      rw [h2] at h
      refine (valV_neg (p := ((Sum.inl tp.1 : Key), V.int tp.2)) (r := kvK k) fun z => e ?_).trans (valV_kvK h)
      injection z
theorem ed_dget {i : Nat} {a : Addr} {k : Lh.Keep} {t p : Int} (hi : σ[i]? = some (some (.ref a))) (ha : H a = some (.dK (kvK k))) (ht : EvD K te σ H (.int t)) (hl : Lh.look k t = some p) : EvD K (tDGet (tVar i) te) σ H (.int p) := fun H1 e Q q =>
  ⟨_, hi, ht H1 e _ fun y H2 e2 dy => by
    cases dy
    refine ⟨a, .int p, rfl, ?_, q _ H2 e2 (.int p)⟩
    rw [← valV_kvK hl]
    exact DGet.k (k := Sum.inl t) (e2 _ _ (e _ _ ha))⟩
def spEndBy (K : PySem.W.Frag) : Sp := fun vs H Q _ => ∃ (v : V) (a : Addr) (S : List (List Int)) (k : Lh.Keep), vs = [v, .ref a] ∧ Dp K H v (encE S) ∧ OkS S ∧ H a = some (.dK (kvK k)) ∧ (∀ h ∈ S, ∀ t ∈ h, ∃ p, Lh.look k t = some p) ∧
  ∀ v' H', Ex H H' → Dp K H' v' (encE (Lh.endBy S (Lh.look k))) → Zt H' v' → Q v' H'
theorem ok_end_by (F : Fun K "end_by" "end_by" st_end_by f fd) (B : Names mg) : FnOk P w K mg base CX0 1 f fd ["hands", "keeper"] (spEndBy K) := by
  refine F.ok sc_end_by (fun vs H Q E h => ?_) (fun cdv A outer s H vs Q E hr h => ?_)
  · obtain ⟨_, _, _, _, rfl, _⟩ := h
    rfl
  · obtain ⟨v, a, S, k, rfl, dS, oS, ha, hk, q⟩ := h
    refine ⟨_, (pss_cons (ps_set (i := 2) sc_end_by.nd rfl (by first | exact Or.inl rfl | exact Or.inr rfl) (pe_lst pa_nil)) (Evl.pss_cut (ps_for PassesOwn.never rfl (pi_range1 (by rfl) B.range (pa_cons (pe_callB call_len_seq (by rfl) B.len (by decide +kernel) (pa_cons (pv 0) pa_nil)) pa_nil)) (pg_name (i := 3) sc_end_by.nd rfl (by first | exact Or.inl rfl | exact Or.inr rfl)) (pss_one (ps_expr (pe_bm PySem.F.plainAttrs_list PySem.F.slot_list_append PySem.F.type_list_append mt_append (pv 2) (pa_cons (pe_callTy call_tuple_of (by rfl) B.tuple (by decide +kernel) (pa_cons (pe_lc (own := [("thing", 4)]) (wi := (iTup K (tOp (rIxT K) (tVar 0) (tVar 3)))) (g := (gName 4)) (te := (tVar 4)) (tt := (tTest (tOp (rEqD K) (tDGet (tVar 1) (tVar 4)) (tVar 3)))) rfl sc_end_by.nd (pi_tup (pe_ix ix_tup (pv 0) (pv 3) (fun _ _ => rfl))) (blkOk_by (by rfl)) (fun _ _ _ _ _ => (pg_name (i := 4) sc_end_by.nd rfl (by first | exact Or.inl rfl | exact Or.inr rfl))) (fun _ _ _ _ _ => (pts_one (pt_cmpR (op_eqD hr.units) (pe_dget (hu_of hr) (pv 1) (pv 4) (fun _ _ => rfl)) (pv 3) (nomark _)))) (fun _ _ _ _ _ => (pv 4))) pa_nil)) pa_nil))))) (pss_one (ps_ret (pe_callTy cr_tupZ (by rfl) B.tuple (by decide +kernel) (pa_cons (pv 2) pa_nil)))))), ?_⟩
    refine ⟨Nat.zero_le _, fun L hL => ?_⟩
    have ex0 := Evl.Ex.new (o := .lst []) hL
    generalize hH1 : upd H L (.lst []) = H1 at ex0
    have hL1 : H1 L = some (.lst []) := by rw [← hH1, upd_same]
    have o5 := oS.hi
    refine Evl.q_cut (M := fun σ' H' => (∃ y z, σ' = [some v, some (.ref a), some (.ref L), y, z]) ∧ Ex H H' ∧ ∃ xs, H' L = some (.lst xs) ∧ DpAll K H' xs ((Lh.endBy S (Lh.look k)).map encH)) ?_ ?_
    · refine tfor_rng (ead_one (EvD.is (ed_lenT (ed_var rfl (Ex.dp ex0 dS))) (by rw [List.length_map]))) (by omega) fun H2 e2 => ?_
      have e02 := ex0.trans e2
      refine for_W (S := H) (l := (List.range S.length).map fun p : Nat => (p : Int)) (fun σ0 => wk_range (K := K) (j := 3)) (fun i σ' H' => (∃ y, σ' = [some v, some (.ref a), some (.ref L), y, none]) ∧ Ex H H' ∧ ∃ xs, H' L = some (.lst xs) ∧ DpAll K (hid H' L) xs ((((List.range S.length).take i).map fun p => (S.getD p []).filter fun t => Lh.look k t == some (p : Int)).map encH))
        ⟨⟨_, rfl⟩, e02, [], e2 _ _ hL1, .nil⟩ (fun i σ' H' p => p.2.1) (fun i b σ1 H3 σ2 H4 hb p e4 bb => ?_) (fun σ' H' p => ?_)
      · obtain ⟨⟨y, rfl⟩, e3, xs, hx, dx⟩ := p
        obtain ⟨x, dxb, _, rfl⟩ := bb
        cases dxb
        obtain ⟨hpS, rfl⟩ := mem_range_at hb
        have hp : (List.range S.length)[i]? = some i := by simp [hpS]
        have hS : S[i]? = some (S.getD i []) := by
          rw [List.getD_eq_getElem?_getD, List.getElem?_eq_getElem hpS]
          rfl
        have hm : S.getD i [] ∈ S := List.mem_of_getElem? hS
        have e34 := e3.trans e4
        have hx4 := e4 _ _ hx
        have lx := dpAll_len dx
        rw [List.length_map, List.length_map, List.length_take, List.length_range] at lx
        have l8 := (oS.all _ hm).len
        refine sd_app (i := 2) (d := encH ((S.getD i []).filter fun t => Lh.look k t == some (i : Int))) rfl hx4 (ed_tupL (lc_d (enc := PyData.int) (l := S.getD i []) (fun t => Lh.look k t == some (i : Int)) PyData.int (src_tup (ed_ixT (ed_var rfl (Ex.dp e34 dS)) (ed_var rfl (.int (i : Int))) (by rw [List.getElem?_map, hS]; rfl))) (by omega) (fun _ => rfl)
          (fun t ht x H5 e5 dx _ => ?_) (fun t ht _ x H5 e5 dx _ => ed_var rfl dx) (fun _ => rfl) rfl)) (by omega) fun z H5 e5 dz => ?_
        · obtain ⟨p', hp'⟩ := hk _ hm t ht
          refine et_test (EvD.is (ed_eqI (ed_dget (i := 1) rfl (e5 _ _ (e34 _ _ ha)) (ed_var rfl dx) hp') (ed_var rfl (.int (i : Int)))) ?_)
          rw [hp']
          rfl
        · have hx5 := e5 _ _ hx4
          refine ⟨⟨_, rfl⟩, Evl.Ex.mut (e34.trans e5) hL, xs ++ [z], upd_same, ?_⟩
          rw [hid_upd, List.take_add_one, hp, List.map_append, List.map_append]
          exact dp_app (Ex.dps (hid_mono (e4.trans e5)) dx) (dp_one (dp_hid (NoT.lst hx5) _ _ (noL_H _) dz))
      · obtain ⟨⟨y, rfl⟩, e3, xs, hx, dx⟩ := p
        refine ⟨⟨_, _, rfl⟩, e3, xs, hx, ?_⟩
        rw [List.length_map, List.take_length] at dx
        exact Ex.dps hid_ex dx
    · rintro σ' H' ⟨⟨y, z, rfl⟩, e3, xs, hx, dx⟩
      exact ed_tupZ (ed_var rfl (.lst (.inl (.inl hx)) dx)) H' (Evl.Ex.refl _) _ fun v' H'' e'' d'' z'' => q v' H'' (e3.trans e'') d'' z''
/-- the ends, in order -/
def ends (S : List (List Int)) : List (List (List Int)) := sortE (Lh.endsL S)
def spEnds (K : PySem.W.Frag) : Sp := fun vs H Q _ => ∃ (v : V) (S : List (List Int)), vs = [v] ∧ Dp K H v (encE S) ∧ OkS S ∧
  ∀ p xs H', H p = none → Ex H H' → H' p = some (.lst xs) → DpAll K H' xs ((ends S).map encE) → (∀ x ∈ xs, Zt H' x) → Q (.ref p) H'
theorem keep_has {S : List (List Int)} (oS : OkS S) {k : Lh.Keep} (hk : k ∈ Lh.keepers S) : ∀ h ∈ S, ∀ t ∈ h, ∃ p, Lh.look k t = some p := by
  intro h hh t ht
  obtain ⟨kf, _⟩ := Lh.keepers_form (S := S) _ (Lh.things S) (List.reverse_reverse _).symm k hk
  have hm : t ∈ Lh.things S := Lh.mem_ascOf.mpr ⟨List.mem_flatten.mpr ⟨h, hh, ht⟩, by have := (oS.all h hh).low t ht; omega⟩
  rw [← kf] at hm
  have key : ∀ k : Lh.Keep, t ∈ k.map Prod.fst → ∃ p, Lh.look k t = some p := by
    intro k
    induction k with
    | nil => intro h; simp at h
    | cons tp k ih =>
      intro h
      unfold Lh.look at ih ⊢
      rw [List.lookup_cons]
      cases hb : t == tp.1 with
      | true => exact ⟨_, rfl⟩
      | false =>
        rw [List.map_cons] at h
        rcases List.mem_cons.mp h with z | z
        · rw [beq_eq_false_iff_ne] at hb
          exact absurd z hb
        · exact ih z
  exact key k hm
theorem endBy_len (S : List (List Int)) (g : Int → Option Int) : (Lh.endBy S g).length = S.length := by
  unfold Lh.endBy
  rw [List.length_map, List.length_range]
theorem keepers_len {S : List (List Int)} (oS : OkS S) : (Lh.keepers S).length ≤ 15625 := by
  have h := keepersOf_len oS.hi _ (Lh.things S) (List.reverse_reverse _).symm
  exact Nat.le_trans h (Nat.pow_le_pow_right (by decide) (things_len oS) : 5 ^ (Lh.things S).length ≤ 5 ^ 6)
theorem ok_ends_in (F : Fun K "ends_in" "ends_in" st_ends_in f fd) (B : Names mg) (G_keepers_in : Kn P w K mg base 3 "keepers_in" ["hands"] (spKeepers K)) (G_end_by : Kn P w K mg base 1 "end_by" ["hands", "keeper"] (spEndBy K)) :
    FnOk P w K mg base CX0 4 f fd ["hands"] (spEnds K) := by
  refine F.ok sc_ends_in (fun vs H Q E h => ?_) (fun cdv A outer s H vs Q E hr h => ?_)
  · obtain ⟨_, _, rfl, _⟩ := h
    rfl
  · obtain ⟨v, S, rfl, dS, oS, q⟩ := h
    refine ⟨_, (pss_one (ps_ret (pe_callB (cr_sortD hr.units) (by rfl) B.sorted (by decide +kernel) (pa_cons (pe_lc (own := [("keeper", 1)]) (wi := (iList K (tCall (spKeepers K) [] E0 (tCons (tVar 0) tNil)))) (g := (gName 1)) (te := (tCall (spEndBy K) [] E0 (tCons (tVar 0) (tCons (tVar 1) tNil)))) (tt := tYes) rfl sc_ends_in.nd (pi_list (pe_fn G_keepers_in hr (pa_cons (pv 0) pa_nil))) (blkOk_by (by rfl)) (fun _ _ _ _ _ => (pg_name (i := 1) sc_ends_in.nd rfl (by first | exact Or.inl rfl | exact Or.inr rfl))) (fun _ _ _ _ _ => pts_nil) (fun _ _ _ _ _ => (pe_fn G_end_by (hr.mono (by decide)) (pa_cons (pv 0) (pa_cons (pv 1) pa_nil))))) pa_nil)))), ?_⟩
    have kl := keepers_len oS
    have src : Src (iList K (tCall (spKeepers K) [] E0 (tCons (tVar 0) tNil))) (gName 1) [some v, none] H (wipe [some v, none] [1]) (Lh.keepers S) (fun k H2 σ2 => ∃ b, H2 b = some (.dK (kvK k)) ∧ σ2 = (wipe [some v, none] [1]).set 1 (some (.ref b))) := fun H1 e R r =>
      ⟨v, rfl, v, S, rfl, Ex.dp e dS, oS, fun p xs H2 hp e2 h2 kp => ⟨p, rfl, ⟨xs, .inl (.inl h2)⟩, r _ H2 e2 (wk_kp (.inl (.inl h2)) kp)⟩⟩
    have key : EvFP K (tLc (iList K (tCall (spKeepers K) [] E0 (tCons (tVar 0) tNil))) (gName 1) tYes (tCall (spEndBy K) [] E0 (tCons (tVar 0) (tCons (tVar 1) tNil))) [1]) [some v, none] H ((Lh.keepers S).map fun k => encE (Lh.endBy S (Lh.look k))) Zt :=
      ef_lc0 (fun k => encE (Lh.endBy S (Lh.look k))) src (by omega) stay_zt (fun k H2 σ2 ⟨b, _, z⟩ => z ▸ rfl) (fun k hk H1 σ2 e1 ⟨b, hb, z⟩ => by
        subst z
        exact fun H2 e2 Q q => ⟨v, rfl, .ref b, rfl, v, b, S, k, rfl, Ex.dp (e1.trans e2) dS, oS, e2 _ _ hb, keep_has oS hk, fun v' H3 e3 d3 z3 => q v' H3 e3 d3 z3⟩) (fun k => noL_E _)
    have ee : ((Lh.keepers S).map fun k => encE (Lh.endBy S (Lh.look k))) = (Lh.endsL S).map encE := by
      unfold Lh.endsL
      rw [List.map_map]
      rfl
    refine ef_sortD stay_zt key.l (by rw [List.length_map]; omega) ?_ ?_ ?_ H (Evl.Ex.refl H) _ fun p xs H1 hp e1 h1 dx px => ?_
    · rw [ee]
      exact PySem.W.AllAlike.of alike_E
    · refine .inl fun d hd => ?_
      obtain ⟨k, _, rfl⟩ := List.mem_map.mp hd
      have l1 := endBy_len S (Lh.look k)
      cases hE : Lh.endBy S (Lh.look k) with
      | nil =>
        rw [hE] at l1
        have := oS.lo
        simp at l1
        omega
      | cons a r => exact ⟨encH a, r.map encH, rfl⟩
    · intro d hd
      obtain ⟨k, _, rfl⟩ := List.mem_map.mp hd
      have := dep_E (Lh.endBy S (Lh.look k))
      omega
    · rw [ee, ← sortE_enc] at dx
      exact q p xs H1 hp e1 h1 dx px
end
end Lr
end

section
set_option Elab.async false
set_option linter.all false
set_option maxRecDepth 100000
set_option maxHeartbeats 4000000
/-! The fair ones. -/
namespace Lr
open PySem PySem.Spec PyProof.Rows L2
open Evl (Ex EvT)
abbrev st_fairest : Stmt := topS 23
theorem sc_fairest : FnScope ["hands", "found", "end", "hand"] ["hands"] (defScope st_fairest) := ⟨rfl, rfl, rfl, by decide +kernel, rfl, by decide +kernel, by decide +kernel⟩
abbrev st_count_fair : Stmt := topS 24
theorem sc_count_fair : FnScope ["hands", "some", "hand", "end"] ["hands"] (defScope st_count_fair) := ⟨rfl, rfl, rfl, by decide +kernel, rfl, by decide +kernel, by decide +kernel⟩
abbrev st_squarest : Stmt := topS 25
theorem sc_squarest : FnScope ["hands", "found", "end", "hand"] ["hands"] (defScope st_squarest) := ⟨rfl, rfl, rfl, by decide +kernel, rfl, by decide +kernel, by decide +kernel⟩
abbrev st_most_empty : Stmt := topS 26
theorem sc_most_empty : FnScope ["hands", "many", "end"] ["hands"] (defScope st_most_empty) := ⟨rfl, rfl, rfl, by decide +kernel, rfl, by decide +kernel, by decide +kernel⟩
abbrev st_fewest_empty : Stmt := topS 27
theorem sc_fewest_empty : FnScope ["hands", "end"] ["hands"] (defScope st_fewest_empty) := ⟨rfl, rfl, rfl, by decide +kernel, rfl, by decide +kernel, by decide +kernel⟩
abbrev st_most_for : Stmt := topS 28
theorem sc_most_for : FnScope ["hands", "person", "many", "end"] ["hands", "person"] (defScope st_most_for) := ⟨rfl, rfl, rfl, by decide +kernel, rfl, by decide +kernel, by decide +kernel⟩
abbrev st_least_for : Stmt := topS 29
theorem sc_least_for : FnScope ["hands", "person", "end"] ["hands", "person"] (defScope st_least_for) := ⟨rfl, rfl, rfl, by decide +kernel, rfl, by decide +kernel, by decide +kernel⟩
structure OkE (S : List (List Int)) (e : En) : Prop where
  len : e.length = S.length
  low : ∀ h ∈ e, h.length ≤ 8
theorem ends_ok {S : List (List Int)} (oS : OkS S) {e : En} (h : e ∈ ends S) : OkE S e := by
  have h := mem_sortE.mp h
  obtain ⟨k, hk, rfl⟩ := List.mem_map.mp h
  refine ⟨endBy_len S _, fun g hg => ?_⟩
  obtain ⟨p, hp, rfl⟩ := List.mem_map.mp hg
  refine Nat.le_trans (List.length_filter_le _ _) ?_
  rw [List.mem_range] at hp
  rw [List.getD_eq_getElem?_getD, List.getElem?_eq_getElem hp]
  exact (oS.all _ (List.getElem_mem hp)).len
theorem endsL_ne {S : List (List Int)} (oS : OkS S) : Lh.endsL S ≠ [] := fun z => by
  have h := Lh.keys_perm oS.small
  rw [z] at h
  exact Lh.ends_ne oS.small (List.Perm.eq_nil h)
theorem ends_ne {S : List (List Int)} (oS : OkS S) : ends S ≠ [] := fun z => by
  obtain ⟨e, he⟩ := List.exists_mem_of_ne_nil _ (endsL_ne oS)
  have := mem_sortE.mpr he
  rw [show sortE (Lh.endsL S) = ends S from rfl, z] at this
  simp at this
theorem ends_len {S : List (List Int)} (oS : OkS S) : (ends S).length ≤ 15625 := by
  unfold ends sortE
  rw [List.length_mergeSort]
  unfold Lh.endsL
  rw [List.length_map]
  exact keepers_len oS
section
variable {K : PySem.W.Frag} {σ : L2.St} {H H' : Hp} {te ta tl to : TE} {tt : TT} {tu tw tz : TS} {D : Ends} {d : PyData} {ds : List PyData}
theorem qd_drop (h : EvD K te σ H d) (k : ∀ H1, Ex H H1 → tz D σ H1) : tSeq (tDrop te) tz D σ H := h H (Evl.Ex.refl H) _ fun _ H1 e _ => k H1 e
theorem ev_ends {i : Nat} {v : V} {S : List (List Int)} (hi : σ[i]? = some (some v)) (dS : Dp K H v (encE S)) (oS : OkS S) : EvLP K (tCall (spEnds K) [] E0 (tCons (tVar i) tNil)) σ H ((ends S).map encE) Zt := fun H1 e Q q =>
  ⟨v, hi, v, S, rfl, Ex.dp e dS, oS, fun p xs H2 _ e2 h2 dx px => q p xs H2 e2 (.inl (.inl h2)) dx px⟩
/-- max([len(hand) for hand in end]) -/
theorem ed_top {i j : Nat} {v : V} {e : En} (hi : σ[i]? = some (some v)) (hw : ∀ x, wipe ((wipe σ [j]).set j (some x)) [j] = wipe σ [j]) (hj : ∀ x, ((wipe σ [j]).set j (some x))[j]? = some (some x)) (hwi : (wipe σ [j])[i]? = some (some v)) (de : Dp K H v (encE e)) (ne : e ≠ []) (hn : e.length ≤ 100) :
    EvD K (tCB (rMax K) (tCons (tLc (iTup K (tVar i)) (gName j) tYes (tCB (Evl.rLenS K) (tCons (tVar j) tNil)) [j]) tNil)) σ H (.int (topOf e)) := by
  obtain ⟨g, hg, eg⟩ := topOf_mem e ne
  refine ed_max (ns := e.map fun h => (h.length : Int)) (lc_d0 (l := e) (enc := encH) (fun h => .int (h.length : Nat)) (src_tup (ed_var hi de)) (by omega) hw (fun h hh x H1 e1 dx _ => EvD.is (ed_lenT (ds := h.map .int) (ed_var (hj x) dx)) (by rw [List.length_map])) (fun _ => rfl) (by rw [List.map_map]; rfl)) (List.mem_map.mpr ⟨g, hg, eg⟩) fun y hy => ?_
  obtain ⟨h, hh, rfl⟩ := List.mem_map.mp hy
  exact (topOf_le e).2 h hh
/-- sum([len(hand) * len(hand) for hand in end]) -/
theorem ed_sq {i j : Nat} {v : V} {e : En} (hi : σ[i]? = some (some v)) (hw : ∀ x, wipe ((wipe σ [j]).set j (some x)) [j] = wipe σ [j]) (hj : ∀ x, ((wipe σ [j]).set j (some x))[j]? = some (some x)) (de : Dp K H v (encE e)) (hn : e.length ≤ 100) (h8 : ∀ h ∈ e, h.length ≤ 8) :
    EvD K (tCB (rSum K) (tCons (tLc (iTup K (tVar i)) (gName j) tYes (tOp (rI CMul fun i j => V.int (i * j)) (tCB (Evl.rLenS K) (tCons (tVar j) tNil)) (tCB (Evl.rLenS K) (tCons (tVar j) tNil))) [j]) tNil)) σ H (.int (sqOf e)) := by
  refine ed_sum (ns := e.map fun h => (h.length : Int) * (h.length : Int)) (lc_d0 (l := e) (enc := encH) (fun h => .int ((h.length : Int) * (h.length : Int))) (src_tup (ed_var hi de)) (by omega) hw (fun h hh x H1 e1 dx _ => ?_) (fun _ => rfl) (by rw [List.map_map]; rfl))
  have l1 : EvD K (tCB (Evl.rLenS K) (tCons (tVar j) tNil)) ((wipe σ [j]).set j (some x)) H1 (.int (h.length : Nat)) := EvD.is (ed_lenT (ds := h.map .int) (ed_var (hj x) dx)) (by rw [List.length_map])
  have := h8 h hh
  exact ed_I l1 l1 (.inl ⟨by omega, by omega⟩) fun _ => .int _
theorem ed_empties {i : Nat} {v : V} {e : En} (hi : σ[i]? = some (some v)) (de : Dp K H v (encE e)) (ze : Zt H v) : EvD K (tCountZ K (tVar i) (tCons (tTup tNil) tNil)) σ H (.int (emptyOf e)) := by
  refine EvD.is (ed_countZ (d := encH []) hi de ze (ed_tup ead_nil (by simp)) (clns_plain _ (clns_map cln_H e)) (cln_plain _ (cln_H [])) (by have := dep_H []; omega)) ?_
  unfold emptyOf
  rw [List.countP_map]
  congr 2
  refine List.countP_congr fun h _ => ?_
  show PyData.eqv (encH h) (encH []) = true ↔ _
  rw [eqv_H]
/-- a list of pairs, made by a loop; then its least -/
def rBest (c : En → Int) (ds : List PyData) (d : PyData) : Prop := ∃ S, OkS S ∧ ds = [encE S] ∧ d = pairD c (bestE c (ends S))
end
section
variable {P : Program} {w : World} {K : PySem.W.Frag} {mg : Str → Option Value} {base : Heap} {f : Addr} {fd : FuncData}
theorem loop_pairs {c : En → Int} {S : List (List Int)} {te : TE} {v : V} {H : Hp} {D : Ends} (oS : OkS S) (dS : Dp K H v (encE S))
    (hte : ∀ (e : En) (L : Addr) (x : V) (H1 : Hp), e ∈ ends S → Dp K H1 x (encE e) → EvD K te [some v, some (.ref L), some x, none] H1 (.int (c e)))
    (q : ∀ v' H', Ex H H' → Dp K H' v' (pairD c (bestE c (ends S))) → D.rt v' H') :
    tSeq (tAsg (tLst tNil) (gName 1)) (Evl.tCut (tFor (iList K (tCall (spEnds K) [] E0 (tCons (tVar 0) tNil))) (gName 2) (tDrop (tBM K "list" rAppend (tVar 1) (tCons (tTup (tCons te (tCons (tVar 2) tNil))) tNil)))) (tRet (tCB (rMinD K) (tCons (tVar 1) tNil)))) D [some v, none, none, none] H := by
  refine ⟨Nat.zero_le _, fun L hL => ?_⟩
  have ex0 := Evl.Ex.new (o := .lst []) hL
  generalize hH1 : upd H L (.lst []) = H1 at ex0
  have hL1 : H1 L = some (.lst []) := by rw [← hH1, upd_same]
  refine Evl.q_cut (M := fun σ' H' => (∃ y, σ' = [some v, some (.ref L), y, none]) ∧ Ex H H' ∧ ∃ xs, H' L = some (.lst xs) ∧ DpAll K H' xs ((ends S).map (pairD c))) ?_ ?_
  · refine ⟨v, rfl, v, S, rfl, Ex.dp ex0 dS, oS, fun p xs H2 hp e2 h2 dx px => ⟨p, rfl, ⟨xs, .inl (.inl h2)⟩, ?_⟩⟩
    have hL2 := e2 _ _ hL1
    have nep : p ≠ L := fun z => by
      rw [z, hL1] at hp
      cases hp
    have hb : Ex H (hid H2 L) := ex_hid (ex0.trans e2) hL
    have h2' : (hid H2 L) p = some (.lst xs) := by rw [hid_ne nep]; exact h2
    refine for_S (S := hid H2 L) (l := ends S) (enc := encE) (P := Zt) (.inl (.inl h2')) (dps_hid (NoT.lst hL2) _ _ (noLs_map noL_E _) dx) (fun x hx => stay_zt.hid hL2 (px x hx)) stay_zt
      (fun i σ' H' => (∃ y, σ' = [some v, some (.ref L), y, none]) ∧ Ex (hid H2 L) H' ∧ ∃ xs, H' L = some (.lst xs) ∧ DpAll K (hid H' L) xs (((ends S).take i).map (pairD c))) ⟨⟨_, rfl⟩, hid_ex, [], hL2, .nil⟩ (fun i σ' H' p => p.2.1) (fun i e x σ1 H3 he pv de _ => ?_) (fun σ' H' pv => ?_)
    · obtain ⟨⟨y, rfl⟩, e3, ys, hy, dy⟩ := pv
      have hm := List.mem_of_getElem? he
      have ly := dpAll_len dy
      have le := ends_len oS
      rw [List.length_map, List.length_take] at ly
      refine sd_app (i := 1) (d := pairD c e) rfl hy (ed_tup (ead_cons (hte e L x H3 hm de) (ead_one (ed_var rfl de))) (by simp)) (by omega) fun z H5 e5 dz => ?_
      have hx5 := e5 _ _ hy
      refine ⟨⟨_, rfl⟩, fun b o hb => ?_, ys ++ [z], upd_same, ?_⟩
      · have nb : b ≠ L := by
          rintro rfl
          rw [hid_same] at hb
          cases hb
        rw [upd_ne nb]
        exact e5 b o (e3 b o hb)
      · rw [hid_upd, List.take_add_one, he, List.map_append]
        exact dp_app (Ex.dps (hid_mono e5) dy) (dp_one (dp_hid (NoT.lst hx5) _ _ (noL_pair c e) dz))
    · obtain ⟨⟨y, rfl⟩, e3, ys, hy, dy⟩ := pv
      rw [List.take_length] at dy
      exact ⟨⟨_, rfl⟩, hb.trans e3, ys, hy, Ex.dps hid_ex dy⟩
  · rintro σ' H' ⟨⟨y, rfl⟩, e3, ys, hy, dy⟩
    exact sd_ret (ed_minP (ends_ne oS) (ed_var rfl (.lst (.inl (.inl hy)) dy))) fun v' H'' e'' d'' => q v' H'' (e3.trans e'') d''
theorem ok_fairest (F : Fun K "fairest" "fairest" st_fairest f fd) (B : Names mg) (G_need_hands : Kn P w K mg base 4 "need_hands" ["hands"] (spR K rNeedHands)) (G_ends_in : Kn P w K mg base 4 "ends_in" ["hands"] (spEnds K)) :
    FnOk P w K mg base CX0 5 f fd ["hands"] (spR K (rBest topOf)) := by
  refine F.ok sc_fairest (fun vs H Q E h => ?_) (fun cdv A outer s H vs Q E hr h => ?_)
  · obtain ⟨ds, d, dv, ⟨i, _, rfl, _⟩, _⟩ := h
    exact dpAll_len dv
  · obtain ⟨ds, d, dv, ⟨S, oS, rfl, rfl⟩, q⟩ := h
    refine ⟨_, (pss_cons (ps_expr (pe_fn G_need_hands hr (pa_cons (pv 0) pa_nil))) (pss_cons (ps_set (i := 1) sc_fairest.nd rfl (by first | exact Or.inl rfl | exact Or.inr rfl) (pe_lst pa_nil)) (Evl.pss_cut (ps_for PassesOwn.never rfl (pi_list (pe_fn G_ends_in hr (pa_cons (pv 0) pa_nil))) (pg_name (i := 2) sc_fairest.nd rfl (by first | exact Or.inl rfl | exact Or.inr rfl)) (pss_one (ps_expr (pe_bm PySem.F.plainAttrs_list PySem.F.slot_list_append PySem.F.type_list_append mt_append (pv 1) (pa_cons (pe_tup (pa_cons (pe_callB (cr_max rfl) (by rfl) B.max (by decide +kernel) (pa_cons (pe_lc (own := [("hand", 3)]) (wi := (iTup K (tVar 2))) (g := (gName 3)) (te := (tCB (Evl.rLenS K) (tCons (tVar 3) tNil))) (tt := tYes) rfl sc_fairest.nd (pi_tup (pv 2)) (blkOk_by (by rfl)) (fun _ _ _ _ _ => (pg_name (i := 3) sc_fairest.nd rfl (by first | exact Or.inl rfl | exact Or.inr rfl))) (fun _ _ _ _ _ => pts_nil) (fun _ _ _ _ _ => (pe_callB call_len_seq (by rfl) B.len (by decide +kernel) (pa_cons (pv 3) pa_nil)))) pa_nil)) (pa_cons (pv 2) pa_nil))) pa_nil))))) (pss_one (ps_ret (pe_callB (cr_minD rfl hr.units) (by rfl) B.min (by decide +kernel) (pa_cons (pv 1) pa_nil))))))), ?_⟩
    cases dv with
    | cons dS r =>
    cases r
    refine qd_drop (ed_call (ead_one (ed_var rfl dS)) ⟨S, oS, rfl, rfl⟩) fun H1 e1 => ?_
    refine loop_pairs (c := topOf) oS (Ex.dp e1 dS) (fun e L x H2 he de => ?_) fun v' H' e' d' => q v' H' (e1.trans e') d'
    have oe := ends_ok oS he
    have := oS.lo
    have := oS.hi
    exact ed_top (i := 2) (j := 3) rfl (fun _ => rfl) (fun _ => rfl) rfl de (fun z => by have := oe.len; rw [z] at this; simp at this; omega) (by have := oe.len; omega)
theorem ok_squarest (F : Fun K "squarest" "squarest" st_squarest f fd) (B : Names mg) (G_need_hands : Kn P w K mg base 4 "need_hands" ["hands"] (spR K rNeedHands)) (G_ends_in : Kn P w K mg base 4 "ends_in" ["hands"] (spEnds K)) :
    FnOk P w K mg base CX0 5 f fd ["hands"] (spR K (rBest sqOf)) := by
  refine F.ok sc_squarest (fun vs H Q E h => ?_) (fun cdv A outer s H vs Q E hr h => ?_)
  · obtain ⟨ds, d, dv, ⟨i, _, rfl, _⟩, _⟩ := h
    exact dpAll_len dv
  · obtain ⟨ds, d, dv, ⟨S, oS, rfl, rfl⟩, q⟩ := h
    refine ⟨_, (pss_cons (ps_expr (pe_fn G_need_hands hr (pa_cons (pv 0) pa_nil))) (pss_cons (ps_set (i := 1) sc_squarest.nd rfl (by first | exact Or.inl rfl | exact Or.inr rfl) (pe_lst pa_nil)) (Evl.pss_cut (ps_for PassesOwn.never rfl (pi_list (pe_fn G_ends_in hr (pa_cons (pv 0) pa_nil))) (pg_name (i := 2) sc_squarest.nd rfl (by first | exact Or.inl rfl | exact Or.inr rfl)) (pss_one (ps_expr (pe_bm PySem.F.plainAttrs_list PySem.F.slot_list_append PySem.F.type_list_append mt_append (pv 1) (pa_cons (pe_tup (pa_cons (pe_callB (cr_sum rfl) (by rfl) B.sum (by decide +kernel) (pa_cons (pe_lc (own := [("hand", 3)]) (wi := (iTup K (tVar 2))) (g := (gName 3)) (te := (tOp (rI CMul fun i j => V.int (i * j)) (tCB (Evl.rLenS K) (tCons (tVar 3) tNil)) (tCB (Evl.rLenS K) (tCons (tVar 3) tNil)))) (tt := tYes) rfl sc_squarest.nd (pi_tup (pv 2)) (blkOk_by (by rfl)) (fun _ _ _ _ _ => (pg_name (i := 3) sc_squarest.nd rfl (by first | exact Or.inl rfl | exact Or.inr rfl))) (fun _ _ _ _ _ => pts_nil) (fun _ _ _ _ _ => (pe_op op_mul (pe_callB call_len_seq (by rfl) B.len (by decide +kernel) (pa_cons (pv 3) pa_nil)) (pe_callB call_len_seq (by rfl) B.len (by decide +kernel) (pa_cons (pv 3) pa_nil))))) pa_nil)) (pa_cons (pv 2) pa_nil))) pa_nil))))) (pss_one (ps_ret (pe_callB (cr_minD rfl hr.units) (by rfl) B.min (by decide +kernel) (pa_cons (pv 1) pa_nil))))))), ?_⟩
    cases dv with
    | cons dS r =>
    cases r
    refine qd_drop (ed_call (ead_one (ed_var rfl dS)) ⟨S, oS, rfl, rfl⟩) fun H1 e1 => ?_
    refine loop_pairs (c := sqOf) oS (Ex.dp e1 dS) (fun e L x H2 he de => ?_) fun v' H' e' d' => q v' H' (e1.trans e') d'
    have oe := ends_ok oS he
    have := oS.hi
    exact ed_sq (i := 2) (j := 3) rfl (fun _ => rfl) (fun _ => rfl) de (by have := oe.len; omega) oe.low
/-- the list of what c says of the ends; the least is found so often -/
def rCount (ds : List PyData) (d : PyData) : Prop := ∃ S, OkS S ∧ ds = [encE S] ∧ ∃ m, m ∈ (ends S).map topOf ∧ (∀ y ∈ (ends S).map topOf, m ≤ y) ∧ d = .int (((ends S).map topOf).count m : Nat)
theorem least_of : ∀ l : List Int, l ≠ [] → ∃ m ∈ l, ∀ y ∈ l, m ≤ y
  | [], h => absurd rfl h
  | [a], _ => ⟨a, by simp, by simp⟩
  | a :: b :: l, _ => by
    obtain ⟨m, h1, h2⟩ := least_of (b :: l) (by simp)
    by_cases z : a ≤ m
    · refine ⟨a, by simp, fun y hy => ?_⟩
      rcases List.mem_cons.mp hy with e | e
      · omega
      · have := h2 y e
        omega
    · refine ⟨m, List.mem_cons_of_mem _ h1, fun y hy => ?_⟩
      rcases List.mem_cons.mp hy with e | e
      · omega
      · exact h2 y e
theorem ok_count_fair (F : Fun K "count_fair" "count_fair" st_count_fair f fd) (B : Names mg) (G_need_hands : Kn P w K mg base 4 "need_hands" ["hands"] (spR K rNeedHands)) (G_ends_in : Kn P w K mg base 4 "ends_in" ["hands"] (spEnds K)) :
    FnOk P w K mg base CX0 5 f fd ["hands"] (spR K rCount) := by
  refine F.ok sc_count_fair (fun vs H Q E h => ?_) (fun cdv A outer s H vs Q E hr h => ?_)
  · obtain ⟨ds, d, dv, ⟨i, _, rfl, _⟩, _⟩ := h
    exact dpAll_len dv
  · obtain ⟨ds, d, dv, ⟨S, oS, rfl, m, hm, hle, rfl⟩, q⟩ := h
    refine ⟨_, (pss_cons (ps_expr (pe_fn G_need_hands hr (pa_cons (pv 0) pa_nil))) (pss_cons (ps_setLc (i := 1) (own := [("end", 3)]) (wi := (iList K (tCall (spEnds K) [] E0 (tCons (tVar 0) tNil)))) (g := (gName 3)) (te := (tCB (rMax K) (tCons (tLc (iTup K (tVar 3)) (gName 2) tYes (tCB (Evl.rLenS K) (tCons (tVar 2) tNil)) [2]) tNil))) (tt := tYes) rfl sc_count_fair.nd rfl rfl (sw_true rfl rfl rfl (by decide +kernel)) (pi_list (pe_fn G_ends_in hr (pa_cons (pv 0) pa_nil))) (blkOk_by (by rfl)) (fun _ _ _ _ _ => (pg_name (i := 3) sc_count_fair.nd rfl (by first | exact Or.inl rfl | exact Or.inr rfl))) (fun _ _ _ _ _ => pts_nil) (fun _ _ _ _ _ => (pe_callB (cr_max rfl) (by rfl) B.max (by decide +kernel) (pa_cons (pe_lc (own := [("hand", 2)]) (wi := (iTup K (tVar 3))) (g := (gName 2)) (te := (tCB (Evl.rLenS K) (tCons (tVar 2) tNil))) (tt := tYes) rfl sc_count_fair.nd (pi_tup (pv 3)) (blkOk_by (by rfl)) (fun _ _ _ _ _ => (pg_name (i := 2) sc_count_fair.nd rfl (by first | exact Or.inl rfl | exact Or.inr rfl))) (fun _ _ _ _ _ => pts_nil) (fun _ _ _ _ _ => (pe_callB call_len_seq (by rfl) B.len (by decide +kernel) (pa_cons (pv 2) pa_nil)))) pa_nil)))) (pss_one (ps_ret (pe_bm PySem.F.plainAttrs_list PySem.F.slot_list_count PySem.F.type_list_count mt_lcount (pv 1) (pa_cons (pe_callB (cr_min rfl) (by rfl) B.min (by decide +kernel) (pa_cons (pv 1) pa_nil)) pa_nil)))))), ?_⟩
    cases dv with
    | cons dS r =>
    cases r
    have l1 := ends_len oS
    refine qd_drop (ed_call (ead_one (ed_var rfl dS)) ⟨S, oS, rfl, rfl⟩) fun H1 e1 => ?_
    refine qd_asg (lc_d0 (l := ends S) (enc := encE) (es := ((ends S).map topOf).map .int) (fun e => .int (topOf e)) (src_list stay_zt (ev_ends rfl (Ex.dp e1 dS) oS)) (by omega) (fun _ => rfl) (fun e he x H2 e2 dx _ => ?_) (fun _ => rfl) (by rw [List.map_map]; rfl)) fun v2 H2 e2 d2 => ?_
    · have oe := ends_ok oS he
      have := oS.lo
      have := oS.hi
      exact ed_top (i := 3) (j := 2) rfl (fun _ => rfl) (fun _ => rfl) rfl dx (fun z => by have := oe.len; rw [z] at this; simp at this; omega) (by have := oe.len; omega)
    · exact sd_ret (ed_lcount (ed_var rfl d2) (ed_min (ed_var rfl d2) hm hle)) fun v' H3 e3 d3 => q v' H3 ((e1.trans e2).trans e3) d3
def rMost (c : En → Int) (ds : List PyData) (d : PyData) : Prop := ∃ S, OkS S ∧ ds = [encE S] ∧ d = pairD c (bestE (fun e => -(c e)) (ends S))
theorem ok_fewest_empty (F : Fun K "fewest_empty" "fewest_empty" st_fewest_empty f fd) (B : Names mg) (G_need_hands : Kn P w K mg base 4 "need_hands" ["hands"] (spR K rNeedHands)) (G_ends_in : Kn P w K mg base 4 "ends_in" ["hands"] (spEnds K)) :
    FnOk P w K mg base CX0 5 f fd ["hands"] (spR K (rBest emptyOf)) := by
  refine F.ok sc_fewest_empty (fun vs H Q E h => ?_) (fun cdv A outer s H vs Q E hr h => ?_)
  · obtain ⟨ds, d, dv, ⟨i, _, rfl, _⟩, _⟩ := h
    exact dpAll_len dv
  · obtain ⟨ds, d, dv, ⟨S, oS, rfl, rfl⟩, q⟩ := h
    refine ⟨_, (pss_cons (ps_expr (pe_fn G_need_hands hr (pa_cons (pv 0) pa_nil))) (pss_one (ps_ret (pe_callB (cr_minD rfl hr.units) (by rfl) B.min (by decide +kernel) (pa_cons (pe_lc (own := [("end", 1)]) (wi := (iList K (tCall (spEnds K) [] E0 (tCons (tVar 0) tNil)))) (g := (gName 1)) (te := (tTup (tCons (tCountZ K (tVar 1) (tCons (tTup tNil) tNil)) (tCons (tVar 1) tNil)))) (tt := tYes) rfl sc_fewest_empty.nd (pi_list (pe_fn G_ends_in hr (pa_cons (pv 0) pa_nil))) (blkOk_by (by rfl)) (fun _ _ _ _ _ => (pg_name (i := 1) sc_fewest_empty.nd rfl (by first | exact Or.inl rfl | exact Or.inr rfl))) (fun _ _ _ _ _ => pts_nil) (fun _ _ _ _ _ => (pe_tup (pa_cons (pe_countZ hr.units (pv 1) (pa_cons (pe_tup pa_nil) pa_nil)) (pa_cons (pv 1) pa_nil))))) pa_nil))))), ?_⟩
    cases dv with
    | cons dS r =>
    cases r
    have l1 := ends_len oS
    refine qd_drop (ed_call (ead_one (ed_var rfl dS)) ⟨S, oS, rfl, rfl⟩) fun H1 e1 => ?_
    refine sd_ret (ed_minP (c := emptyOf) (ends_ne oS) (lc_d0 (l := ends S) (enc := encE) (pairD emptyOf) (src_list stay_zt (ev_ends rfl (Ex.dp e1 dS) oS)) (by omega) (fun _ => rfl) (fun e he x H2 e2 dx zx => ?_) (noL_pair emptyOf) rfl)) fun v' H3 e3 d3 => q v' H3 (e1.trans e3) d3
    exact ed_tup (ead_cons (ed_empties rfl dx zx) (ead_one (ed_var rfl dx))) (by simp)
theorem ok_most_empty (F : Fun K "most_empty" "most_empty" st_most_empty f fd) (B : Names mg) (G_need_hands : Kn P w K mg base 4 "need_hands" ["hands"] (spR K rNeedHands)) (G_ends_in : Kn P w K mg base 4 "ends_in" ["hands"] (spEnds K)) :
    FnOk P w K mg base CX0 5 f fd ["hands"] (spR K (rMost emptyOf)) := by
  refine F.ok sc_most_empty (fun vs H Q E h => ?_) (fun cdv A outer s H vs Q E hr h => ?_)
  · obtain ⟨ds, d, dv, ⟨i, _, rfl, _⟩, _⟩ := h
    exact dpAll_len dv
  · obtain ⟨ds, d, dv, ⟨S, oS, rfl, rfl⟩, q⟩ := h
    refine ⟨_, (pss_cons (ps_expr (pe_fn G_need_hands hr (pa_cons (pv 0) pa_nil))) (pss_cons (ps_asg (pe_callB (cr_minD rfl hr.units) (by rfl) B.min (by decide +kernel) (pa_cons (pe_lc (own := [("end", 2)]) (wi := (iList K (tCall (spEnds K) [] E0 (tCons (tVar 0) tNil)))) (g := (gName 2)) (te := (tTup (tCons (tUn (rU fun i => V.int (-i)) (tCountZ K (tVar 2) (tCons (tTup tNil) tNil))) (tCons (tVar 2) tNil)))) (tt := tYes) rfl sc_most_empty.nd (pi_list (pe_fn G_ends_in hr (pa_cons (pv 0) pa_nil))) (blkOk_by (by rfl)) (fun _ _ _ _ _ => (pg_name (i := 2) sc_most_empty.nd rfl (by first | exact Or.inl rfl | exact Or.inr rfl))) (fun _ _ _ _ _ => pts_nil) (fun _ _ _ _ _ => (pe_tup (pa_cons (pe_un un_neg (pe_countZ hr.units (pv 2) (pa_cons (pe_tup pa_nil) pa_nil))) (pa_cons (pv 2) pa_nil))))) pa_nil)) (pg_tup (by rfl) (pgs_cons (pg_name (i := 1) sc_most_empty.nd rfl (by first | exact Or.inl rfl | exact Or.inr rfl)) (pgs_cons (pg_name (i := 2) sc_most_empty.nd rfl (by first | exact Or.inl rfl | exact Or.inr rfl)) pgs_nil)))) (pss_one (ps_ret (pe_tup (pa_cons (pe_un un_neg (pv 1)) (pa_cons (pv 2) pa_nil))))))), ?_⟩
    cases dv with
    | cons dS r =>
    cases r
    have l1 := ends_len oS
    refine qd_drop (ed_call (ead_one (ed_var rfl dS)) ⟨S, oS, rfl, rfl⟩) fun H1 e1 => ?_
    refine ed_minP (c := fun e => -(emptyOf e)) (ends_ne oS) (lc_d0 (l := ends S) (enc := encE) (pairD fun e => -(emptyOf e)) (src_list stay_zt (ev_ends rfl (Ex.dp e1 dS) oS)) (by omega) (fun _ => rfl) (fun e he x H2 e2 dx zx => ?_) (noL_pair _) rfl) H1 (Evl.Ex.refl _) _ fun v2 H2 e2 d2 => ?_
    · exact ed_tup (ead_cons (ed_neg (ed_empties rfl dx zx)) (ead_one (ed_var rfl dx))) (by simp)
    · generalize bestE (fun e => -(emptyOf e)) (ends S) = b at d2 q
      cases d2 with
      | @tup a xs _ hx dx =>
      cases dx with
      | cons d1 r =>
      cases r with
      | cons d3 r =>
      cases r
      refine ⟨a, _, rfl, hx, rfl, _, _, rfl, _, _, rfl, rfl, ?_⟩
      refine sd_ret (EvD.is (ed_tup (ead_cons (ed_neg (ed_var rfl d1)) (ead_one (ed_var rfl d3))) (by simp)) ?_) fun v' H3 e3 d4 => q v' H3 ((e1.trans e2).trans e3) d4
      unfold pairD
      rw [Int.neg_neg]
def rBestFor (ds : List PyData) (d : PyData) : Prop := ∃ (S : List (List Int)) (p : Nat), OkS S ∧ p < S.length ∧ ds = [encE S, .int (p : Nat)] ∧ d = pairD (lenAt p) (bestE (lenAt p) (ends S))
def rMostFor (ds : List PyData) (d : PyData) : Prop := ∃ (S : List (List Int)) (p : Nat), OkS S ∧ p < S.length ∧ ds = [encE S, .int (p : Nat)] ∧ d = pairD (lenAt p) (bestE (fun e => -(lenAt p e)) (ends S))
theorem ed_lenAt {σ : L2.St} {H : Hp} {i j : Nat} {v : V} {S : List (List Int)} {e : En} {p : Nat} (hi : σ[i]? = some (some v)) (hj : σ[j]? = some (some (.int (p : Nat)))) (de : Dp K H v (encE e)) (oe : OkE S e) (hp : p < S.length) :
    EvD K (tCB (Evl.rLenS K) (tCons (tOp (rIxT K) (tVar i) (tVar j)) tNil)) σ H (.int (lenAt p e)) := by
  have hp2 : p < e.length := by rw [oe.len]; exact hp
  have he : e[p]? = some (e.getD p []) := by
    rw [List.getD_eq_getElem?_getD, List.getElem?_eq_getElem hp2]
    rfl
  exact EvD.is (ed_lenT (ds := (e.getD p []).map .int) (ed_ixT (ed_var hi de) (ed_var hj (.int _)) (by rw [List.getElem?_map, he]; rfl))) (by rw [List.length_map]; rfl)
theorem ok_least_for (F : Fun K "least_for" "least_for" st_least_for f fd) (B : Names mg) (G_need_hands : Kn P w K mg base 4 "need_hands" ["hands"] (spR K rNeedHands)) (G_need_person : Kn P w K mg base 3 "need_person" ["hands", "person"] (spR K rNeedPerson)) (G_ends_in : Kn P w K mg base 4 "ends_in" ["hands"] (spEnds K)) :
    FnOk P w K mg base CX0 5 f fd ["hands", "person"] (spR K rBestFor) := by
  refine F.ok sc_least_for (fun vs H Q E h => ?_) (fun cdv A outer s H vs Q E hr h => ?_)
  · obtain ⟨ds, d, dv, ⟨i, _, _, _, rfl, _⟩, _⟩ := h
    exact dpAll_len dv
  · obtain ⟨ds, d, dv, ⟨S, p, oS, hp, rfl, rfl⟩, q⟩ := h
    refine ⟨_, (pss_cons (ps_expr (pe_fn G_need_hands hr (pa_cons (pv 0) pa_nil))) (pss_cons (ps_expr (pe_fn G_need_person (hr.mono (by decide)) (pa_cons (pv 0) (pa_cons (pv 1) pa_nil)))) (pss_one (ps_ret (pe_callB (cr_minD rfl hr.units) (by rfl) B.min (by decide +kernel) (pa_cons (pe_lc (own := [("end", 2)]) (wi := (iList K (tCall (spEnds K) [] E0 (tCons (tVar 0) tNil)))) (g := (gName 2)) (te := (tTup (tCons (tCB (Evl.rLenS K) (tCons (tOp (rIxT K) (tVar 2) (tVar 1)) tNil)) (tCons (tVar 2) tNil)))) (tt := tYes) rfl sc_least_for.nd (pi_list (pe_fn G_ends_in hr (pa_cons (pv 0) pa_nil))) (blkOk_by (by rfl)) (fun _ _ _ _ _ => (pg_name (i := 2) sc_least_for.nd rfl (by first | exact Or.inl rfl | exact Or.inr rfl))) (fun _ _ _ _ _ => pts_nil) (fun _ _ _ _ _ => (pe_tup (pa_cons (pe_callB call_len_seq (by rfl) B.len (by decide +kernel) (pa_cons (pe_ix ix_tup (pv 2) (pv 1) (fun _ _ => rfl)) pa_nil)) (pa_cons (pv 2) pa_nil))))) pa_nil)))))), ?_⟩
    cases dv with
    | cons dS r =>
    cases r with
    | cons dp r =>
    cases r
    cases dp
    have l1 := ends_len oS
    refine qd_drop (ed_call (ead_one (ed_var rfl dS)) ⟨S, oS, rfl, rfl⟩) fun H1 e1 => ?_
    refine qd_drop (ed_call (ead_cons (ed_var rfl (Ex.dp e1 dS)) (ead_one (ed_var rfl (.int _)))) ⟨S, _, by omega, by omega, rfl, rfl⟩) fun H2 e2 => ?_
    have e12 := e1.trans e2
    refine sd_ret (ed_minP (c := lenAt p) (ends_ne oS) (lc_d0 (l := ends S) (enc := encE) (pairD (lenAt p)) (src_list stay_zt (ev_ends rfl (Ex.dp e12 dS) oS)) (by omega) (fun _ => rfl) (fun e he x H2 e2 dx zx => ?_) (noL_pair _) rfl)) fun v' H3 e3 d3 => q v' H3 (e12.trans e3) d3
    exact ed_tup (ead_cons (ed_lenAt (i := 2) (j := 1) rfl rfl dx (ends_ok oS he) hp) (ead_one (ed_var rfl dx))) (by simp)
theorem ok_most_for (F : Fun K "most_for" "most_for" st_most_for f fd) (B : Names mg) (G_need_hands : Kn P w K mg base 4 "need_hands" ["hands"] (spR K rNeedHands)) (G_need_person : Kn P w K mg base 3 "need_person" ["hands", "person"] (spR K rNeedPerson)) (G_ends_in : Kn P w K mg base 4 "ends_in" ["hands"] (spEnds K)) :
    FnOk P w K mg base CX0 5 f fd ["hands", "person"] (spR K rMostFor) := by
  refine F.ok sc_most_for (fun vs H Q E h => ?_) (fun cdv A outer s H vs Q E hr h => ?_)
  · obtain ⟨ds, d, dv, ⟨i, _, _, _, rfl, _⟩, _⟩ := h
    exact dpAll_len dv
  · obtain ⟨ds, d, dv, ⟨S, p, oS, hp, rfl, rfl⟩, q⟩ := h
    refine ⟨_, (pss_cons (ps_expr (pe_fn G_need_hands hr (pa_cons (pv 0) pa_nil))) (pss_cons (ps_expr (pe_fn G_need_person (hr.mono (by decide)) (pa_cons (pv 0) (pa_cons (pv 1) pa_nil)))) (pss_cons (ps_asg (pe_callB (cr_minD rfl hr.units) (by rfl) B.min (by decide +kernel) (pa_cons (pe_lc (own := [("end", 3)]) (wi := (iList K (tCall (spEnds K) [] E0 (tCons (tVar 0) tNil)))) (g := (gName 3)) (te := (tTup (tCons (tUn (rU fun i => V.int (-i)) (tCB (Evl.rLenS K) (tCons (tOp (rIxT K) (tVar 3) (tVar 1)) tNil))) (tCons (tVar 3) tNil)))) (tt := tYes) rfl sc_most_for.nd (pi_list (pe_fn G_ends_in hr (pa_cons (pv 0) pa_nil))) (blkOk_by (by rfl)) (fun _ _ _ _ _ => (pg_name (i := 3) sc_most_for.nd rfl (by first | exact Or.inl rfl | exact Or.inr rfl))) (fun _ _ _ _ _ => pts_nil) (fun _ _ _ _ _ => (pe_tup (pa_cons (pe_un un_neg (pe_callB call_len_seq (by rfl) B.len (by decide +kernel) (pa_cons (pe_ix ix_tup (pv 3) (pv 1) (fun _ _ => rfl)) pa_nil))) (pa_cons (pv 3) pa_nil))))) pa_nil)) (pg_tup (by rfl) (pgs_cons (pg_name (i := 2) sc_most_for.nd rfl (by first | exact Or.inl rfl | exact Or.inr rfl)) (pgs_cons (pg_name (i := 3) sc_most_for.nd rfl (by first | exact Or.inl rfl | exact Or.inr rfl)) pgs_nil)))) (pss_one (ps_ret (pe_tup (pa_cons (pe_un un_neg (pv 2)) (pa_cons (pv 3) pa_nil)))))))), ?_⟩
    cases dv with
    | cons dS r =>
    cases r with
    | cons dp r =>
    cases r
    cases dp
    have l1 := ends_len oS
    refine qd_drop (ed_call (ead_one (ed_var rfl dS)) ⟨S, oS, rfl, rfl⟩) fun H1 e1 => ?_
    refine qd_drop (ed_call (ead_cons (ed_var rfl (Ex.dp e1 dS)) (ead_one (ed_var rfl (.int _)))) ⟨S, _, by omega, by omega, rfl, rfl⟩) fun H2 e2 => ?_
    have e12 := e1.trans e2
    refine ed_minP (c := fun e => -(lenAt p e)) (ends_ne oS) (lc_d0 (l := ends S) (enc := encE) (pairD fun e => -(lenAt p e)) (src_list stay_zt (ev_ends rfl (Ex.dp e12 dS) oS)) (by omega) (fun _ => rfl) (fun e he x H2 e2 dx zx => ?_) (noL_pair _) rfl) H2 (Evl.Ex.refl _) _ fun v2 H3 e3 d2 => ?_
    · exact ed_tup (ead_cons (ed_neg (ed_lenAt (i := 3) (j := 1) rfl rfl dx (ends_ok oS he) hp)) (ead_one (ed_var rfl dx))) (by simp)
    · generalize bestE (fun e => -(lenAt p e)) (ends S) = b at d2 q
      cases d2 with
      | @tup a xs _ hx dx =>
      cases dx with
      | cons d1 r =>
      cases r with
      | cons d3 r =>
      cases r
      refine ⟨a, _, rfl, hx, rfl, _, _, rfl, _, _, rfl, rfl, ?_⟩
      refine sd_ret (EvD.is (ed_tup (ead_cons (ed_neg (ed_var rfl d1)) (ead_one (ed_var rfl d3))) (by simp)) ?_) fun v' H4 e4 d4 => q v' H4 ((e12.trans e3).trans e4) d4
      unfold pairD
      rw [Int.neg_neg]
end
end Lr
end

section
set_option Elab.async false
set_option linter.all false
set_option maxRecDepth 100000
set_option maxHeartbeats 4000000
/-! The law's own defs. -/
namespace Lr
open PySem PySem.Spec PyProof.Rows L2
open Evl (Ex EvT)
abbrev st__law_taken : Stmt := topS 31
theorem sc__law_taken : FnScope ["_law_row", "_law_many", "_law_found", "_law_cell"] ["_law_row", "_law_many"] (defScope st__law_taken) := ⟨rfl, rfl, rfl, by decide +kernel, rfl, by decide +kernel, by decide +kernel⟩
abbrev st__law_holders : Stmt := topS 34
theorem sc__law_holders : FnScope ["_law_hands_here", "_law_thing", "_law_person"] ["_law_hands_here", "_law_thing"] (defScope st__law_holders) := ⟨rfl, rfl, rfl, by decide +kernel, rfl, by decide +kernel, by decide +kernel⟩
abbrev st__law_call : Stmt := topS 35
theorem sc__law_call : FnScope ["_law_hands_here", "_law_person", "_law_kept", "_law_thing"] ["_law_hands_here", "_law_person"] (defScope st__law_call) := ⟨rfl, rfl, rfl, by decide +kernel, rfl, by decide +kernel, by decide +kernel⟩
abbrev st__law_done : Stmt := topS 36
theorem sc__law_done : FnScope ["_law_hands_here", "_law_calls", "_law_person"] ["_law_hands_here", "_law_calls"] (defScope st__law_done) := ⟨rfl, rfl, rfl, by decide +kernel, rfl, by decide +kernel, by decide +kernel⟩
abbrev st__law_orders : Stmt := topS 37
theorem sc__law_orders : FnScope ["_law_many", "_law_found", "_law_turn", "_law_longer", "_law_piece", "_law_person"] ["_law_many"] (defScope st__law_orders) := ⟨rfl, rfl, rfl, by decide +kernel, rfl, by decide +kernel, by decide +kernel⟩
section
variable {K : PySem.W.Frag} {σ : L2.St} {H H' : Hp} {te ta tl to : TE} {tt : TT} {tu tw tz : TS} {D : Ends} {d : PyData} {ds : List PyData}
/-- the row that numbers are taken from -/
structure Row (K : PySem.W.Frag) (B : Hp) (r sc : Addr) (ns : List Int) (i : Nat) (x y : Int) (H : Hp) : Prop where
  no : B r = none
  seq : SqL K B sc (ns.map V.int)
  ex : Ex B H
  row : H r = some (.lst [.ref sc, .int (i : Int), .int x, .int y])
  x0 : 0 ≤ x
  x1 : x < 2147483647
  y0 : 0 ≤ y
def rowD (ns : List Int) (i : Nat) (x y : Int) : PyData := .list [.list (ns.map .int), .int (i : Int), .int x, .int y]
theorem Row.dp {B : Hp} {r sc : Addr} {ns : List Int} {i : Nat} {x y : Int} (h : Row K B r sc ns i x y H) : Dp K H (.ref r) (rowD ns i x y) :=
  .lst (.inl (.inl h.row)) (.cons (.lst (Evl.ex_l h.ex h.seq) (of_ints ns)) (.cons (.int _) (.cons (.int _) (.cons (.int _) .nil))))
theorem Row.mono {B : Hp} {r sc : Addr} {ns : List Int} {i : Nat} {x y : Int} (e : Ex H H') (h : Row K B r sc ns i x y H) : Row K B r sc ns i x y H' := ⟨h.no, h.seq, h.ex.trans e, e _ _ h.row, h.x0, h.x1, h.y0⟩
theorem Row.set {B : Hp} {r sc : Addr} {ns : List Int} {i i' : Nat} {x y x' y' : Int} (h : Row K B r sc ns i x y H) (x0 : 0 ≤ x') (x1 : x' < 2147483647) (y0 : 0 ≤ y') : Row K B r sc ns i' x' y' (upd H r (.lst [.ref sc, .int (i' : Int), .int x', .int y'])) :=
  ⟨h.no, h.seq, fun b o hb => by
    rw [upd_ne (ne_of_none hb h.no)]
    exact h.ex b o hb, upd_same, x0, x1, y0⟩
theorem sd_setL {i : Nat} {l : Addr} {xs : List V} {j : Nat} (hi : σ[i]? = some (some (.ref l))) (hl : H l = some (.lst xs)) (h : EvD K te σ H d) (hj : j < xs.length) (k : ∀ v H1, Ex H H1 → Dp K H1 v d → D.nx σ (upd H1 l (.lst (xs.set j v)))) :
    tAsg te (gSub (tVar i) (tC (.int (j : Int))) rSetL) D σ H := h H (Evl.Ex.refl H) _ fun v H1 e1 dv => ⟨_, hi, l, xs, (j : Int), j, rfl, rfl, e1 l _ hl, Evl.ixN_nat hj, k v H1 e1 dv⟩
def rInt1 : List V → Hp → VK → Prop := fun xs H Q => (∃ i, xs = [.int i] ∧ Q (.int i) H) ∨ ∃ k, xs = [.bl k] ∧ Q (.int (if k then 1 else 0)) H
theorem ed_int1 {i : Int} (h : EvD K te σ H (.int i)) : EvD K (tCB rInt1 (tCons te tNil)) σ H (.int i) := ed_cb1 h fun x H1 _ dx Q q => by
  cases dx
  exact .inl ⟨i, rfl, q _ H1 (Evl.Ex.refl H1) (.int i)⟩
theorem ed_mod {i j : Int} (ha : EvD K ta σ H (.int i)) (hb : EvD K te σ H (.int j)) (hj : 0 < j) : EvD K (tOp (rI (fun _ j => j ≠ 0) fun i j => .int (i.fmod j)) ta te) σ H (.int (i % j)) :=
  ed_I ha hb (by omega) fun _ => by
    rw [Int.fmod_eq_emod_of_nonneg _ (by omega)]
    exact .int _
theorem ed_div {i j : Int} (ha : EvD K ta σ H (.int i)) (hb : EvD K te σ H (.int j)) (hj : 0 < j) (hm : j ≤ 100) : EvD K (tOp (rI CDivN fun i j => .int (i.fdiv j)) ta te) σ H (.int (i / j)) :=
  ed_I ha hb ⟨by omega, by omega⟩ fun _ => by
    rw [Int.fdiv_eq_ediv_of_nonneg _ (by omega)]
    exact .int _
theorem ed_add {i j : Int} (ha : EvD K ta σ H (.int i)) (hb : EvD K te σ H (.int j)) : EvD K (tOp (rI0 fun i j => .int (i + j)) ta te) σ H (.int (i + j)) := ed_I0 ha hb fun _ => .int _
theorem ed_sub {i j : Int} (ha : EvD K ta σ H (.int i)) (hb : EvD K te σ H (.int j)) : EvD K (tOp (rI0 fun i j => .int (i - j)) ta te) σ H (.int (i - j)) := ed_I0 ha hb fun _ => .int _
theorem ed_gt {i j : Int} (ha : EvD K ta σ H (.int i)) (hb : EvD K te σ H (.int j)) : EvD K (tOp (rI0 fun i j => .bl (decide (j < i))) ta te) σ H (.bool (decide (j < i))) := ed_I0 ha hb fun _ => .bl _
theorem ed_ge {i j : Int} (ha : EvD K ta σ H (.int i)) (hb : EvD K te σ H (.int j)) : EvD K (tOp (rI0 fun i j => .bl (decide (j ≤ i))) ta te) σ H (.bool (decide (j ≤ i))) := ed_I0 ha hb fun _ => .bl _
end
section
variable {P : Program} {w : World} {K : PySem.W.Frag} {mg : Str → Option Value} {base : Heap} {f : Addr} {fd : FuncData}
/-- a number below m, off the row -/
def spTaken (K : PySem.W.Frag) : Sp := fun vs H Q _ => ∃ (B : Hp) (r sc : Addr) (ns : List Int) (i : Nat) (x y m : Int), vs = [.ref r, .int m] ∧ Row K B r sc ns i x y H ∧ 0 < m ∧ m ≤ 100 ∧
  ∀ t i' x' y' H', Row K B r sc ns i' x' y' H' → 0 ≤ t → t < m → Q (.int t) H'
theorem ok_law_taken (F : Fun K "_law_taken" "_law_taken" st__law_taken f fd) (B : Names mg) : FnOk P w K mg base CX0 1 f fd ["_law_row", "_law_many"] (spTaken K) := by
  refine F.ok sc__law_taken (fun vs H Q E h => ?_) (fun cdv A outer s H vs Q E hr h => ?_)
  · obtain ⟨_, _, _, _, _, _, _, _, rfl, _⟩ := h
    rfl
  · obtain ⟨B0, r, sc, ns, i, x, y, m, rfl, R, m0, m1, q⟩ := h
    refine ⟨_, (pss_cons (ps_if (pt_cmpR op_gt (pe_ix ix_list (pv 0) pe_int (fun _ _ => rfl)) pe_int (nomark _)) (pss_cons (ps_set (i := 2) sc__law_taken.nd rfl (by first | exact Or.inl rfl | exact Or.inr rfl) (pe_op op_modN (pe_callTy call_int1 (by rfl) B.int (by decide +kernel) (pa_cons (pe_ix ix_list (pv 0) pe_int (fun _ _ => rfl)) pa_nil)) (pv 1))) (pss_cons (ps_asg (pe_op op_fdivN (pe_ix ix_list (pv 0) pe_int (fun _ _ => rfl)) (pv 1)) (pg_sub (pv 0) pe_int set_list)) (pss_one (ps_ret (pv 2))))) pss_nil) (pss_cons (ps_asg (pe_op op_add (pe_ix ix_list (pv 0) pe_int (fun _ _ => rfl)) pe_int) (pg_sub (pv 0) pe_int set_list)) (pss_cons (ps_if (pt_cmpR op_gt (pe_ix ix_list (pv 0) pe_int (fun _ _ => rfl)) (pe_callB call_len_seq (by rfl) B.len (by decide +kernel) (pa_cons (pe_ix ix_list (pv 0) pe_int (fun _ _ => rfl)) pa_nil)) (nomark _)) (pss_cons (ps_asg (pe_op op_modN (pe_callTy call_int1 (by rfl) B.int (by decide +kernel) (pa_cons (pe_op op_add (pe_op op_mul (pe_ix ix_list (pv 0) pe_int (fun _ _ => rfl)) pe_int) pe_int) pa_nil)) pe_int) (pg_sub (pv 0) pe_int set_list)) (pss_one (ps_ret (pe_op op_modN (pe_callTy call_int1 (by rfl) B.int (by decide +kernel) (pa_cons (pe_op op_fdivN (pe_ix ix_list (pv 0) pe_int (fun _ _ => rfl)) pe_int) pa_nil)) (pv 1))))) pss_nil) (pss_cons (ps_set (i := 3) sc__law_taken.nd rfl (by first | exact Or.inl rfl | exact Or.inr rfl) (pe_ix ix_list (pe_ix ix_list (pv 0) pe_int (fun _ _ => rfl)) (pe_op op_sub (pe_ix ix_list (pv 0) pe_int (fun _ _ => rfl)) pe_int) (fun _ _ => rfl))) (pss_cons (ps_asg (pe_op op_modN (pe_callTy call_int1 (by rfl) B.int (by decide +kernel) (pa_cons (pe_op op_add (pe_op op_add (pe_op op_mul (pe_ix ix_list (pv 0) pe_int (fun _ _ => rfl)) pe_int) (pv 3)) pe_int) pa_nil)) pe_int) (pg_sub (pv 0) pe_int set_list)) (pss_cons (ps_if (pt_cmpR op_ge (pv 3) (pe_op op_pow pe_int pe_int) (nomark _)) (pss_one (ps_asg (pe_op op_fdivN (pv 3) (pv 1)) (pg_sub (pv 0) pe_int set_list))) pss_nil) (pss_one (ps_ret (pe_op op_modN (pe_callTy call_int1 (by rfl) B.int (by decide +kernel) (pa_cons (pv 3) pa_nil)) (pv 1)))))))))), ?_⟩
    refine Evl.q_when (et_test (ed_gt (ed_ixL (ed_var rfl R.dp) ed_3 rfl) ed_int)) (fun z H1 e1 => ?_) fun z H1 e1 => ?_
    · have hy : 0 < y := of_decide_eq_true z
      have R1 := R.mono e1
      refine qd_asg (ed_mod (ed_int1 (ed_ixL (ed_var rfl R1.dp) ed_3 rfl)) (ed_var rfl (.int m)) m0) fun v H2 e2 dv => ?_
      cases dv
      have R2 := R1.mono e2
      refine sd_setL (j := 3) rfl R2.row (ed_div (ed_ixL (ed_var rfl R2.dp) ed_3 rfl) (ed_var rfl (.int m)) m0 m1) (by simp) fun v H3 e3 dv => ?_
      cases dv
      have R3 := R2.mono e3
      exact ⟨_, rfl, q _ i x (y / m) _ (R3.set R.x0 R.x1 (Int.ediv_nonneg (by omega) (by omega))) (Int.emod_nonneg _ (by omega)) (Int.emod_lt_of_pos _ m0)⟩
    · have R1 := R.mono e1
      refine sd_setL (j := 1) rfl R1.row (ed_add (ed_ixL (ed_var rfl R1.dp) ed_1 rfl) ed_int) (by simp) fun v H2 e2 dv => ?_
      cases dv
      have R2 : Row K B0 r sc ns (i + 1) x y (upd H2 r (.lst [.ref sc, .int ((i : Int) + 1), .int x, .int y])) := (R1.mono e2).set (i' := i + 1) R.x0 R.x1 R.y0
      show tSeq _ _ _ _ (upd H2 r (.lst [.ref sc, .int ((i : Int) + 1), .int x, .int y]))
      generalize upd H2 r (.lst [.ref sc, .int ((i : Int) + 1), .int x, .int y]) = H2' at R2
      refine Evl.q_when (et_test (ed_gt (ed_ixL (ed_var rfl R2.dp) ed_1 rfl) (ed_lenL (ds := ns.map .int) (ed_ixL (ed_var rfl R2.dp) ed_0 rfl)))) (fun z H3 e3 => ?_) fun z H3 e3 => ?_
      · have R3 := R2.mono e3
        refine sd_setL (j := 2) rfl R3.row (ed_mod (ed_int1 (ed_add (ed_I (C := CMul) (g := fun i j => .int (i * j)) (ed_ixL (ed_var rfl R3.dp) ed_2 rfl) ed_int (.inl (by have := R.x0; have := R.x1; omega)) fun _ => .int _) ed_int)) ed_int (by decide)) (by simp) fun v H4 e4 dv => ?_
        cases dv
        have R4 := (R3.mono e4).set (i' := i + 1) (x' := (x * 48271 + 11) % 2147483647) (y' := y) (Int.emod_nonneg _ (by decide)) (Int.emod_lt_of_pos _ (by decide)) R.y0
        refine sd_ret (ed_mod (ed_int1 (ed_div (ed_ixL (ed_var rfl R4.dp) ed_2 rfl) ed_int (by decide) (by decide))) (ed_var rfl (.int m)) m0) fun v H5 e5 dv => ?_
        cases dv
        exact q _ _ _ _ H5 (R4.mono e5) (Int.emod_nonneg _ (by omega)) (Int.emod_lt_of_pos _ m0)
      · have R3 := R2.mono e3
        have hi : i < ns.length := by
          have := of_decide_eq_false z
          rw [List.length_map] at this
          omega
        have hc : (ns.map PyData.int)[i]? = some (.int ns[i]) := by simp [hi]
        refine qd_asg (ed_ixL (i := i) (ed_ixL (ed_var rfl R3.dp) ed_0 rfl) (EvD.is (ed_sub (ed_ixL (ed_var rfl R3.dp) ed_1 rfl) ed_int) (by congr 1; omega)) hc) fun v H4 e4 dv => ?_
        cases dv
        have R4 := R3.mono e4
        generalize ns[i] = c
        refine sd_setL (j := 2) rfl R4.row (ed_mod (ed_int1 (ed_add (ed_add (ed_I (C := CMul) (g := fun i j => .int (i * j)) (ed_ixL (ed_var rfl R4.dp) ed_2 rfl) ed_int (.inl (by have := R.x0; have := R.x1; omega)) fun _ => .int _) (ed_var rfl (.int c))) ed_int)) ed_int (by decide)) (by simp) fun v H5 e5 dv => ?_
        cases dv
        have R5 := (R4.mono e5).set (i' := i + 1) (x' := (x * 48271 + c + 11) % 2147483647) (y' := y) (Int.emod_nonneg _ (by decide)) (Int.emod_lt_of_pos _ (by decide)) R.y0
        refine Evl.q_when (et_test (K := K) (ed_ge (ed_var rfl (.int c)) (ed_I (C := CPow) (g := fun i j => .int (i ^ j.toNat)) ed_int ed_int ⟨by decide, by decide, by decide⟩ fun _ => .int _))) (fun z H6 e6 => ?_) fun z H6 e6 => ?_
        · have R6 := R5.mono e6
          have hc0 : 0 ≤ c := Int.le_trans (by decide) (of_decide_eq_true z)
          refine sd_setL (K := K) (j := 3) rfl R6.row (ed_div (ed_var rfl (.int c)) (ed_var rfl (.int m)) m0 m1) (by simp) fun v H7 e7 dv => ?_
          cases dv
          have R7 := (R6.mono e7).set (i' := i + 1) (x' := (x * 48271 + c + 11) % 2147483647) (y' := c / m) (Int.emod_nonneg _ (by decide)) (Int.emod_lt_of_pos _ (by decide)) (Int.ediv_nonneg hc0 (by omega))
          refine sd_ret (K := K) (ed_mod (ed_int1 (ed_var rfl (.int c))) (ed_var rfl (.int m)) m0) fun v H8 e8 dv => ?_
          cases dv
          exact q _ _ _ _ H8 (R7.mono e8) (Int.emod_nonneg _ (by omega)) (Int.emod_lt_of_pos _ m0)
        · refine sd_ret (K := K) (ed_mod (ed_int1 (ed_var rfl (.int c))) (ed_var rfl (.int m)) m0) fun v H8 e8 dv => ?_
          cases dv
          exact q _ _ _ _ H8 ((R5.mono e6).mono e8) (Int.emod_nonneg _ (by omega)) (Int.emod_lt_of_pos _ m0)
/-! ### _law_holders, _law_call, _law_done -/
structure Loose (S : List (List Int)) : Prop where
  len : S.length ≤ 5
  low : ∀ h ∈ S, h.length ≤ 8
theorem getD_at {S : List (List Int)} {p : Nat} (h : p < S.length) : S[p]? = some (S.getD p []) := by
  rw [List.getD_eq_getElem?_getD, List.getElem?_eq_getElem h]
  rfl
theorem getD_mem {S : List (List Int)} {p : Nat} (h : p < S.length) : S.getD p [] ∈ S := List.mem_of_getElem? (getD_at h)
def rLawHolders (ds es : List PyData) : Prop := ∃ (S : List (List Int)) (t : Int), Loose S ∧ ds = [encE S, .int t] ∧ es = (Lh.holders S t).map .int
theorem ok_law_holders (F : Fun K "_law_holders" "_law_holders" st__law_holders f fd) (B : Names mg) : FnOk P w K mg base CX0 1 f fd ["_law_hands_here", "_law_thing"] (spN K rLawHolders) := by
  refine F.ok sc__law_holders (fun vs H Q E h => ?_) (fun cdv A outer s H vs Q E hr h => ?_)
  · obtain ⟨ds, d, dv, ⟨i, _, _, rfl, _⟩, _⟩ := h
    exact dpAll_len dv
  · obtain ⟨ds, es, dv, ⟨S, t, lS, rfl, rfl⟩, q⟩ := h
    refine ⟨_, (pss_one (ps_ret (pe_lc (own := [("_law_person", 2)]) (wi := (iRng1 (tCons (tCB (Evl.rLenS K) (tCons (tVar 0) tNil)) tNil))) (g := (gName 2)) (te := (tVar 2)) (tt := (tTest (tOp (rIn K false) (tVar 1) (tOp (rIxT K) (tVar 0) (tVar 2))))) rfl sc__law_holders.nd (pi_range1 (by rfl) B.range (pa_cons (pe_callB call_len_seq (by rfl) B.len (by decide +kernel) (pa_cons (pv 0) pa_nil)) pa_nil)) (blkOk_by (by rfl)) (fun _ _ _ _ _ => (pg_name (i := 2) sc__law_holders.nd rfl (by first | exact Or.inl rfl | exact Or.inr rfl))) (fun _ _ _ _ _ => (pts_one (pt_cmpR op_in_seq (pv 1) (pe_ix ix_tup (pv 0) (pv 2) (fun _ _ => rfl)) (by rfl)))) (fun _ _ _ _ _ => (pv 2))))), ?_⟩
    cases dv with
    | cons dS r =>
    cases r with
    | cons dt r =>
    cases r
    have l5 := lS.len
    refine sf_ret ?_ fun p xs H1 hp e1 h1 dx => q p xs H1 hp e1 h1 dx
    refine lc_f (enc := PyData.int) (fun p => (S.getD p.toNat []).contains t) PyData.int (src_range (n := S.length) (ead_one (EvD.is (ed_lenT (ed_var rfl dS)) (by rw [List.length_map]))) (by omega)) (by simp; omega) (fun _ => rfl)
      (fun a ha x H1 e1 dx _ => ?_) (fun a ha _ x H1 e1 dx _ => ed_var rfl dx) (fun _ => rfl) ?_
    · obtain ⟨p, hp, rfl⟩ := List.mem_map.mp ha
      rw [List.mem_range] at hp
      have hS := getD_at hp
      refine et_test (EvD.is (ed_inT (neg := false) (ns := S.getD p []) (ed_var rfl (Ex.dp e1 dt)) (ed_ixT (i := p) (ed_var rfl (Ex.dp e1 dS)) (ed_var rfl dx) (by rw [List.getElem?_map, hS]; rfl))) ?_)
      rfl
    · unfold Lh.holders
      rw [List.filter_map]
      rfl
theorem cutV_to (xs : List V) (j : Nat) (h : j ≤ xs.length) : cutV xs none (some (j : Int)) = xs.take j := by
  unfold cutV
  rw [HT.sIx_nat, HT.sIx_none, List.drop_zero, Nat.sub_zero, Nat.min_eq_left h]
theorem cutV_from (xs : List V) (j : Nat) (h : j ≤ xs.length) : cutV xs (some (j : Int)) none = xs.drop j := by
  unfold cutV
  rw [HT.sIx_nat, HT.sIx_none, Nat.min_eq_left h]
  refine List.take_of_length_le ?_
  rw [List.length_drop]
  exact Nat.le_refl _
theorem ed_slTo {σ : L2.St} {H : Hp} {te tb : TE} {ds : List PyData} {j : Nat} (h : EvD K te σ H (.tuple ds)) (hb : EvD K tb σ H (.int (j : Int))) (hj : j ≤ ds.length) : EvD K (tSl (rSlA K) te tNoPart (tPart tb)) σ H (.tuple (ds.take j)) := fun H1 a Q q =>
  h H1 a _ fun x H2 e2 dx => hb H2 (a.trans e2) _ fun y H3 e3 dy => by
    cases dy
    cases dx with
    | @tup b xs _ s dd =>
    have l := dpAll_len dd
    refine ⟨_, rfl, b, xs, rfl, Evl.ex_t e3 s, fun z => ?_, fun _ p hp => ?_⟩
    · have z2 := z.2
      rw [HT.sIx_nat] at z2
      refine q _ H3 (e2.trans e3) (.tup (Evl.ex_t e3 s) ?_)
      rw [List.take_of_length_le (by omega)]
      exact Ex.dps e3 dd
    · have ex := Evl.Ex.new (o := .tup (cutV xs none (some (j : Int)))) hp
      refine q _ _ ((e2.trans e3).trans ex) (.tup (.inl (.inl upd_same)) ?_)
      have z := dp_take j (Ex.dps (e3.trans ex) dd)
      rw [← cutV_to xs j (by omega)] at z
      exact z
theorem ed_slFrom {σ : L2.St} {H : Hp} {te tb : TE} {ds : List PyData} {j : Nat} (h : EvD K te σ H (.tuple ds)) (hb : EvD K tb σ H (.int (j : Int))) (hj : j ≤ ds.length) : EvD K (tSl (rSlA K) te (tPart tb) tNoPart) σ H (.tuple (ds.drop j)) := fun H1 a Q q =>
  h H1 a _ fun x H2 e2 dx => hb H2 (a.trans e2) _ fun y H3 e3 dy => by
    cases dy
    cases dx with
    | @tup b xs _ s dd =>
    have l := dpAll_len dd
    refine ⟨_, rfl, b, xs, rfl, Evl.ex_t e3 s, fun z => ?_, fun _ p hp => ?_⟩
    · have z2 := z.1
      rw [HT.sIx_nat] at z2
      have j0 : j = 0 ∨ xs.length = 0 := by omega
      refine q _ H3 (e2.trans e3) (.tup (Evl.ex_t e3 s) ?_)
      have e0 : ds.drop j = ds := by
        rcases j0 with z | z
        · rw [z]; rfl
        · have : ds = [] := List.length_eq_zero_iff.mp (by omega)
          rw [this]
          simp
      rw [e0]
      exact Ex.dps e3 dd
    · have ex := Evl.Ex.new (o := .tup (cutV xs (some (j : Int)) none)) hp
      refine q _ _ ((e2.trans e3).trans ex) (.tup (.inl (.inl upd_same)) ?_)
      have z := dp_drop j (Ex.dps (e3.trans ex) dd)
      rw [← cutV_from xs j (by omega)] at z
      exact z
def rLawCall (ds : List PyData) (d : PyData) : Prop := ∃ (S : List (List Int)) (p : Nat), Loose S ∧ p < S.length ∧ ds = [encE S, .int (p : Int)] ∧ d = encE (Lh.call S p)
theorem ok_law_call (F : Fun K "_law_call" "_law_call" st__law_call f fd) (B : Names mg) (G_law_holders : Kn P w K mg base 1 "_law_holders" ["_law_hands_here", "_law_thing"] (spN K rLawHolders)) : FnOk P w K mg base CX0 2 f fd ["_law_hands_here", "_law_person"] (spR K rLawCall) := by
  refine F.ok sc__law_call (fun vs H Q E h => ?_) (fun cdv A outer s H vs Q E hr h => ?_)
  · obtain ⟨ds, d, dv, ⟨i, _, _, _, rfl, _⟩, _⟩ := h
    exact dpAll_len dv
  · obtain ⟨ds, d, dv, ⟨S, p, lS, hp, rfl, rfl⟩, q⟩ := h
    refine ⟨_, (pss_cons (ps_set (i := 2) sc__law_call.nd rfl (by first | exact Or.inl rfl | exact Or.inr rfl) (pe_callTy call_tuple_of (by rfl) B.tuple (by decide +kernel) (pa_cons (pe_lc (own := [("_law_thing", 3)]) (wi := (iTup K (tOp (rIxT K) (tVar 0) (tVar 1)))) (g := (gName 3)) (te := (tVar 3)) (tt := (tTest (tOp (rEqD K) (tCall (spN K rLawHolders) [] E0 (tCons (tVar 0) (tCons (tVar 3) tNil))) (tLst (tCons (tVar 1) tNil))))) rfl sc__law_call.nd (pi_tup (pe_ix ix_tup (pv 0) (pv 1) (fun _ _ => rfl))) (blkOk_by (by rfl)) (fun _ _ _ _ _ => (pg_name (i := 3) sc__law_call.nd rfl (by first | exact Or.inl rfl | exact Or.inr rfl))) (fun _ _ _ _ _ => (pts_one (pt_cmpR (op_eqD hr.units) (pe_fn G_law_holders hr (pa_cons (pv 0) (pa_cons (pv 3) pa_nil))) (pe_lst (pa_cons (pv 1) pa_nil)) (nomark _)))) (fun _ _ _ _ _ => (pv 3))) pa_nil))) (pss_one (ps_ret (pe_op op_catA (pe_op op_catA (pe_slice sl_tupA (pv 0) po_none (po_some (pv 1))) (pe_tup (pa_cons (pv 2) pa_nil))) (pe_slice sl_tupA (pv 0) (po_some (pe_op op_add (pv 1) pe_int)) po_none))))), ?_⟩
    cases dv with
    | cons dS r =>
    cases r with
    | cons dp r =>
    cases r
    cases dp
    have l5 := lS.len
    have l8 := lS.low _ (getD_mem hp)
    refine qd_asg (d := encH ((S.getD p []).filter fun t => Lh.holders S t == [(p : Int)])) (ed_tupL (lc_d (enc := PyData.int) (l := S.getD p []) (fun t => Lh.holders S t == [(p : Int)]) PyData.int (src_tup (ed_ixT (i := p) (ed_var rfl dS) (ed_var rfl (.int (p : Int))) (by rw [List.getElem?_map, getD_at hp]; rfl))) (by omega) (fun _ => rfl)
          (fun t ht x H5 e5 dx _ => ?_) (fun t ht _ x H5 e5 dx _ => ed_var rfl dx) (fun _ => rfl) rfl)) fun v1 H1 e1 d1 => ?_
    · refine et_test (EvD.is (ed_eqL (m := [(p : Int)]) (EvF.evd (ef_call (ead_cons (ed_var rfl (Ex.dp e5 dS)) (ead_one (ed_var rfl dx))) ⟨S, t, lS, rfl, rfl⟩)) (ef_lst (ead_one (ed_var rfl (.int (p : Int)))) (by simp)).evd) ?_)
      exact congrArg _ (by rw [Bool.eq_iff_iff]; simp)
    · have dS1 := Ex.dp e1 dS
      refine sd_ret (EvD.is (ed_catT (ed_catT (ed_slTo (j := p) (ed_var rfl dS1) (ed_var rfl (.int (p : Int))) (by rw [List.length_map]; omega)) (ed_tup (ead_one (ed_var rfl d1)) (by simp)) (by rw [List.length_take, List.length_map]; simp; omega)) (ed_slFrom (j := p + 1) (ed_var rfl dS1) (ed_add (ed_var rfl (.int (p : Int))) ed_int) (by rw [List.length_map]; omega)) (by rw [List.length_append, List.length_take, List.length_drop, List.length_map]; simp; omega)) ?_) fun v H2 e2 d2 => q v H2 (e1.trans e2) d2
      unfold Lh.call encE
      rw [List.map_append, List.map_cons, List.map_take, List.map_drop, List.append_assoc]
      rfl
theorem call_loose {S : List (List Int)} {p : Nat} (l : Loose S) (hp : p < S.length) : Loose (Lh.call S p) ∧ (Lh.call S p).length = S.length := by
  have e := Lh.call_len hp
  refine ⟨⟨by rw [e]; exact l.len, fun h hh => ?_⟩, e⟩
  unfold Lh.call at hh
  rcases List.mem_append.mp hh with z | z
  · exact l.low h (List.mem_of_mem_take z)
  · rcases List.mem_cons.mp z with z | z
    · rw [z]
      exact Nat.le_trans (List.length_filter_le _ _) (l.low _ (getD_mem hp))
    · exact l.low h (List.mem_of_mem_drop z)
def rLawDone (ds : List PyData) (d : PyData) : Prop := ∃ (S : List (List Int)) (os : List Int), Loose S ∧ (∀ x ∈ os, 0 ≤ x ∧ x < S.length) ∧ ds = [encE S, encH os] ∧ d = encE (Lh.done S os)
theorem done_loose {S : List (List Int)} (l : Loose S) : ∀ (r os : List Int), os = r.reverse → (∀ x ∈ os, 0 ≤ x ∧ x < S.length) → Loose (Lh.done S os) ∧ (Lh.done S os).length = S.length
  | [], _, e, _ => by
    subst e
    exact ⟨l, rfl⟩
  | p :: r, _, e, h => by
    subst e
    rw [List.reverse_cons] at h
    obtain ⟨l1, l2⟩ := done_loose l r _ rfl fun x hx => h x (List.mem_append_left _ hx)
    have hp := h p (by simp)
    have e3 : Lh.done S (r.reverse ++ [p]) = Lh.call (Lh.done S r.reverse) p.toNat := by
      unfold Lh.done
      rw [List.foldl_append]
      rfl
    rw [List.reverse_cons, e3]
    obtain ⟨a, b⟩ := call_loose (p := p.toNat) l1 (by rw [l2]; omega)
    exact ⟨a, by rw [b, l2]⟩
theorem ok_law_done (F : Fun K "_law_done" "_law_done" st__law_done f fd) (B : Names mg) (G_law_call : Kn P w K mg base 2 "_law_call" ["_law_hands_here", "_law_person"] (spR K rLawCall)) : FnOk P w K mg base CX0 3 f fd ["_law_hands_here", "_law_calls"] (spR K rLawDone) := by
  refine F.ok sc__law_done (fun vs H Q E h => ?_) (fun cdv A outer s H vs Q E hr h => ?_)
  · obtain ⟨ds, d, dv, ⟨i, _, _, _, rfl, _⟩, _⟩ := h
    exact dpAll_len dv
  · obtain ⟨ds, d, dv, ⟨S, os, lS, ho, rfl, rfl⟩, q⟩ := h
    refine ⟨_, (Evl.pss_cut (ps_for PassesOwn.never rfl (pi_tup (pv 1)) (pg_name (i := 2) sc__law_done.nd rfl (by first | exact Or.inl rfl | exact Or.inr rfl)) (pss_one (ps_set (i := 0) sc__law_done.nd rfl (by first | exact Or.inl rfl | exact Or.inr rfl) (pe_fn G_law_call hr (pa_cons (pv 0) (pa_cons (pv 2) pa_nil)))))) (pss_one (ps_ret (pv 0)))), ?_⟩
    cases dv with
    | @cons v _ _ _ dS r =>
    cases r with
    | cons dp r =>
    cases r
    cases dp with
    | @tup a xs _ hx dx =>
    refine Evl.q_cut (M := fun σ' H' => ∃ v' y, σ' = [some v', some (.ref a), y] ∧ Ex H H' ∧ Dp K H' v' (encE (Lh.done S os))) ?_ ?_
    · refine ⟨_, rfl, a, rfl, ⟨xs, hx⟩, ?_⟩
      refine for_W (S := H) (l := os) (fun σ0 => wk_tup (j := 2) (enc := PyData.int) hx dx) (fun i σ' H' => (∃ v' y, σ' = [some v', some (.ref a), y] ∧ Dp K H' v' (encE (Lh.done S (os.take i)))) ∧ Ex H H') ⟨⟨v, none, rfl, dS⟩, Evl.Ex.refl _⟩ (fun i σ' H' p => p.2) (fun i b σ1 H1 σ2 H2 hb p e2 bb => ?_) (fun σ' H' p => ?_)
      · obtain ⟨⟨v', y, rfl, dv⟩, e1⟩ := p
        obtain ⟨x, dxb, _, rfl⟩ := bb
        cases dxb
        obtain ⟨h0, h1⟩ := ho b (List.mem_of_getElem? hb)
        obtain ⟨l1, l2⟩ := done_loose lS _ (os.take i) (List.reverse_reverse _).symm fun x hx => ho x (List.mem_of_mem_take hx)
        refine sd_asg (ed_call (ead_cons (ed_var rfl (Ex.dp e2 dv)) (ead_one (ed_var rfl (.int b)))) ⟨_, b.toNat, l1, by rw [l2]; omega, by rw [Int.toNat_of_nonneg h0], rfl⟩) fun v2 H3 e3 d3 => ?_
        refine ⟨⟨v2, _, rfl, ?_⟩, (e1.trans e2).trans e3⟩
        have e4 : Lh.done S (os.take (i + 1)) = Lh.call (Lh.done S (os.take i)) b.toNat := by
          rw [List.take_add_one, hb]
          unfold Lh.done
          rw [List.foldl_append]
          rfl
        rw [e4]
        exact d3
      · obtain ⟨⟨v', y, rfl, dv⟩, e1⟩ := p
        rw [List.take_length] at dv
        exact ⟨v', y, rfl, e1, dv⟩
    · rintro σ' H' ⟨v', y, rfl, e1, d1⟩
      exact sd_ret (ed_var rfl d1) fun v2 H2 e2 d2 => q v2 H2 (e1.trans e2) d2
/-! ### _law_orders -/
def spOrders (K : PySem.W.Frag) : Sp := fun vs H Q _ => ∃ n : Nat, vs = [.int (n : Int)] ∧ n ≤ 5 ∧ ∀ p xs H', H p = none → Ex H H' → H' p = some (.lst xs) → DpAll K H' xs ((Lh.orders n).map encH) → Q (.ref p) H'
theorem orderStep_len {n : Nat} (hn : n ≤ 5) : ∀ f : List (List Int), (Lh.orderStep n f).length ≤ 5 * f.length
  | [] => Nat.le_refl _
  | k :: f => by
    have ih := orderStep_len hn f
    unfold Lh.orderStep at ih ⊢
    rw [List.flatMap_cons, List.length_append, List.length_cons, List.length_map]
    have h1 := List.length_filter_le (fun p => !(k.contains p)) (Lh.upTo n)
    rw [show (Lh.upTo n).length = n by simp [Lh.upTo]] at h1
    omega
theorem ordersIn_len {n : Nat} (hn : n ≤ 5) : ∀ m : Nat, (Lh.ordersIn n m).length ≤ 5 ^ m
  | 0 => Nat.le_refl _
  | m + 1 => by
    have ih := ordersIn_len hn m
    have h := orderStep_len hn (Lh.ordersIn n m)
    show (Lh.orderStep n (Lh.ordersIn n m)).length ≤ _
    rw [Nat.pow_succ]
    omega
theorem ok_law_orders (F : Fun K "_law_orders" "_law_orders" st__law_orders f fd) (B : Names mg) : FnOk P w K mg base CX0 1 f fd ["_law_many"] (spOrders K) := by
  refine F.ok sc__law_orders (fun vs H Q E h => ?_) (fun cdv A outer s H vs Q E hr h => ?_)
  · obtain ⟨_, rfl, _⟩ := h
    rfl
  · obtain ⟨n, rfl, hn, q⟩ := h
    refine ⟨_, (pss_cons (ps_set (i := 1) sc__law_orders.nd rfl (by first | exact Or.inl rfl | exact Or.inr rfl) (pe_lst (pa_cons (pe_tup pa_nil) pa_nil))) (Evl.pss_cut (ps_for PassesOwn.never rfl (pi_range1 (by rfl) B.range (pa_cons (pv 0) pa_nil)) (pg_name (i := 2) sc__law_orders.nd rfl (by first | exact Or.inl rfl | exact Or.inr rfl)) (pss_cons (ps_set (i := 3) sc__law_orders.nd rfl (by first | exact Or.inl rfl | exact Or.inr rfl) (pe_lst pa_nil)) (Evl.pss_cut (ps_for PassesOwn.never rfl (pi_list (pv 1)) (pg_name (i := 4) sc__law_orders.nd rfl (by first | exact Or.inl rfl | exact Or.inr rfl)) (pss_one (ps_set (i := 3) sc__law_orders.nd rfl (by first | exact Or.inl rfl | exact Or.inr rfl) (pe_op op_cat (pv 3) (pe_lc (own := [("_law_person", 5)]) (wi := (iRng1 (tCons (tVar 0) tNil))) (g := (gName 5)) (te := (tOp (rCatA K) (tVar 4) (tTup (tCons (tVar 5) tNil)))) (tt := (tTest (tOp (rIn K true) (tVar 5) (tVar 4)))) rfl sc__law_orders.nd (pi_range1 (by rfl) B.range (pa_cons (pv 0) pa_nil)) (blkOk_by (by rfl)) (fun _ _ _ _ _ => (pg_name (i := 5) sc__law_orders.nd rfl (by first | exact Or.inl rfl | exact Or.inr rfl))) (fun _ _ _ _ _ => (pts_one (pt_cmpR op_notIn_seq (pv 5) (pv 4) (by rfl)))) (fun _ _ _ _ _ => (pe_op op_catA (pv 4) (pe_tup (pa_cons (pv 5) pa_nil))))))))) (pss_one (ps_set (i := 1) sc__law_orders.nd rfl (by first | exact Or.inl rfl | exact Or.inr rfl) (pv 3)))))) (pss_one (ps_ret (pv 1))))), ?_⟩
    refine qf_asg (K := K) (ds := [encH []]) (ef_lst (ead_one (ed_tup ead_nil (by simp))) (by simp)) fun F0 xs0 H1 hF0 e01 hF1 dx0 => ?_
    refine Evl.q_cut (M := fun σ' H' => ∃ (F1 : Addr) (y1 y2 y3 y4 : Option V) (xs : List V), σ' = [some (.int (n : Int)), some (.ref F1), y1, y2, y3, y4] ∧ H F1 = none ∧ Ex H H' ∧ H' F1 = some (.lst xs) ∧ DpAll K H' xs ((Lh.orders n).map encH)) ?_ ?_
    · refine tfor_rng (K := K) (ead_one (ed_var rfl (.int (n : Int)))) (by omega) fun H2 e2 => ?_
      refine for_W (S := H) (l := (List.range n).map fun p : Nat => (p : Int)) (fun σ0 => wk_range (K := K) (j := 2)) (fun i σ' H' => (∃ (F1 : Addr) (y1 y2 y3 y4 : Option V) (xs : List V), σ' = [some (.int (n : Int)), some (.ref F1), y1, y2, y3, y4] ∧ H F1 = none ∧ H' F1 = some (.lst xs) ∧ DpAll K H' xs ((Lh.ordersIn n i).map encH)) ∧ Ex H H')
        ⟨⟨F0, none, none, none, none, xs0, rfl, hF0, e2 _ _ hF1, Ex.dps e2 dx0⟩, e01.trans e2⟩ (fun i σ' H' p => p.2) (fun i b σ1 H3 σ2 H4 hb p e4 bb => ?_) (fun σ' H' p => ?_)
      · obtain ⟨⟨F1, y1, y2, y3, y4, xs, rfl, hF, hx, dx⟩, e3⟩ := p
        obtain ⟨x, dxb, _, rfl⟩ := bb
        cases dxb
        obtain ⟨hi, rfl⟩ := mem_range_at hb
        have e04 := e3.trans e4
        have hx4 := e4 _ _ hx
        have dx4 := Ex.dps e4 dx
        have flen := ordersIn_len hn i
        have flen2 : (Lh.ordersIn n i).length ≤ 625 := Nat.le_trans flen (Nat.pow_le_pow_right (by decide) (by omega) : 5 ^ i ≤ 5 ^ 4)
        refine qf_asg (K := K) (ds := []) (ef_lst ead_nil (by simp)) fun L0 ys0 H5 hL0 e5 hL5 dy0 => ?_
        have hLH : H L0 = none := Evl.fresh_back e04 hL0
        refine Evl.q_cut (M := fun σ' H' => ∃ (L : Addr) (z1 z2 : Option V) (ys : List V), σ' = [some (.int (n : Int)), some (.ref F1), some (.int (i : Int)), some (.ref L), z1, z2] ∧ H L = none ∧ Ex H H' ∧ H' L = some (.lst ys) ∧ DpAll K H' ys ((Lh.ordersIn n (i + 1)).map encH)) ?_ ?_
        · have hx5 := e5 _ _ hx4
          have dx5 := Ex.dps e5 dx4
          refine ⟨_, rfl, F1, rfl, ⟨xs, .inl (.inl hx5)⟩, ?_⟩
          refine for_W (S := H5) (l := Lh.ordersIn n i) (fun σ0 => wk_list (j := 4) (enc := encH) (P := Any) (.inl (.inl hx5)) dx5 (fun _ _ => trivial) stay_any) (fun j σ' H' => (∃ (L : Addr) (z1 z2 : Option V) (ys : List V), σ' = [some (.int (n : Int)), some (.ref F1), some (.int (i : Int)), some (.ref L), z1, z2] ∧ H L = none ∧ H' L = some (.lst ys) ∧ DpAll K H' ys ((Lh.orderStep n ((Lh.ordersIn n i).take j)).map encH)) ∧ Ex H5 H')
            ⟨⟨L0, _, _, ys0, rfl, hLH, hL5, dy0⟩, Evl.Ex.refl _⟩ (fun j σ' H' p => p.2) (fun j k σ1 H6 σ2 H7 hk p e7 bb => ?_) (fun σ' H' p => ?_)
          · obtain ⟨⟨L, z1, z2, ys, rfl, hL, hy, dy⟩, e6⟩ := p
            obtain ⟨x, dxk, _, rfl⟩ := bb
            have hy7 := e7 _ _ hy
            have dy7 := Ex.dps e7 dy
            have ly := dpAll_len dy
            have lo := orderStep_len hn ((Lh.ordersIn n i).take j)
            have ltj : ((Lh.ordersIn n i).take j).length ≤ (Lh.ordersIn n i).length := by rw [List.length_take]; omega
            have klen : k.length ≤ 5 := by
              have := (Lh.mem_ordersIn.mp (List.mem_of_getElem? hk)).2.1
              omega
            rw [List.length_map] at ly
            have ul : (Lh.upTo n).length = n := by simp [Lh.upTo]
            have comp : EvF K (tLc (iRng1 (tCons (tVar 0) tNil)) (gName 5) (tTest (tOp (rIn K true) (tVar 5) (tVar 4))) (tOp (rCatA K) (tVar 4) (tTup (tCons (tVar 5) tNil))) [5]) [some (.int (n : Int)), some (.ref F1), some (.int (i : Int)), some (.ref L), some x, z2] H7 ((((Lh.upTo n).filter fun p => !(k.contains p)).map fun p => k ++ [p]).map encH) :=
              lc_f (enc := PyData.int) (l := Lh.upTo n) (fun p => !(k.contains p)) (fun p => encH (k ++ [p])) (src_range (n := n) (ead_one (ed_var rfl (.int (n : Int)))) (by omega)) (by omega) (fun _ => rfl)
                (fun p hp y H8 e8 dy _ => et_test (ed_inT (neg := true) (ed_var rfl dy) (ed_var rfl (Ex.dp e8 dxk))))
                (fun p hp _ y H8 e8 dy _ => EvD.is (ed_catT (ed_var rfl (Ex.dp e8 dxk)) (ed_tup (ead_one (ed_var rfl dy)) (by simp)) (by rw [List.length_map]; simp; omega)) (by unfold encH; rw [List.map_append]; rfl)) (fun p => noL_H _) (by rw [List.map_map]; rfl)
            refine ⟨_, rfl, comp H7 (Evl.Ex.refl _) _ fun c zs H8 hc e8 h8 dz => ⟨L, c, ys, zs, rfl, rfl, e8 _ _ hy7, h8, Evl.sz_of ?_, fun p hp => ?_⟩⟩
            · have lz := dpAll_len dz
              have lf := List.length_filter_le (fun p => !(k.contains p)) (Lh.upTo n)
              rw [List.length_map, List.length_map] at lz
              omega
            · have ex := Evl.Ex.new (o := .lst (ys ++ zs)) hp
              refine ⟨⟨p, _, _, ys ++ zs, rfl, ?_, upd_same, ?_⟩, (e6.trans e7).trans (e8.trans ex)⟩
              · exact Evl.fresh_back ((e04.trans e5).trans ((e6.trans e7).trans e8)) hp
              · have es : Lh.orderStep n ((Lh.ordersIn n i).take (j + 1)) = Lh.orderStep n ((Lh.ordersIn n i).take j) ++ ((Lh.upTo n).filter fun p => !(k.contains p)).map fun p => k ++ [p] := by
                  unfold Lh.orderStep
                  rw [List.take_add_one, hk, List.flatMap_append]
                  simp
                rw [es, List.map_append]
                exact dp_app (Ex.dps (e8.trans ex) dy7) (Ex.dps ex dz)
          · obtain ⟨⟨L, z1, z2, ys, rfl, hL, hy, dy⟩, e6⟩ := p
            rw [List.take_length] at dy
            exact ⟨L, _, _, ys, rfl, hL, (e04.trans e5).trans e6, hy, dy⟩
        · rintro σ' H' ⟨L, z1, z2, ys, rfl, hL, e6, hy, dy⟩
          exact ⟨_, rfl, ⟨L, _, _, _, _, ys, rfl, hL, hy, dy⟩, e6⟩
      · obtain ⟨⟨F1, y1, y2, y3, y4, xs, rfl, hF, hx, dx⟩, e3⟩ := p
        rw [List.length_map, List.length_range] at dx
        exact ⟨F1, _, _, _, _, xs, rfl, hF, e3, hx, dx⟩
    · rintro σ' H' ⟨F1, y1, y2, y3, y4, xs, rfl, hF, e, hx, dx⟩
      exact ⟨_, rfl, q F1 xs H' hF e hx dx⟩
end
end Lr
end

section
set_option Elab.async false
set_option linter.all false
set_option maxRecDepth 100000
set_option maxHeartbeats 4000000
/-! _law_alike, _law_hands. -/
namespace Lr
open PySem PySem.Spec PyProof.Rows L2
open Evl (Ex EvT)
abbrev st__law_alike : Stmt := topS 32
theorem sc__law_alike : FnScope ["_law_found", "_law_due", "_law_k"] ["_law_found", "_law_due"] (defScope st__law_alike) := ⟨rfl, rfl, rfl, by decide +kernel, rfl, by decide +kernel, by decide +kernel⟩
section
variable {P : Program} {w : World} {K : PySem.W.Frag} {mg : Str → Option Value} {base : Heap} {f : Addr} {fd : FuncData}
/-- ints, tuples of such, so deep -/
def Ak : Nat → PyData → Prop
  | 0, e => ∃ i : Int, e = .int i
  | n + 1, e => (∃ i : Int, e = .int i) ∨ ∃ es, e = .tuple es ∧ es.length ≤ 1000 ∧ ∀ x ∈ es, Ak n x
theorem ak_int (i : Int) : ∀ n, Ak n (.int i)
  | 0 => ⟨i, rfl⟩
  | _ + 1 => .inl ⟨i, rfl⟩
def rA : Nat → List PyData → PyData → Prop
  | 0, _, _ => False
  | n + 1, ds, d => ∃ e, Ak n e ∧ ds = [e, e] ∧ d = .bool true
theorem ok_law_alike (F : Fun K "_law_alike" "_law_alike" st__law_alike f fd) (B : Names mg) (mgf : mg "_law_alike" = some (.ref f)) (hb : Binds K fd ["_law_found", "_law_due"] []) : ∀ n, FnOk P w K mg base CX0 n f fd ["_law_found", "_law_due"] (spR K (rA n))
  | 0 => ⟨fun vs H Q E h => by
      obtain ⟨_, _, _, z, _⟩ := h
      exact z.elim, fun A outer s H args us vs Q E _ _ _ _ h => by
      obtain ⟨_, _, _, z, _⟩ := h
      exact z.elim⟩
  | n + 1 => by
    have G_rec : Kn P w K mg base n "_law_alike" ["_law_found", "_law_due"] (spR K (rA n)) := ⟨f, fd, ok_law_alike F B mgf hb n, mgf, F.kp, hb⟩
    refine F.ok sc__law_alike (fun vs H Q E h => ?_) (fun cdv A outer s H vs Q E hr h => ?_)
    · obtain ⟨ds, d, dv, ⟨e, _, rfl, _⟩, _⟩ := h
      exact dpAll_len dv
    · obtain ⟨ds, d, dv, ⟨e, he, rfl, rfl⟩, q⟩ := h
      have hrec := hr
      refine ⟨_, (pss_cons (ps_if (pt_val (pe_callB call_isiT (by rfl) B.isinstance (by decide +kernel) (pa_cons (pv 1) (pa_cons (pe_tup (pa_cons (pe_bltn (v := .ty "tuple") (by rfl) B.tuple (by decide +kernel) rfl) (pa_cons (pe_bltn (v := .ty "list") (by rfl) B.list (by decide +kernel) rfl) pa_nil))) pa_nil)))) (pss_cons (ps_if (PW.pt (pw_or (pt_not (pt_val (pe_callB call_isiT (by rfl) B.isinstance (by decide +kernel) (pa_cons (pv 0) (pa_cons (pe_tup (pa_cons (pe_bltn (v := .ty "tuple") (by rfl) B.tuple (by decide +kernel) rfl) (pa_cons (pe_bltn (v := .ty "list") (by rfl) B.list (by decide +kernel) rfl) pa_nil))) pa_nil))))) (pw_or1 (pt_cmpR (op_neD hr.units) (pe_callB call_isi (by rfl) B.isinstance (by decide +kernel) (pa_cons (pv 0) (pa_cons (pe_bltn (v := .ty "list") (by rfl) B.list (by decide +kernel) rfl) pa_nil))) (pe_callB call_isi (by rfl) B.isinstance (by decide +kernel) (pa_cons (pv 1) (pa_cons (pe_bltn (v := .ty "list") (by rfl) B.list (by decide +kernel) rfl) pa_nil))) (nomark _))))) (pss_one (ps_ret pe_bl)) pss_nil) (pss_cons (ps_if (pt_cmpR (op_neD hr.units) (pe_callB call_len_seq (by rfl) B.len (by decide +kernel) (pa_cons (pv 0) pa_nil)) (pe_callB call_len_seq (by rfl) B.len (by decide +kernel) (pa_cons (pv 1) pa_nil)) (nomark _)) (pss_one (ps_ret pe_bl)) pss_nil) (pss_one (ps_ret (pe_cmpR (op_eqD hr.units) (pe_lc (own := [("_law_k", 2)]) (wi := (iRng1 (tCons (tCB (Evl.rLenS K) (tCons (tVar 1) tNil)) tNil))) (g := (gName 2)) (te := (tVar 2)) (tt := (tNot (tB (tCall (spR K (rA n)) [] E0 (tCons (tOp (rIxT K) (tVar 0) (tVar 2)) (tCons (tOp (rIxT K) (tVar 1) (tVar 2)) tNil)))))) rfl sc__law_alike.nd (pi_range1 (by rfl) B.range (pa_cons (pe_callB call_len_seq (by rfl) B.len (by decide +kernel) (pa_cons (pv 1) pa_nil)) pa_nil)) (blkOk_by (by rfl)) (fun _ _ _ _ _ => (pg_name (i := 2) sc__law_alike.nd rfl (by first | exact Or.inl rfl | exact Or.inr rfl))) (fun _ _ _ _ _ => (pts_one (pt_not (pt_val (pe_fn G_rec hrec (pa_cons (pe_ix ix_tup (pv 0) (pv 2) (fun _ _ => rfl)) (pa_cons (pe_ix ix_tup (pv 1) (pv 2) (fun _ _ => rfl)) pa_nil))))))) (fun _ _ _ _ _ => (pv 2))) (pe_lst pa_nil) (nomark _)))))) pss_nil) (pss_cons (ps_if (PW.pt (pw_or (pt_cmp (pc_isN (pv 1)) rfl) (pw_or1 (pt_val (pe_callB call_isi (by rfl) B.isinstance (by decide +kernel) (pa_cons (pv 1) (pa_cons (pe_bltn (v := .ty "str") (by rfl) B.str (by decide +kernel) rfl) pa_nil))))))) (pss_one (ps_ret (pe_and (pe_cmpR (op_eqD hr.units) (pv 0) (pv 1) (nomark _)) (pe_one (pe_cmpR (op_eqD hr.units) (pe_callB call_isi (by rfl) B.isinstance (by decide +kernel) (pa_cons (pv 0) (pa_cons (pe_bltn (v := .ty "str") (by rfl) B.str (by decide +kernel) rfl) pa_nil))) (pe_callB call_isi (by rfl) B.isinstance (by decide +kernel) (pa_cons (pv 1) (pa_cons (pe_bltn (v := .ty "str") (by rfl) B.str (by decide +kernel) rfl) pa_nil))) (nomark _)))))) pss_nil) (pss_one (ps_ret (pe_and (pe_callB call_isi (by rfl) B.isinstance (by decide +kernel) (pa_cons (pv 0) (pa_cons (pe_bltn (v := .ty "int") (by rfl) B.int (by decide +kernel) rfl) pa_nil))) (pe_and (pe_cmpR (op_eqD hr.units) (pe_callB call_isi (by rfl) B.isinstance (by decide +kernel) (pa_cons (pv 0) (pa_cons (pe_bltn (v := .ty "bool") (by rfl) B.bool (by decide +kernel) rfl) pa_nil))) (pe_callB call_isi (by rfl) B.isinstance (by decide +kernel) (pa_cons (pv 1) (pa_cons (pe_bltn (v := .ty "bool") (by rfl) B.bool (by decide +kernel) rfl) pa_nil))) (nomark _)) (pe_one (pe_cmpR (op_eqD hr.units) (pv 0) (pv 1) (nomark _))))))))), ?_⟩
      cases dv with
      | cons d1 r =>
      cases r with
      | cons d2 r =>
      cases r
      have hcase : (∃ i : Int, e = .int i) ∨ ∃ (k : Nat) (es : List PyData), n = k + 1 ∧ e = .tuple es ∧ es.length ≤ 1000 ∧ ∀ x ∈ es, Ak k x := by
        cases n with
        | zero => exact .inl he
        | succ k =>
          rcases he with h | ⟨es, h1, h2, h3⟩
          · exact .inl h
          · exact .inr ⟨k, es, rfl, h1, h2, h3⟩
      rcases hcase with ⟨i, rfl⟩ | ⟨k, es, rfl, rfl, hl, hall⟩
      · refine Evl.q_when (et_B (ed_isi2 (b1 := false) (b2 := false) (ed_var rfl d2) (show kitB "int" "tuple" = some false by decide +kernel) (show kitB "int" "list" = some false by decide +kernel))) (fun z => absurd z (by decide)) fun _ H1 e1 => ?_
        have a1 := Ex.dp e1 d1
        have a2 := Ex.dp e1 d2
        refine Evl.q_when (Evl.et_or (a := false) (b := false) (et_B (ed_isN (ed_var rfl a2) (by intro z; cases z))) fun _ => et_B (ed_isi (b := false) (ed_var rfl a2) (show kitB "int" "str" = some false by decide +kernel))) (fun z => absurd z (by decide)) fun _ H2 e2 => ?_
        have b1 := Ex.dp e2 a1
        have b2 := Ex.dp e2 a2
        refine sd_ret (EvD.is (ed_andV (a := true) (ed_isi (ed_var rfl b1) (show kitB "int" "int" = some true by decide +kernel)) fun _ => ed_andV (ed_eq (ed_isi (b := false) (ed_var rfl b1) (show kitB "int" "bool" = some false by decide +kernel)) (ed_isi (b := false) (ed_var rfl b2) (show kitB "int" "bool" = some false by decide +kernel)) (shaped_bool _) (shaped_bool _)) fun _ => ed_eqI (ed_var rfl b1) (ed_var rfl b2)) ?_) fun v H3 e3 dv => q v H3 ((e1.trans e2).trans e3) dv
        rw [eqv_bool]
        simp
      · refine Evl.q_if (et_B (ed_isi2 (b1 := true) (b2 := false) (ed_var rfl d2) (show kitB "tuple" "tuple" = some true by decide +kernel) (show kitB "tuple" "list" = some false by decide +kernel))) (fun _ H1 e1 => ?_) fun z => absurd z (by decide)
        have a1 := Ex.dp e1 d1
        have a2 := Ex.dp e1 d2
        refine Evl.q_when (Evl.et_or (a := false) (b := false) (Evl.et_not (a := true) (et_B (ed_isi2 (b1 := true) (b2 := false) (ed_var rfl a1) (show kitB "tuple" "tuple" = some true by decide +kernel) (show kitB "tuple" "list" = some false by decide +kernel)))) fun _ => et_test (EvD.is (ed_ne (ed_isi (b := false) (ed_var rfl a1) (show kitB "tuple" "list" = some false by decide +kernel)) (ed_isi (b := false) (ed_var rfl a2) (show kitB "tuple" "list" = some false by decide +kernel)) (shaped_bool _) (shaped_bool _)) (by rw [eqv_bool]; rfl))) (fun z => absurd z (by decide)) fun _ H2 e2 => ?_
        have b1 := Ex.dp e2 a1
        have b2 := Ex.dp e2 a2
        refine Evl.q_when (b := false) (et_test (EvD.is (ed_neI (ed_lenT (ed_var rfl b1)) (ed_lenT (ed_var rfl b2))) (by simp))) (fun z => absurd z (by decide)) fun _ H3 e3 => ?_
        have c1 := Ex.dp e3 b1
        have c2 := Ex.dp e3 b2
        refine sd_ret (EvD.is (ed_eqL (l := []) (m := []) (lc_d (enc := PyData.int) (l := Lh.upTo es.length) (fun _ => false) PyData.int (src_range (n := es.length) (ead_one (ed_lenT (ed_var rfl c2))) hl) (by simp [Lh.upTo]; omega) (fun _ => rfl) (fun a ha x H4 e4 dx _ => ?_) (fun a ha z => absurd z (by decide)) (fun _ => rfl) (by simp)) ed_nilL) (by simp)) fun v H4 e4 dv => q v H4 (((e1.trans e2).trans e3).trans e4) dv
        obtain ⟨p, hp, rfl⟩ := List.mem_map.mp ha
        rw [List.mem_range] at hp
        have hat : es[p]? = some es[p] := List.getElem?_eq_getElem hp
        exact Evl.et_not (a := true) (et_B (K := K) (ed_call (ead_cons (ed_ixT (i := p) (ed_var rfl (Ex.dp e4 c1)) (ed_var rfl dx) hat) (ead_one (ed_ixT (i := p) (ed_var rfl (Ex.dp e4 c2)) (ed_var rfl dx) hat))) ⟨es[p], hall _ (List.getElem_mem hp), rfl, rfl⟩))
end
end Lr
end

section
set_option Elab.async false
set_option linter.all false
set_option maxRecDepth 100000
set_option maxHeartbeats 4000000
/-! _law_hands. -/
namespace Lr
open PySem PySem.Spec PyProof.Rows L2
open Evl (Ex EvT)
abbrev st__law_hands : Stmt := topS 33
theorem sc__law_hands : FnScope ["_law_row", "_law_people", "_law_kinds", "_law_many", "_law_size", "_law_found", "_law_rare", "_law_person", "_law_thing"] ["_law_row", "_law_people", "_law_kinds"] (defScope st__law_hands) := ⟨rfl, rfl, rfl, by decide +kernel, rfl, by decide +kernel, by decide +kernel⟩
section
variable {P : Program} {w : World} {K : PySem.W.Frag} {mg : Str → Option Value} {base : Heap} {f : Addr} {fd : FuncData} {σ : L2.St} {H H' : Hp} {te : TE}
/-- some row stands at r, behind all of B -/
def Rw (K : PySem.W.Frag) (B : Hp) (r sc : Addr) (ns : List Int) (H : Hp) : Prop := ∃ (i : Nat) (x y : Int), Row K B r sc ns i x y H
theorem Rw.mono {B : Hp} {r sc : Addr} {ns : List Int} (e : Ex H H') (h : Rw K B r sc ns H) : Rw K B r sc ns H' := by
  obtain ⟨i, x, y, R⟩ := h
  exact ⟨i, x, y, R.mono e⟩
theorem Rw.upd {B : Hp} {r sc l : Addr} {o : HO} {ns : List Int} (h : Rw K B r sc ns H) (nr : r ≠ l) (nb : B l = none) : Rw K B r sc ns (L2.upd H l o) := by
  obtain ⟨i, x, y, R⟩ := h
  exact ⟨i, x, y, R.no, R.seq, Evl.Ex.mut R.ex nb, by rw [upd_ne nr]; exact R.row, R.x0, R.x1, R.y0⟩
theorem Rw.re {B : Hp} {r sc : Addr} {ns : List Int} (h : Rw K B r sc ns H) : Rw K (hid H r) r sc ns H := by
  obtain ⟨i, x, y, R⟩ := h
  exact ⟨i, x, y, hid_same, Evl.ex_l (ex_hid R.ex R.no) R.seq, hid_ex, R.row, R.x0, R.x1, R.y0⟩
theorem Rw.back {B : Hp} {r sc : Addr} {ns : List Int} (h : Rw K B r sc ns H) (h1 : Rw K (hid H r) r sc ns H') : Rw K B r sc ns H' := by
  obtain ⟨i, x, y, R⟩ := h
  obtain ⟨i', x', y', R'⟩ := h1
  exact ⟨i', x', y', R.no, R.seq, (ex_hid R.ex R.no).trans R'.ex, R'.row, R'.x0, R'.x1, R'.y0⟩
theorem Rw.ex {B : Hp} {r sc : Addr} {ns : List Int} (h : Rw K B r sc ns H) : Ex B H := by
  obtain ⟨i, x, y, R⟩ := h
  exact R.ex
theorem Rw.no {B : Hp} {r sc : Addr} {ns : List Int} (h : Rw K B r sc ns H) : B r = none := by
  obtain ⟨i, x, y, R⟩ := h
  exact R.no
theorem Rw.row {B : Hp} {r sc : Addr} {ns : List Int} (h : Rw K B r sc ns H) : ∃ xs, H r = some (.lst xs) := by
  obtain ⟨i, x, y, R⟩ := h
  exact ⟨_, R.row⟩
theorem go_taken {i : Nat} {B : Hp} {r sc : Addr} {ns : List Int} {m : Int} {Q : VK} (hi : σ[i]? = some (some (.ref r))) (R : Rw K B r sc ns H) (hm : EvD K te σ H (.int m)) (m0 : 0 < m) (m1 : m ≤ 100)
    (k : ∀ t H', Rw K B r sc ns H' → Ex (hid H r) H' → 0 ≤ t → t < m → Q (.int t) H') : tCall (spTaken K) [] E0 (tCons (tVar i) (tCons te tNil)) σ H Q :=
  ⟨_, hi, hm H (Evl.Ex.refl H) _ fun v H1 e1 dv => by
    cases dv
    have R1 := R.mono e1
    obtain ⟨a, b, c, R2⟩ := R1.re
    refine ⟨hid H1 r, r, sc, ns, a, b, c, m, rfl, R2, m0, m1, fun t i' x' y' H' R' t0 t1 => k t H' (R1.back ⟨i', x', y', R'⟩) ((hid_mono e1).trans R'.ex) t0 t1⟩⟩
/-- [thing for thing in range(size) if _law_taken(row, rare + 1) == 0] -/
theorem lc_taken {B : Hp} {r sc : Addr} {ns : List Int} {n i j : Nat} {m : Int} {ar : TA} {Q : VK} (R : Rw K B r sc ns H) (hr : EvAD K ar σ H [.int (n : Int)]) (hn : n ≤ 6) (hw : ∀ x, wipe ((wipe σ [j]).set j (some x)) [j] = wipe σ [j]) (hj : ∀ x, ((wipe σ [j]).set j (some x))[j]? = some (some x))
    (hi : ∀ x, ((wipe σ [j]).set j (some x))[i]? = some (some (.ref r))) (hm : ∀ x H1, EvD K te ((wipe σ [j]).set j (some x)) H1 (.int m)) (m0 : 0 < m) (m1 : m ≤ 100)
    (q : ∀ D hs H', Rw K B r sc ns H' → Ex (hid H r) H' → H D = none → H' D = some (.lst (hs.map V.int)) → OkH hs → Q (.ref D) H') :
    tLc (iRng1 ar) (gName j) (tTest (tOp (rEqD K) (tCall (spTaken K) [] E0 (tCons (tVar i) (tCons te tNil))) (tC (.int 0)))) (tVar j) [j] σ H Q := hr H (Evl.Ex.refl H) _ fun vs H1 e1 dv => by
  cases dv with
  | cons dn r0 =>
  cases r0
  cases dn
  refine ⟨n, rfl, by omega, by omega, fun D hD => ?_⟩
  have R1 := R.mono e1
  have hDH : H D = none := Evl.fresh_back e1 hD
  have hDB : B D = none := Evl.fresh_back R.ex hDH
  have neD : r ≠ D := fun z => by
    obtain ⟨xs, h⟩ := R1.row
    rw [← z, h] at hD
    cases hD
  refine ⟨fun i m H' => m = n - i ∧ i ≤ n ∧ Rw K B r sc ns H' ∧ Ex (hid H r) H' ∧ ∃ hs : List Int, H' D = some (.lst (hs.map V.int)) ∧ hs.length ≤ i ∧ hs.Pairwise (· < ·) ∧ ∀ x ∈ hs, 0 ≤ x ∧ x < i,
    ⟨n, rfl, Nat.zero_le _, R1.upd neD hDB, Evl.Ex.mut (hid_ex.trans e1) (by rw [hid_ne neD.symm]; exact hDH), [], upd_same, Nat.le_refl _, .nil, fun _ h => absurd h (by simp)⟩, ?_⟩
  rintro k k2 H2 ⟨rfl, hk, R2, e2, hs, h2, hl, asc, low⟩
  by_cases hlt : k < n
  · refine .inr ⟨hlt, fun H' => k + 1 ≤ n ∧ Rw K B r sc ns H' ∧ Ex (hid H r) H' ∧ ∃ hs : List Int, H' D = some (.lst (hs.map V.int)) ∧ hs.length ≤ k + 1 ∧ hs.Pairwise (· < ·) ∧ ∀ x ∈ hs, 0 ≤ x ∧ x < (k + 1 : Nat), fun H' p => ⟨n - (k + 1), by omega, rfl, p⟩, fun x H3 y => ?_⟩
    obtain ⟨rfl, rfl⟩ := y
    refine ⟨hw _, go_taken (hi _) R2 (hm _ _) m0 m1 fun t H4 R4 e4 t0 t1 => ⟨.int t, .int 0, .int t, .int 0, shaped_int t, shaped_int 0, _, rfl, ?_⟩⟩
    have h4 : H4 D = some (.lst (hs.map V.int)) := e4 _ _ (by rw [hid_ne neD.symm]; exact h2)
    have e24 : Ex (hid H r) H4 := (ex_hid e2 hid_same).trans e4
    rw [eqv_int]
    cases ht : t == 0 with
    | false => exact iteF ⟨by omega, R4, e24, hs, h4, by omega, asc, fun x hx => by have := low x hx; omega⟩
    | true =>
      refine iteT ⟨_, hj _, hs.map V.int, h4, Evl.sz_lt (by rw [List.length_map]; omega), by omega, R4.upd neD hDB, Evl.Ex.mut e24 (by rw [hid_ne neD.symm]; exact hDH), hs ++ [0 + (k : Int)], by rw [upd_same, List.map_append]; rfl, by simp; omega, ?_, fun x hx => ?_⟩
      · rw [List.pairwise_append]
        refine ⟨asc, List.pairwise_singleton _ _, fun a ha b hb => ?_⟩
        have := low a ha
        rw [List.mem_singleton.mp hb]
        omega
      · rcases List.mem_append.mp hx with z | z
        · have := low x z
          omega
        · rw [List.mem_singleton.mp z]
          omega
  · have ek : k = n := by omega
    subst ek
    exact .inl ⟨Nat.le_refl _, q D hs H2 R2 e2 hDH h2 ⟨asc, fun x hx => by have := low x hx; omega⟩⟩
theorem cons_one {ta : TE} {Q : List V → Hp → Prop} (h : ta σ H fun v H1 => Q [v] H1) : tCons ta tNil σ H Q := h
theorem cb_go {r : List V → Hp → VK → Prop} {ta : TA} {Q : VK} (h : ta σ H fun vs H1 => r vs H1 Q) : tCB r ta σ H Q := h
def spHands (K : PySem.W.Frag) : Sp := fun vs H Q _ => ∃ (B : Hp) (r sc : Addr) (ns : List Int), vs = [.ref r, .int 5, .int 6] ∧ Rw K B r sc ns H ∧ ∀ S v H', OkS S → Rw K B r sc ns H' → Dp K (hid H' r) v (encE S) → Q v H'
theorem hid2_mono {l r : Addr} (e : Ex (hid H r) H') : Ex (hid (hid H l) r) (hid (hid H' l) r) := fun b o hb => by
  unfold hid at hb ⊢
  split at hb
  · cases hb
  · rename_i h1
    rw [if_neg h1]
    split at hb
    · cases hb
    · rename_i h2
      rw [if_neg h2]
      exact e b o (by rw [hid_ne h1]; exact hb)
theorem ok_law_hands (F : Fun K "_law_hands" "_law_hands" st__law_hands f fd) (B : Names mg) (G_law_taken : Kn P w K mg base 1 "_law_taken" ["_law_row", "_law_many"] (spTaken K)) : FnOk P w K mg base CX0 2 f fd ["_law_row", "_law_people", "_law_kinds"] (spHands K) := by
  refine F.ok sc__law_hands (fun vs H Q E h => ?_) (fun cdv A outer s H vs Q E hr h => ?_)
  · obtain ⟨_, _, _, _, rfl, _⟩ := h
    rfl
  · obtain ⟨B0, r, sc, ns, rfl, R0, q⟩ := h
    refine ⟨_, (pss_cons (ps_par3 (i := 3) (j := 4) (l := 5) rfl sc__law_hands.nd rfl rfl rfl (by decide) (by decide) (by decide) rfl rfl rfl (pa_cons (pe_op op_add pe_int (pe_fn G_law_taken hr (pa_cons (pv 0) (pa_cons (pv 1) pa_nil)))) (pa_cons (pe_fn G_law_taken hr (pa_cons (pv 0) (pa_cons (pe_op op_add (pv 2) pe_int) pa_nil))) (pa_cons (pe_lst pa_nil) pa_nil))) (by rfl)) (pss_cons (ps_set (i := 6) sc__law_hands.nd rfl (by first | exact Or.inl rfl | exact Or.inr rfl) (pe_op op_add pe_int (pe_fn G_law_taken hr (pa_cons (pv 0) (pa_cons pe_int pa_nil))))) (Evl.pss_cut (ps_for PassesOwn.never rfl (pi_range1 (by rfl) B.range (pa_cons (pv 3) pa_nil)) (pg_name (i := 7) sc__law_hands.nd rfl (by first | exact Or.inl rfl | exact Or.inr rfl)) (pss_one (ps_expr (pe_bm PySem.F.plainAttrs_list PySem.F.slot_list_append PySem.F.type_list_append mt_append (pv 5) (pa_cons (pe_callTy call_tuple_of (by rfl) B.tuple (by decide +kernel) (pa_cons (pe_lc (own := [("_law_thing", 8)]) (wi := (iRng1 (tCons (tVar 4) tNil))) (g := (gName 8)) (te := (tVar 8)) (tt := (tTest (tOp (rEqD K) (tCall (spTaken K) [] E0 (tCons (tVar 0) (tCons (tOp (rI0 fun i j => V.int (i + j)) (tVar 6) (tC (V.int 1))) tNil))) (tC (V.int 0))))) rfl sc__law_hands.nd (pi_range1 (by rfl) B.range (pa_cons (pv 4) pa_nil)) (blkOk_by (by rfl)) (fun _ _ _ _ _ => (pg_name (i := 8) sc__law_hands.nd rfl (by first | exact Or.inl rfl | exact Or.inr rfl))) (fun _ _ _ _ _ => (pts_one (pt_cmpR (op_eqD hr.units) (pe_fn G_law_taken hr (pa_cons (pv 0) (pa_cons (pe_op op_add (pv 6) pe_int) pa_nil))) pe_int (nomark _)))) (fun _ _ _ _ _ => (pv 8))) pa_nil)) pa_nil))))) (pss_one (ps_ret (pe_callTy call_tuple_of (by rfl) B.tuple (by decide +kernel) (pa_cons (pv 5) pa_nil))))))), ?_⟩
    refine go_taken (K := K) (i := 0) rfl R0 (ed_var rfl (.int 5)) (by decide) (by decide) fun t1 H1 R1 e1 a0 a1 => ⟨1, t1, rfl, rfl, ?_⟩
    refine go_taken (K := K) (i := 0) rfl R1 (ed_add (ed_var rfl (.int 6)) ed_int) (by decide) (by decide) fun t2 H2 R2 e2 b0 b1 => ⟨Nat.zero_le _, fun L hL => ⟨_, _, _, rfl, ?_⟩⟩
    have hLB : B0 L = none := Evl.fresh_back R2.ex hL
    have neL : r ≠ L := fun z => by
      obtain ⟨xs, h⟩ := R2.row
      rw [← z, h] at hL
      cases hL
    have R3 : Rw K B0 r sc ns (upd H2 L (.lst [])) := R2.upd neL hLB
    have hL3 : (upd H2 L (.lst [])) L = some (.lst []) := upd_same
    generalize upd H2 L (.lst []) = H3 at R3 hL3
    refine go_taken (K := K) (i := 0) rfl R3 ed_int (by decide) (by decide) fun t3 H4 R4 e4 c0 c1 => ⟨1, t3, rfl, rfl, ?_⟩
    have hL4 : H4 L = some (.lst []) := e4 _ _ (by rw [hid_ne neL.symm]; exact hL3)
    obtain ⟨sz, rfl⟩ : ∃ sz : Nat, t2 = (sz : Int) := ⟨t2.toNat, by omega⟩
    obtain ⟨many, hmany⟩ : ∃ many : Nat, 1 + t1 = (many : Int) := ⟨(1 + t1).toNat, by omega⟩
    refine Evl.q_cut (M := fun σ' H' => (∃ y, σ' = [some (.ref r), some (.int 5), some (.int 6), some (.int (1 + t1)), some (.int (sz : Int)), some (.ref L), some (.int (1 + t3)), y, none]) ∧ Rw K B0 r sc ns H' ∧ ∃ (xs : List V) (S : List (List Int)), H' L = some (.lst xs) ∧ DpAll K (hid (hid H' L) r) xs (S.map encH) ∧ S.length = many ∧ ∀ h ∈ S, OkH h) ?_ ?_
    · refine tfor_rng (K := K) (n := many) (ead_one (EvD.is (ed_var rfl (.int (1 + t1))) (by rw [hmany]))) (by omega) fun H5 e5 => ?_
      refine for_W (S := B0) (l := (List.range many).map fun p : Nat => (p : Int)) (fun σ0 => wk_range (K := K) (j := 7)) (fun i σ' H' => (∃ y, σ' = [some (.ref r), some (.int 5), some (.int 6), some (.int (1 + t1)), some (.int (sz : Int)), some (.ref L), some (.int (1 + t3)), y, none]) ∧ Rw K B0 r sc ns H' ∧ ∃ (xs : List V) (S : List (List Int)), H' L = some (.lst xs) ∧ DpAll K (hid (hid H' L) r) xs (S.map encH) ∧ S.length = i ∧ ∀ h ∈ S, OkH h)
        ⟨⟨_, rfl⟩, R4.mono e5, [], [], e5 _ _ hL4, .nil, rfl, fun _ h => absurd h (by simp)⟩ (fun i σ' H' p => p.2.1.ex) (fun i b σ1 H6 σ2 H7 hb p e7 bb => ?_) (fun σ' H' p => ?_)
      · obtain ⟨⟨y, rfl⟩, R6, xs, S, hx, dx, lS, oS⟩ := p
        obtain ⟨x, dxb, _, rfl⟩ := bb
        cases dxb
        obtain ⟨hi, rfl⟩ := mem_range_at hb
        have R7 := R6.mono e7
        have hx7 := e7 _ _ hx
        refine ⟨_, rfl, .inl ⟨rfl, _, .inl (.inl hx7)⟩, cons_one (cb_go (cons_one (lc_taken (K := K) (i := 0) (j := 8) (n := sz) (m := 1 + t3 + 1) R7 (ead_one (ed_var rfl (.int (sz : Int)))) (by omega) (fun _ => rfl) (fun _ => rfl) (fun _ => rfl) (fun x H1 => ed_add (ed_var rfl (.int (1 + t3))) ed_int) (by omega) (by omega) fun D hs H8 R8 e8 hD h8 oh => ?_)))⟩
        have hx8 : H8 L = some (.lst xs) := e8 _ _ (by rw [hid_ne neL.symm]; exact hx7)
        have lx := dpAll_len dx
        rw [List.length_map] at lx
        refine ⟨D, hs.map V.int, rfl, .inl ⟨.inl (.inl h8), fun T hT => ⟨L, xs, .ref T, rfl, rfl, ?_, Evl.sz_lt (by omega), ⟨_, rfl⟩, ?_, xs ++ [.ref T], S ++ [hs], upd_same, ?_, by rw [List.length_append, lS]; rfl, fun h hh => ?_⟩⟩⟩
        · rw [upd_ne (ne_of_none hx8 hT)]
          exact hx8
        · exact (R8.mono (Evl.Ex.new hT)).upd neL hLB
        · have ex := Evl.Ex.new (o := .tup (hs.map V.int)) hT
          have neT : T ≠ L := fun z => by
            rw [z, hx8] at hT
            cases hT
          have neTr : T ≠ r := fun z => by
            obtain ⟨ys, h⟩ := R8.row
            rw [z, h] at hT
            cases hT
          rw [hid_upd, List.map_append]
          refine dp_app (Ex.dps ?_ dx) (dp_one ?_)
          · refine (hid2_mono (hid_ex.trans e7)).trans ((hid2_mono (H' := H8) e8).trans (hid2_mono (hid_ex.trans ex)))
          · refine .tup (.inl (.inl ?_)) (of_ints hs)
            rw [hid_ne neTr, hid_ne neT, upd_same]
        · rcases List.mem_append.mp hh with z | z
          · exact oS h z
          · rw [List.mem_singleton.mp z]
            exact oh
      · obtain ⟨y, R6, xs, S, hx, dx, lS, oS⟩ := p
        rw [List.length_map, List.length_range] at lS
        exact ⟨y, R6, xs, S, hx, dx, lS, oS⟩
    · rintro σ' H' ⟨⟨y, rfl⟩, R6, xs, S, hx, dx, lS, oS⟩
      refine ⟨_, rfl, L, xs, rfl, .inl ⟨.inl (.inl hx), fun T hT => ?_⟩⟩
      have ex := Evl.Ex.new (o := .tup xs) hT
      have neTr : T ≠ r := fun z => by
        obtain ⟨ys, h⟩ := R6.row
        rw [z, h] at hT
        cases hT
      refine q S (.ref T) _ ⟨by omega, by omega, oS⟩ (R6.mono ex) (.tup (.inl (.inl ?_)) (Ex.dps ?_ dx))
      · rw [hid_ne neTr, upd_same]
      · intro b o hb
        unfold hid at hb ⊢
        split at hb
        · cases hb
        · rename_i h1
          rw [if_neg h1]
          split at hb
          · cases hb
          · exact ex b o hb
end
end Lr
end

section
set_option Elab.async false
set_option linter.all false
set_option maxRecDepth 100000
set_option maxHeartbeats 4000000
/-! The law. -/
namespace Lr
open PySem PySem.Spec PyProof.Rows L2
open Evl (Ex EvT)
abbrev st_law : Stmt := topS 38
theorem sc_law : FnScope ["_law_script", "_law_row", "_law_hands_here", "_law_found", "_law_order", "_law_some", "_law_person", "_law_tops", "_law_hand", "_law_end", "_law_at", "_law_empty", "_law_kept"] ["_law_script"] (defScope st_law) := ⟨rfl, rfl, rfl, by decide +kernel, rfl, by decide +kernel, by decide +kernel⟩
theorem orders_len {n : Nat} (h : n ≤ 5) : (Lh.orders n).length ≤ 120 := by
  have h6 : n = 0 ∨ n = 1 ∨ n = 2 ∨ n = 3 ∨ n = 4 ∨ n = 5 := by omega
  rcases h6 with rfl | rfl | rfl | rfl | rfl | rfl <;> decide +kernel
def keysTo (S : List (List Int)) (os : List (List Int)) : List En := os.foldl (fun acc o => Lh.addKey acc (Lh.done S o)) []
theorem keysTo_snoc (S : List (List Int)) (os : List (List Int)) (o : List Int) : keysTo S (os ++ [o]) = Lh.addKey (keysTo S os) (Lh.done S o) := by
  unfold keysTo
  rw [List.foldl_append]
  rfl
theorem keysTo_len (S : List (List Int)) : ∀ (r os : List (List Int)), os = r.reverse → (keysTo S os).length ≤ os.length
  | [], _, e => by
    subst e
    exact Nat.le_refl _
  | o :: r, _, e => by
    subst e
    rw [List.reverse_cons, keysTo_snoc, List.length_append, List.length_singleton]
    have ih := keysTo_len S r _ rfl
    unfold Lh.addKey
    split
    · omega
    · rw [List.length_append, List.length_singleton]
      omega
theorem ends_keys {S : List (List Int)} (oS : OkS S) : sortE (keysTo S (Lh.orders S.length)) = ends S := sortE_perm (Lh.keys_perm oS.small)
theorem ends_few {S : List (List Int)} (oS : OkS S) : (ends S).length ≤ 120 := by
  rw [← ends_keys oS]
  unfold sortE
  rw [List.length_mergeSort]
  exact Nat.le_trans (keysTo_len S _ _ (List.reverse_reverse _).symm) (orders_len oS.hi)
theorem putE_fst (xs : List (En × Addr)) (e : En) (t : Addr) : (putE xs e t).map (·.1) = Lh.addKey (xs.map (·.1)) e := by
  unfold putE Lh.addKey
  split
  · rfl
  · rw [List.map_append]
    rfl
theorem ak_pair (c : En → Int) {e : En} (h1 : e.length ≤ 1000) (h2 : ∀ h ∈ e, h.length ≤ 1000) : Ak 3 (pairD c e) := by
  refine .inr ⟨_, rfl, by simp, fun x hx => ?_⟩
  rcases List.mem_cons.mp hx with rfl | hx
  · exact ak_int _ 2
  · have ex : x = encE e := by simpa using hx
    subst ex
    refine .inr ⟨_, rfl, by rw [List.length_map]; exact h1, fun y hy => ?_⟩
    obtain ⟨h, hh, rfl⟩ := List.mem_map.mp hy
    refine .inr ⟨_, rfl, by rw [List.length_map]; exact h2 h hh, fun z hz => ?_⟩
    obtain ⟨i, _, rfl⟩ := List.mem_map.mp hz
    exact ⟨i, rfl⟩
theorem range_map {α : Type} (l : List En) (f : En → α) : ((List.range l.length).map fun p : Nat => (p : Int)).map (fun p => f (l.getD p.toNat [])) = l.map f := by
  rw [List.map_map]
  refine List.ext_getElem (by simp) fun i h1 h2 => ?_
  rw [List.length_map] at h2
  simp only [List.getElem_map, List.getElem_range, Function.comp]
  rw [Int.toNat_natCast, List.getD_eq_getElem?_getD, List.getElem?_eq_getElem h2]
  rfl
/-- the first that has the greatest -/
theorem first_most (c : En → Int) : ∀ (l : List En), l ≠ [] → ∃ j e, l[j]? = some e ∧ (∀ y ∈ l, c y ≤ c e) ∧ ∀ (i : Nat) (y : En), i < j → l[i]? = some y → c y ≠ c e
  | [], h => absurd rfl h
  | [a], _ => ⟨0, a, rfl, by simp, fun i y h => absurd h (by omega)⟩
  | a :: b :: l, _ => by
    obtain ⟨j, e, h1, h2, h3⟩ := first_most c (b :: l) (by simp)
    by_cases z : c e ≤ c a
    · refine ⟨0, a, rfl, fun y hy => ?_, fun i y h => absurd h (by omega)⟩
      rcases List.mem_cons.mp hy with q | q
      · rw [q]; exact Int.le_refl _
      · have := h2 y q
        omega
    · refine ⟨j + 1, e, h1, fun y hy => ?_, fun i y h hy => ?_⟩
      · rcases List.mem_cons.mp hy with q | q
        · rw [q]; omega
        · exact h2 y q
      · cases i with
        | zero =>
          have := Option.some.inj hy
          subst this
          omega
        | succ i => exact h3 i y (by omega) hy
section
variable {P : Program} {w : World} {K : PySem.W.Frag} {mg : Str → Option Value} {base : Heap} {f : Addr} {fd : FuncData} {σ : L2.St} {H H' : Hp} {te ta tl : TE}
/-- [(xs[at], some[at]) for at in range(len(some))] -/
theorem ed_pairs {a b j : Nat} {va vb : V} {c : En → Int} {l : List En} (ha : σ[a]? = some (some va)) (hb : σ[b]? = some (some vb)) (da : Dp K H va (.list ((l.map c).map .int))) (db : Dp K H vb (.list (l.map encE))) (hl : l.length ≤ 120)
    (hw : ∀ x, wipe ((wipe σ [j]).set j (some x)) [j] = wipe σ [j]) (hj : ∀ x, ((wipe σ [j]).set j (some x))[j]? = some (some x)) (ha' : ∀ x, ((wipe σ [j]).set j (some x))[a]? = some (some va)) (hb' : ∀ x, ((wipe σ [j]).set j (some x))[b]? = some (some vb)) :
    EvD K (tLc (iRng1 (tCons (tCB (Evl.rLenS K) (tCons (tVar b) tNil)) tNil)) (gName j) tYes (tTup (tCons (tOp (rIxL K) (tVar a) (tVar j)) (tCons (tOp (rIxL K) (tVar b) (tVar j)) tNil))) [j]) σ H (.list (l.map (pairD c))) := by
  refine lc_d0 (enc := PyData.int) (fun p => pairD c (l.getD p.toNat [])) (src_range (n := l.length) (ead_one (EvD.is (ed_lenL (ed_var hb db)) (by rw [List.length_map]))) (by omega)) (by simp; omega) hw (fun p hp x H1 e1 dx _ => ?_) (fun p => noL_pair c _) (range_map l (pairD c))
  obtain ⟨n, hn, rfl⟩ := List.mem_map.mp hp
  rw [List.mem_range] at hn
  have hat : l[n]? = some (l.getD n []) := by
    rw [List.getD_eq_getElem?_getD, List.getElem?_eq_getElem hn]
    rfl
  refine EvD.is (ed_tup (ead_cons (ed_ixL (i := n) (ed_var (ha' x) (Ex.dp e1 da)) (ed_var (hj x) dx) (by rw [List.getElem?_map, List.getElem?_map, hat]; rfl)) (ead_one (ed_ixL (i := n) (ed_var (hb' x) (Ex.dp e1 db)) (ed_var (hj x) dx) (by rw [List.getElem?_map, hat]; rfl)))) (by simp)) ?_
  rw [Int.toNat_natCast]
  rfl
/-- (max(xs), some[xs.index(max(xs))]) -/
theorem ed_first {a b : Nat} {va vb : V} {c : En → Int} {l : List En} (ha : σ[a]? = some (some va)) (hb : σ[b]? = some (some vb)) (da : Dp K H va (.list ((l.map c).map .int))) (db : Dp K H vb (.list (l.map encE))) (hne : l ≠ []) (hs : l.Pairwise fun a b => leE a b = true) :
    EvD K (tTup (tCons (tCB (rMax K) (tCons (tVar a) tNil)) (tCons (tOp (rIxL K) (tVar b) (tBM K "list" (rIndex K) (tVar a) (tCons (tCB (rMax K) (tCons (tVar a) tNil)) tNil))) tNil))) σ H (pairD c (bestE (fun e => -(c e)) l)) := by
  obtain ⟨j, e, h1, h2, h3⟩ := first_most c l hne
  rw [most_first hs h1 h2 h3]
  have mx : EvD K (tCB (rMax K) (tCons (tVar a) tNil)) σ H (.int (c e)) := ed_max (ed_var ha da) (List.mem_map.mpr ⟨e, List.mem_of_getElem? h1, rfl⟩) fun y hy => by
    obtain ⟨z, hz, rfl⟩ := List.mem_map.mp hy
    exact h2 z hz
  refine ed_tup (ead_cons mx (ead_one (ed_ixL (i := j) (ed_var hb db) (ed_lindex (ed_var ha da) mx (by rw [List.getElem?_map, h1]; rfl) fun m hm => ?_) (by rw [List.getElem?_map, h1]; rfl)))) (by simp)
  rw [List.getElem?_map]
  cases hy : l[m]? with
  | none => intro z; cases z
  | some y =>
    intro z
    exact h3 m y hm hy (Option.some.inj z)
theorem ev_keyList {i : Nat} {d : Addr} {xs : List (En × Addr)} (hi : σ[i]? = some (some (.ref d))) (hd : H d = some (KeyO P w d xs)) (hx : ∀ p ∈ xs, Dp K H (.ref p.2) (encE p.1)) (hl : xs.length ≤ 1000) : EvLP K (tCB (rKeyList P w) (tCons (tVar i) tNil)) σ H ((xs.map (·.1)).map encE) Any := fun H1 e Q q =>
  ⟨_, hi, d, xs, rfl, e _ _ hd, hl, fun p hp => by
    have ex := Evl.Ex.new (o := .lst (xs.map fun x => V.ref x.2)) hp
    refine q p _ _ ex (.inl (.inl upd_same)) ?_ fun _ _ => trivial
    have key : ∀ ys : List (En × Addr), (∀ p ∈ ys, p ∈ xs) → DpAll K (upd H1 p (.lst (xs.map fun x => V.ref x.2))) (ys.map fun x => V.ref x.2) ((ys.map (·.1)).map encE) := by
      intro ys
      induction ys with
      | nil => intro _; exact .nil
      | cons y ys ih => intro h; exact .cons (Ex.dp (e.trans ex) (hx y (h y List.mem_cons_self))) (ih fun p hp => h p (List.mem_cons_of_mem _ hp))
    exact key xs fun p hp => hp⟩
theorem ed_alike {d : PyData} {n : Nat} (ha : EvD K ta σ H d) (hb : EvD K te σ H d) (hk : Ak n d) : EvD K (tCall (spR K (rA (n + 1))) [] E0 (tCons ta (tCons te tNil))) σ H (.bool true) := ed_call (ead_cons ha (ead_one hb)) ⟨d, hk, rfl, rfl⟩
theorem et_ok {d : PyData} {n : Nat} (ha : EvD K ta σ H d) (hb : EvD K te σ H d) (hk : Ak n d) : EvT (tNot (tB (tCall (spR K (rA (n + 1))) [] E0 (tCons ta (tCons te tNil))))) σ H false := Evl.et_not (a := true) (et_B (ed_alike ha hb hk))
theorem ef_orders {n : Nat} (h : EvD K te σ H (.int (n : Int))) (hn : n ≤ 5) : EvF K (tCall (spOrders K) [] E0 (tCons te tNil)) σ H ((Lh.orders n).map encH) := fun H1 e Q q =>
  h H1 e _ fun x H2 e2 dx => by
    cases dx
    exact ⟨n, rfl, hn, fun p xs H3 hp e3 h3 d3 => q p xs H3 (Evl.fresh_back e2 hp) (e2.trans e3) h3 d3⟩
theorem tfor_f {g : TG} {tb : TS} {D : Ends} {ds : List PyData} (h : EvF K tl σ H ds) (k : ∀ p xs H1, H p = none → Ex H H1 → H1 p = some (.lst xs) → DpAll K H1 xs ds → ∃ W : Nat → Nat → L2.St → Hp → Prop, (∃ m, W 0 m σ H1) ∧ ∀ i m σ H, W i m σ H →
      ((Itl K p).stop i H ∧ D.nx σ H) ∨ ((Itl K p).go i H ∧ ∃ N : L2.St → Hp → Prop, (∀ σ' H', N σ' H' → ∃ m', m' < m ∧ W (i + 1) m' σ' H') ∧ ∀ x H', (Itl K p).yld i H x H' → g x σ H' fun σ2 H2 => tb { D with nx := N, ct := N, bk := D.nx } σ2 H2)) :
    tFor (iList K tl) g tb D σ H := h H (Evl.Ex.refl H) _ fun p xs H1 hp e1 h1 dx => ⟨p, rfl, ⟨xs, .inl (.inl h1)⟩, k p xs H1 hp e1 h1 dx⟩
theorem dp_ref {y : V} {ds : List PyData} (h : Dp K H y (.tuple ds)) : ∃ a, y = .ref a := by
  cases h
  exact ⟨_, rfl⟩
theorem ak_best {S : List (List Int)} (oS : OkS S) (c c' : En → Int) : Ak 3 (pairD c (bestE c' (ends S))) := by
  have o := ends_ok oS (bestE_mem (c := c') (ends_ne oS))
  have := oS.hi
  exact ak_pair c (by have := o.len; omega) fun h hh => by have := o.low h hh; omega
theorem OkS.loose {S : List (List Int)} (o : OkS S) : Loose S := ⟨o.hi, fun h hh => (o.all h hh).len⟩
def spLaw (K : PySem.W.Frag) : Sp := fun vs H Q _ => ∃ (sc : Addr) (ns : List Int), vs = [.ref sc] ∧ SqL K H sc (ns.map V.int) ∧ ∀ H', Q (.bl true) H'
theorem ok_law (F : Fun K "law" "law" st_law f fd) (B : Names mg) (G_law_taken : Kn P w K mg base 1 "_law_taken" ["_law_row", "_law_many"] (spTaken K)) (G_law_hands : Kn P w K mg base 2 "_law_hands" ["_law_row", "_law_people", "_law_kinds"] (spHands K)) (G_law_orders : Kn P w K mg base 1 "_law_orders" ["_law_many"] (spOrders K))
    (G_law_done : Kn P w K mg base 3 "_law_done" ["_law_hands_here", "_law_calls"] (spR K rLawDone)) (G_law_alike : Kn P w K mg base 4 "_law_alike" ["_law_found", "_law_due"] (spR K (rA 4)))
    (G_fairest : Kn P w K mg base 5 "fairest" ["hands"] (spR K (rBest topOf))) (G_count_fair : Kn P w K mg base 5 "count_fair" ["hands"] (spR K rCount)) (G_squarest : Kn P w K mg base 5 "squarest" ["hands"] (spR K (rBest sqOf)))
    (G_most_empty : Kn P w K mg base 5 "most_empty" ["hands"] (spR K (rMost emptyOf))) (G_fewest_empty : Kn P w K mg base 5 "fewest_empty" ["hands"] (spR K (rBest emptyOf)))
    (G_most_for : Kn P w K mg base 5 "most_for" ["hands", "person"] (spR K rMostFor)) (G_least_for : Kn P w K mg base 5 "least_for" ["hands", "person"] (spR K rBestFor)) :
    FnOk P w K mg base CX0 6 f fd ["_law_script"] (spLaw K) := by
  refine F.ok sc_law (fun vs H Q E h => ?_) (fun cdv A outer s H vs Q E hr h => ?_)
  · obtain ⟨_, _, rfl, _⟩ := h
    rfl
  · obtain ⟨sc, ns, rfl, hsc, q⟩ := h
    refine ⟨_, (pss_cons (ps_set (i := 1) sc_law.nd rfl (by first | exact Or.inl rfl | exact Or.inr rfl) (pe_lst (pa_cons (pv 0) (pa_cons pe_int (pa_cons pe_int (pa_cons pe_int pa_nil)))))) (pss_cons (ps_set (i := 2) sc_law.nd rfl (by first | exact Or.inl rfl | exact Or.inr rfl) (pe_fn G_law_hands (hr.mono (by decide)) (pa_cons (pv 1) (pa_cons pe_int (pa_cons pe_int pa_nil))))) (pss_cons (ps_set (i := 3) sc_law.nd rfl (by first | exact Or.inl rfl | exact Or.inr rfl) (pe_keyNew)) (Evl.pss_cut (ps_for PassesOwn.never rfl (pi_list (pe_fn G_law_orders (hr.mono (by decide)) (pa_cons (pe_callB call_len_seq (by rfl) B.len (by decide +kernel) (pa_cons (pv 2) pa_nil)) pa_nil))) (pg_name (i := 4) sc_law.nd rfl (by first | exact Or.inl rfl | exact Or.inr rfl)) (pss_one (ps_asg pe_bl (pg_sub (pv 3) (pe_fn G_law_done (hr.mono (by decide)) (pa_cons (pv 2) (pa_cons (pv 4) pa_nil))) (set_key hr.units))))) (pss_cons (ps_asg (pe_tup (pa_cons (pe_callB (cr_sortD hr.units) (by rfl) B.sorted (by decide +kernel) (pa_cons (pe_callTy (cr_keyList rfl) (by rfl) B.list (by decide +kernel) (pa_cons (pv 3) pa_nil)) pa_nil)) (pa_cons (pe_fn G_law_taken (hr.mono (by decide)) (pa_cons (pv 1) (pa_cons (pe_callB call_len_seq (by rfl) B.len (by decide +kernel) (pa_cons (pv 2) pa_nil)) pa_nil))) pa_nil))) (pg_tup (by rfl) (pgs_cons (pg_name (i := 5) sc_law.nd rfl (by first | exact Or.inl rfl | exact Or.inr rfl)) (pgs_cons (pg_name (i := 6) sc_law.nd rfl (by first | exact Or.inl rfl | exact Or.inr rfl)) pgs_nil)))) (pss_cons (ps_set (i := 7) sc_law.nd rfl (by first | exact Or.inl rfl | exact Or.inr rfl) (pe_lc (own := [("_law_end", 9)]) (wi := (iList K (tVar 5))) (g := (gName 9)) (te := (tCB (rMax K) (tCons (tLc (iTup K (tVar 9)) (gName 8) tYes (tCB (Evl.rLenS K) (tCons (tVar 8) tNil)) [8]) tNil))) (tt := tYes) rfl sc_law.nd (pi_list (pv 5)) (blkOk_by (by rfl)) (fun _ _ _ _ _ => (pg_name (i := 9) sc_law.nd rfl (by first | exact Or.inl rfl | exact Or.inr rfl))) (fun _ _ _ _ _ => pts_nil) (fun _ _ _ _ _ => (pe_callB (cr_max rfl) (by rfl) B.max (by decide +kernel) (pa_cons (pe_lc (own := [("_law_hand", 8)]) (wi := (iTup K (tVar 9))) (g := (gName 8)) (te := (tCB (Evl.rLenS K) (tCons (tVar 8) tNil))) (tt := tYes) rfl sc_law.nd (pi_tup (pv 9)) (blkOk_by (by rfl)) (fun _ _ _ _ _ => (pg_name (i := 8) sc_law.nd rfl (by first | exact Or.inl rfl | exact Or.inr rfl))) (fun _ _ _ _ _ => pts_nil) (fun _ _ _ _ _ => (pe_callB call_len_seq (by rfl) B.len (by decide +kernel) (pa_cons (pv 8) pa_nil)))) pa_nil))))) (pss_cons (ps_if (pt_not (pt_val (pe_fn G_law_alike (hr.mono (by decide)) (pa_cons (pe_fn G_fairest hr (pa_cons (pv 2) pa_nil)) (pa_cons (pe_callB (cr_minD rfl hr.units) (by rfl) B.min (by decide +kernel) (pa_cons (pe_lc (own := [("_law_at", 10)]) (wi := (iRng1 (tCons (tCB (Evl.rLenS K) (tCons (tVar 5) tNil)) tNil))) (g := (gName 10)) (te := (tTup (tCons (tOp (rIxL K) (tVar 7) (tVar 10)) (tCons (tOp (rIxL K) (tVar 5) (tVar 10)) tNil)))) (tt := tYes) rfl sc_law.nd (pi_range1 (by rfl) B.range (pa_cons (pe_callB call_len_seq (by rfl) B.len (by decide +kernel) (pa_cons (pv 5) pa_nil)) pa_nil)) (blkOk_by (by rfl)) (fun _ _ _ _ _ => (pg_name (i := 10) sc_law.nd rfl (by first | exact Or.inl rfl | exact Or.inr rfl))) (fun _ _ _ _ _ => pts_nil) (fun _ _ _ _ _ => (pe_tup (pa_cons (pe_ix ix_list (pv 7) (pv 10) (fun _ _ => rfl)) (pa_cons (pe_ix ix_list (pv 5) (pv 10) (fun _ _ => rfl)) pa_nil))))) pa_nil)) pa_nil))))) (pss_one (ps_ret pe_bl)) pss_nil) (pss_cons (ps_if (pt_not (pt_val (pe_fn G_law_alike (hr.mono (by decide)) (pa_cons (pe_fn G_count_fair hr (pa_cons (pv 2) pa_nil)) (pa_cons (pe_bm PySem.F.plainAttrs_list PySem.F.slot_list_count PySem.F.type_list_count mt_lcount (pv 7) (pa_cons (pe_callB (cr_min rfl) (by rfl) B.min (by decide +kernel) (pa_cons (pv 7) pa_nil)) pa_nil)) pa_nil))))) (pss_one (ps_ret pe_bl)) pss_nil) (pss_cons (ps_if (pt_not (pt_val (pe_fn G_law_alike (hr.mono (by decide)) (pa_cons (pe_fn G_squarest hr (pa_cons (pv 2) pa_nil)) (pa_cons (pe_callB (cr_minD rfl hr.units) (by rfl) B.min (by decide +kernel) (pa_cons (pe_lc (own := [("_law_end", 9)]) (wi := (iList K (tVar 5))) (g := (gName 9)) (te := (tTup (tCons (tCB (rSum K) (tCons (tLc (iTup K (tVar 9)) (gName 8) tYes (tOp (rI CMul fun i j => V.int (i * j)) (tCB (Evl.rLenS K) (tCons (tVar 8) tNil)) (tCB (Evl.rLenS K) (tCons (tVar 8) tNil))) [8]) tNil)) (tCons (tVar 9) tNil)))) (tt := tYes) rfl sc_law.nd (pi_list (pv 5)) (blkOk_by (by rfl)) (fun _ _ _ _ _ => (pg_name (i := 9) sc_law.nd rfl (by first | exact Or.inl rfl | exact Or.inr rfl))) (fun _ _ _ _ _ => pts_nil) (fun _ _ _ _ _ => (pe_tup (pa_cons (pe_callB (cr_sum rfl) (by rfl) B.sum (by decide +kernel) (pa_cons (pe_lc (own := [("_law_hand", 8)]) (wi := (iTup K (tVar 9))) (g := (gName 8)) (te := (tOp (rI CMul fun i j => V.int (i * j)) (tCB (Evl.rLenS K) (tCons (tVar 8) tNil)) (tCB (Evl.rLenS K) (tCons (tVar 8) tNil)))) (tt := tYes) rfl sc_law.nd (pi_tup (pv 9)) (blkOk_by (by rfl)) (fun _ _ _ _ _ => (pg_name (i := 8) sc_law.nd rfl (by first | exact Or.inl rfl | exact Or.inr rfl))) (fun _ _ _ _ _ => pts_nil) (fun _ _ _ _ _ => (pe_op op_mul (pe_callB call_len_seq (by rfl) B.len (by decide +kernel) (pa_cons (pv 8) pa_nil)) (pe_callB call_len_seq (by rfl) B.len (by decide +kernel) (pa_cons (pv 8) pa_nil))))) pa_nil)) (pa_cons (pv 9) pa_nil))))) pa_nil)) pa_nil))))) (pss_one (ps_ret pe_bl)) pss_nil) (pss_cons (ps_set (i := 11) sc_law.nd rfl (by first | exact Or.inl rfl | exact Or.inr rfl) (pe_lc (own := [("_law_end", 9)]) (wi := (iList K (tVar 5))) (g := (gName 9)) (te := (tCB (Evl.rLenS K) (tCons (tLc (iTup K (tVar 9)) (gName 8) (tTest (tOp (rEqD K) (tVar 8) (tTup tNil))) (tVar 8) [8]) tNil))) (tt := tYes) rfl sc_law.nd (pi_list (pv 5)) (blkOk_by (by rfl)) (fun _ _ _ _ _ => (pg_name (i := 9) sc_law.nd rfl (by first | exact Or.inl rfl | exact Or.inr rfl))) (fun _ _ _ _ _ => pts_nil) (fun _ _ _ _ _ => (pe_callB call_len_seq (by rfl) B.len (by decide +kernel) (pa_cons (pe_lc (own := [("_law_hand", 8)]) (wi := (iTup K (tVar 9))) (g := (gName 8)) (te := (tVar 8)) (tt := (tTest (tOp (rEqD K) (tVar 8) (tTup tNil)))) rfl sc_law.nd (pi_tup (pv 9)) (blkOk_by (by rfl)) (fun _ _ _ _ _ => (pg_name (i := 8) sc_law.nd rfl (by first | exact Or.inl rfl | exact Or.inr rfl))) (fun _ _ _ _ _ => (pts_one (pt_cmpR (op_eqD hr.units) (pv 8) (pe_tup pa_nil) (nomark _)))) (fun _ _ _ _ _ => (pv 8))) pa_nil))))) (pss_cons (ps_if (pt_not (pt_val (pe_fn G_law_alike (hr.mono (by decide)) (pa_cons (pe_fn G_most_empty hr (pa_cons (pv 2) pa_nil)) (pa_cons (pe_tup (pa_cons (pe_callB (cr_max rfl) (by rfl) B.max (by decide +kernel) (pa_cons (pv 11) pa_nil)) (pa_cons (pe_ix ix_list (pv 5) (pe_bm PySem.F.plainAttrs_list PySem.F.slot_list_index PySem.F.type_list_index mt_index (pv 11) (pa_cons (pe_callB (cr_max rfl) (by rfl) B.max (by decide +kernel) (pa_cons (pv 11) pa_nil)) pa_nil)) (fun _ _ => rfl)) pa_nil))) pa_nil))))) (pss_one (ps_ret pe_bl)) pss_nil) (pss_cons (ps_if (pt_not (pt_val (pe_fn G_law_alike (hr.mono (by decide)) (pa_cons (pe_fn G_fewest_empty hr (pa_cons (pv 2) pa_nil)) (pa_cons (pe_callB (cr_minD rfl hr.units) (by rfl) B.min (by decide +kernel) (pa_cons (pe_lc (own := [("_law_at", 10)]) (wi := (iRng1 (tCons (tCB (Evl.rLenS K) (tCons (tVar 5) tNil)) tNil))) (g := (gName 10)) (te := (tTup (tCons (tOp (rIxL K) (tVar 11) (tVar 10)) (tCons (tOp (rIxL K) (tVar 5) (tVar 10)) tNil)))) (tt := tYes) rfl sc_law.nd (pi_range1 (by rfl) B.range (pa_cons (pe_callB call_len_seq (by rfl) B.len (by decide +kernel) (pa_cons (pv 5) pa_nil)) pa_nil)) (blkOk_by (by rfl)) (fun _ _ _ _ _ => (pg_name (i := 10) sc_law.nd rfl (by first | exact Or.inl rfl | exact Or.inr rfl))) (fun _ _ _ _ _ => pts_nil) (fun _ _ _ _ _ => (pe_tup (pa_cons (pe_ix ix_list (pv 11) (pv 10) (fun _ _ => rfl)) (pa_cons (pe_ix ix_list (pv 5) (pv 10) (fun _ _ => rfl)) pa_nil))))) pa_nil)) pa_nil))))) (pss_one (ps_ret pe_bl)) pss_nil) (pss_cons (ps_set (i := 12) sc_law.nd rfl (by first | exact Or.inl rfl | exact Or.inr rfl) (pe_lc (own := [("_law_end", 9)]) (wi := (iList K (tVar 5))) (g := (gName 9)) (te := (tCB (Evl.rLenS K) (tCons (tOp (rIxT K) (tVar 9) (tVar 6)) tNil))) (tt := tYes) rfl sc_law.nd (pi_list (pv 5)) (blkOk_by (by rfl)) (fun _ _ _ _ _ => (pg_name (i := 9) sc_law.nd rfl (by first | exact Or.inl rfl | exact Or.inr rfl))) (fun _ _ _ _ _ => pts_nil) (fun _ _ _ _ _ => (pe_callB call_len_seq (by rfl) B.len (by decide +kernel) (pa_cons (pe_ix ix_tup (pv 9) (pv 6) (fun _ _ => rfl)) pa_nil))))) (pss_cons (ps_if (pt_not (pt_val (pe_fn G_law_alike (hr.mono (by decide)) (pa_cons (pe_fn G_most_for hr (pa_cons (pv 2) (pa_cons (pv 6) pa_nil))) (pa_cons (pe_tup (pa_cons (pe_callB (cr_max rfl) (by rfl) B.max (by decide +kernel) (pa_cons (pv 12) pa_nil)) (pa_cons (pe_ix ix_list (pv 5) (pe_bm PySem.F.plainAttrs_list PySem.F.slot_list_index PySem.F.type_list_index mt_index (pv 12) (pa_cons (pe_callB (cr_max rfl) (by rfl) B.max (by decide +kernel) (pa_cons (pv 12) pa_nil)) pa_nil)) (fun _ _ => rfl)) pa_nil))) pa_nil))))) (pss_one (ps_ret pe_bl)) pss_nil) (pss_one (ps_ret (pe_fn G_law_alike (hr.mono (by decide)) (pa_cons (pe_fn G_least_for hr (pa_cons (pv 2) (pa_cons (pv 6) pa_nil))) (pa_cons (pe_callB (cr_minD rfl hr.units) (by rfl) B.min (by decide +kernel) (pa_cons (pe_lc (own := [("_law_at", 10)]) (wi := (iRng1 (tCons (tCB (Evl.rLenS K) (tCons (tVar 5) tNil)) tNil))) (g := (gName 10)) (te := (tTup (tCons (tOp (rIxL K) (tVar 12) (tVar 10)) (tCons (tOp (rIxL K) (tVar 5) (tVar 10)) tNil)))) (tt := tYes) rfl sc_law.nd (pi_range1 (by rfl) B.range (pa_cons (pe_callB call_len_seq (by rfl) B.len (by decide +kernel) (pa_cons (pv 5) pa_nil)) pa_nil)) (blkOk_by (by rfl)) (fun _ _ _ _ _ => (pg_name (i := 10) sc_law.nd rfl (by first | exact Or.inl rfl | exact Or.inr rfl))) (fun _ _ _ _ _ => pts_nil) (fun _ _ _ _ _ => (pe_tup (pa_cons (pe_ix ix_list (pv 12) (pv 10) (fun _ _ => rfl)) (pa_cons (pe_ix ix_list (pv 5) (pv 10) (fun _ _ => rfl)) pa_nil))))) pa_nil)) pa_nil))))))))))))))))))), ?_⟩
    -- the row
    refine ⟨_, rfl, by show 4 ≤ sizeLine; decide, fun r hr0 => ?_⟩
    have R1 : Rw K H r sc ns (upd H r (.lst [.ref sc, .int 0, .int 9723, .int 0])) := ⟨0, 9723, 0, hr0, hsc, Evl.Ex.new hr0, upd_same, by decide, by decide, by decide⟩
    generalize upd H r (.lst [.ref sc, .int 0, .int 9723, .int 0]) = H1 at R1
    -- the hands
    refine ⟨_, rfl, H, r, sc, ns, rfl, R1, fun S v H2 oS R2 dS => ?_⟩
    -- the dict
    refine fun d hd => ?_
    have hdH : H d = none := Evl.fresh_back R2.ex hd
    have ned : r ≠ d := fun z => by
      obtain ⟨xs, h⟩ := R2.row
      rw [← z, h] at hd
      cases hd
    have R3 : Rw K H r sc ns (upd H2 d (KeyO P w d [])) := R2.upd ned hdH
    have hS0d : (hid H2 r) d = none := by rw [hid_ne ned.symm]; exact hd
    have e3 : Ex (hid H2 r) (upd H2 d (KeyO P w d [])) := hid_ex.trans (Evl.Ex.new hd)
    have hd3 : (upd H2 d (KeyO P w d [])) d = some (KeyO P w d []) := upd_same
    show Evl.tCut _ _ _ _ (upd H2 d (KeyO P w d []))
    generalize upd H2 d (KeyO P w d []) = H3 at R3 e3 hd3
    have o5 := oS.hi
    have few := ends_few oS
    refine Evl.q_cut (M := fun σ' H' => (∃ y, σ' = [some (.ref sc), some (.ref r), some v, some (.ref d), y, none, none, none, none, none, none, none, none]) ∧ Rw K H r sc ns H' ∧ Ex (hid H2 r) H' ∧ ∃ xs : List (En × Addr), H' d = some (KeyO P w d xs) ∧ xs.map (·.1) = keysTo S (Lh.orders S.length) ∧ ∀ p ∈ xs, Dp K (hid H' d) (.ref p.2) (encE p.1)) ?_ ?_
    · have od : EvF K (tCall (spOrders K) [] E0 (tCons (tCB (Evl.rLenS K) (tCons (tVar 2) tNil)) tNil)) [some (.ref sc), some (.ref r), some v, some (.ref d), none, none, none, none, none, none, none, none, none] H3 ((Lh.orders S.length).map encH) := ef_orders (n := S.length) (EvD.is (ed_lenT (ed_var rfl (Ex.dp e3 dS))) (by rw [List.length_map])) o5
      refine tfor_f od fun p os H4 hp e4 h4 dos => ?_
      have hd4 := e4 _ _ hd3
      have nep : p ≠ d := fun z => by
        rw [z, hd3] at hp
        cases hp
      have h4' : (hid H4 d) p = some (.lst os) := by rw [hid_ne nep]; exact h4
      have eS : Ex (hid H2 r) (hid H4 d) := ex_hid (e3.trans e4) hS0d
      have dos' : DpAll K (hid H4 d) os ((Lh.orders S.length).map encH) := dps_hid (NoT.ext hd4) _ _ (noLs_map noL_H _) dos
      refine for_W (S := hid H4 d) (l := Lh.orders S.length) (fun σ0 => wk_list (j := 4) (enc := encH) (P := Any) (.inl (.inl h4')) dos' (fun _ _ => trivial) stay_any)
        (fun i σ' H' => (∃ y, σ' = [some (.ref sc), some (.ref r), some v, some (.ref d), y, none, none, none, none, none, none, none, none]) ∧ Ex (hid H4 d) H' ∧ ∃ xs : List (En × Addr), H' d = some (KeyO P w d xs) ∧ xs.map (·.1) = keysTo S ((Lh.orders S.length).take i) ∧ ∀ p ∈ xs, Dp K (hid H' d) (.ref p.2) (encE p.1))
        ⟨⟨_, rfl⟩, hid_ex, [], hd4, rfl, fun _ h => absurd h (by simp)⟩ (fun i σ' H' p => p.2.1) (fun i k σ1 H5 σ2 H6 hk p e6 bb => ?_) (fun σ' H' p => ?_)
      · obtain ⟨⟨y, rfl⟩, e5, xs, hx, kx, dx⟩ := p
        obtain ⟨x, dk, _, rfl⟩ := bb
        have ho := Lh.mem_orders.mp (List.mem_of_getElem? hk)
        have hlen := keysTo_len S _ ((Lh.orders S.length).take i) (List.reverse_reverse _).symm
        have olen := orders_len o5
        have lk : xs.length = (keysTo S ((Lh.orders S.length).take i)).length := by rw [← kx, List.length_map]
        rw [List.length_take] at hlen
        have kd : EvD K (tCall (spR K rLawDone) [] E0 (tCons (tVar 2) (tCons (tVar 4) tNil))) ([some (.ref sc), some (.ref r), some v, some (.ref d), y, none, none, none, none, none, none, none, none].set 4 (some x)) H6 (encE (Lh.done S k)) :=
          ed_call (R := rLawDone) (ead_cons (ed_var rfl (Ex.dp (eS.trans (e5.trans e6)) dS)) (ead_one (ed_var rfl dk))) ⟨S, k, oS.loose, fun x hx => (ho.2 x).mp hx, rfl, rfl⟩
        refine ⟨_, rfl, kd H6 (Evl.Ex.refl _) _ fun y6 H7 e7 dy => ?_⟩
        obtain ⟨t, rfl⟩ := dp_ref dy
        have hx7 := e7 _ _ (e6 _ _ hx)
        have e57 : Ex H5 H7 := e6.trans e7
        refine ⟨d, t, Lh.done S k, xs, rfl, rfl, rfl, hx7, fun p hp => Ex.dp (hid_ex.trans e57) (dx p hp), dy, by omega, ⟨_, rfl⟩, fun b o hb => ?_, putE xs (Lh.done S k) t, upd_same, ?_, fun p hp => ?_⟩
        · have nb : b ≠ d := by
            rintro rfl
            rw [hid_same] at hb
            cases hb
          rw [upd_ne nb]
          exact e57 b o (e5 b o hb)
        · rw [putE_fst, kx, List.take_add_one, hk]
          exact (keysTo_snoc S _ k).symm
        · rw [hid_upd]
          have hcase : p ∈ xs ∨ p = (Lh.done S k, t) := by
            unfold putE at hp
            split at hp
            · exact .inl hp
            · rcases List.mem_append.mp hp with z | z
              · exact .inl z
              · exact .inr (List.mem_singleton.mp z)
          rcases hcase with z | rfl
          · exact Ex.dp (hid_mono e57) (dx p z)
          · exact dp_hid (NoT.ext hx7) _ _ (noL_E _) dy
      · obtain ⟨y, e5, xs, hx, kx, dx⟩ := p
        rw [List.take_length] at kx
        refine ⟨y, ?_, eS.trans e5, xs, hx, kx, dx⟩
        obtain ⟨i, x, y, R⟩ := R3.mono e4
        exact ⟨i, x, y, R.no, R.seq, (ex_hid R.ex hdH).trans e5, e5 _ _ (by rw [hid_ne ned]; exact R.row), R.x0, R.x1, R.y0⟩
    · rintro σ' H5 ⟨⟨y, rfl⟩, R5, e5, xs, hx, kx, dx⟩
      have lk : xs.length = (keysTo S (Lh.orders S.length)).length := by rw [← kx, List.length_map]
      have klen := keysTo_len S _ (Lh.orders S.length) (List.reverse_reverse _).symm
      have olen := orders_len o5
      have srt : EvFP K (tCB (rSortD K) (tCons (tCB (rKeyList P w) (tCons (tVar 3) tNil)) tNil)) [some (.ref sc), some (.ref r), some v, some (.ref d), y, none, none, none, none, none, none, none, none] H5 (((xs.map (·.1)).map encE).mergeSort (PySem.W.dataLe false id)) Any := by
        refine ef_sortD stay_any (ev_keyList rfl hx (fun p hp => Ex.dp hid_ex (dx p hp)) (by omega)) (by rw [List.length_map, List.length_map]; omega) (PySem.W.AllAlike.of alike_E) (.inl fun dd hdd => ?_) fun dd hdd => ?_
        · obtain ⟨e, he, rfl⟩ := List.mem_map.mp hdd
          rw [kx] at he
          have he2 : e ∈ ends S := by
            rw [← ends_keys oS]
            exact mem_sortE.mpr he
          have oe := ends_ok oS he2
          have o1 := oS.lo
          cases e with
          | nil => have := oe.len; simp at this; omega
          | cons a g => exact ⟨encH a, g.map encH, rfl⟩
        · obtain ⟨e, he, rfl⟩ := List.mem_map.mp hdd
          have := dep_E e
          omega
      rw [← sortE_enc, kx, ends_keys oS] at srt
      refine srt H5 (Evl.Ex.refl _) _ fun l ys H6 hl e6 h6 dy _ => ?_
      refine cons_one (go_taken (K := K) (i := 1) (m := (S.length : Nat)) rfl (R5.mono e6) (EvD.is (ed_lenT (ed_var rfl (Ex.dp (e5.trans e6) dS))) (by rw [List.length_map])) (by have := oS.lo; omega) (by omega) fun t H7 R7 e7 t0 t1 => ?_)
      refine ⟨by show 2 ≤ sizeLine; decide, fun T hT => ⟨T, _, rfl, .inl (.inl upd_same), rfl, _, _, rfl, _, _, rfl, rfl, ?_⟩⟩
      obtain ⟨p, rfl⟩ : ∃ p : Nat, t = (p : Int) := ⟨t.toNat, by omega⟩
      have hp : p < S.length := by omega
      have ex8 := Evl.Ex.new (o := .tup [.ref l, .int (p : Int)]) hT
      obtain ⟨row, hrow⟩ := (R5.mono e6).row
      have nel : l ≠ r := fun z => by
        obtain ⟨row5, hrow5⟩ := R5.row
        rw [z, hrow5] at hl
        cases hl
      have dl : Dp K (upd H7 T (.tup [.ref l, .int (p : Int)])) (.ref l) (.list ((ends S).map encE)) := Ex.dp (e7.trans ex8) (.lst (.inl (.inl (by rw [hid_ne nel]; exact h6))) (dps_hid (NoT.lst hrow) _ _ (noLs_map noL_E _) dy))
      have dS8 : Dp K (upd H7 T (.tup [.ref l, .int (p : Int)])) v (encE S) := Ex.dp (e7.trans ex8) (dp_hid (NoT.lst hrow) _ _ (noL_E S) (Ex.dp (e5.trans e6) dS))
      generalize upd H7 T (.tup [.ref l, .int (p : Int)]) = H8 at dl dS8
      clear dS dx dy srt
      have ne := ends_ne oS
      have pw := sortE_pair (Lh.endsL S)
      have okE : ∀ e ∈ ends S, e ≠ [] ∧ e.length ≤ 100 := fun e he => by
        have oe := ends_ok oS he
        have := oS.lo
        exact ⟨fun z => by have := oe.len; rw [z] at this; simp at this; omega, by have := oe.len; omega⟩
      -- the tops
      refine qd_asg (lc_d0 (l := ends S) (enc := encE) (es := ((ends S).map topOf).map .int) (fun e => .int (topOf e)) (src_ld (ed_var rfl dl)) (by omega) (fun _ => rfl) (fun e he x H9 e9 dx _ => ed_top (i := 9) (j := 8) rfl (fun _ => rfl) (fun _ => rfl) rfl dx (okE e he).1 (okE e he).2) (fun _ => rfl) (by rw [List.map_map]; rfl)) fun v7 H9 e9 d7 => ?_
      have dl9 := Ex.dp e9 dl
      have dS9 := Ex.dp e9 dS8
      -- fairest
      refine Evl.q_when (b := false) (et_ok (ed_call (R := rBest topOf) (ead_one (ed_var rfl dS9)) ⟨S, oS, rfl, rfl⟩) (ed_minP ne (ed_pairs (a := 7) (b := 5) (j := 10) rfl rfl d7 dl9 few (fun _ => rfl) (fun _ => rfl) (fun _ => rfl) (fun _ => rfl))) (ak_best oS _ _)) (fun z => by cases z) fun _ H10 e10 => ?_
      have dl10 := Ex.dp e10 dl9
      have dS10 := Ex.dp e10 dS9
      have d710 := Ex.dp e10 d7
      -- count_fair
      obtain ⟨m, hm, hle⟩ := least_of ((ends S).map topOf) (by simp [ne])
      refine Evl.q_when (b := false) (et_ok (ed_call (R := rCount) (ead_one (ed_var rfl dS10)) ⟨S, oS, rfl, m, hm, hle, rfl⟩) (ed_lcount (ed_var rfl d710) (ed_min (ed_var rfl d710) hm hle)) (ak_int _ 3)) (fun z => by cases z) fun _ H11 e11 => ?_
      have dl11 := Ex.dp e11 dl10
      have dS11 := Ex.dp e11 dS10
      -- squarest
      refine Evl.q_when (b := false) (et_ok (ed_call (R := rBest sqOf) (ead_one (ed_var rfl dS11)) ⟨S, oS, rfl, rfl⟩) (ed_minP ne (lc_d0 (l := ends S) (enc := encE) (pairD sqOf) (src_ld (ed_var rfl dl11)) (by omega) (fun _ => rfl) (fun e he x H12 e12 dx _ => ed_tup (ead_cons (ed_sq (i := 9) (j := 8) rfl (fun _ => rfl) (fun _ => rfl) dx (okE e he).2 (ends_ok oS he).low) (ead_one (ed_var rfl dx))) (by simp)) (noL_pair sqOf) rfl)) (ak_best oS _ _)) (fun z => by cases z) fun _ H12 e12 => ?_
      have dl12 := Ex.dp e12 dl11
      have dS12 := Ex.dp e12 dS11
      -- the empties
      refine qd_asg (lc_d0 (l := ends S) (enc := encE) (es := ((ends S).map emptyOf).map .int) (fun e => .int (emptyOf e)) (src_ld (ed_var rfl dl12)) (by omega) (fun _ => rfl) (fun e he x H13 e13 dx _ => ?_) (fun _ => rfl) (by rw [List.map_map]; rfl)) fun v11 H13 e13 d11 => ?_
      · refine EvD.is (ed_lenL (lc_d (l := e) (enc := encH) (fun h => decide (h = [])) encH (src_tup (ed_var rfl dx)) (by have := (okE e he).2; omega) (fun _ => rfl) (fun h hh z H14 e14 dz _ => et_test (EvD.is (ed_eq (ed_var rfl dz) (ed_tup ead_nil (by simp)) (shaped_H h) (shaped_H [])) (by rw [show PyData.tuple [] = encH [] from rfl, eqv_H]))) (fun h hh _ z H14 e14 dz _ => ed_var rfl dz) noL_H rfl)) ?_
        rw [List.length_map]
        unfold emptyOf
        rw [List.countP_eq_length_filter]
      have dl13 := Ex.dp e13 dl12
      have dS13 := Ex.dp e13 dS12
      -- most_empty
      refine Evl.q_when (b := false) (et_ok (ed_call (R := rMost emptyOf) (ead_one (ed_var rfl dS13)) ⟨S, oS, rfl, rfl⟩) (ed_first (a := 11) (b := 5) rfl rfl d11 dl13 ne pw) (ak_best oS _ _)) (fun z => by cases z) fun _ H14 e14 => ?_
      have dl14 := Ex.dp e14 dl13
      have dS14 := Ex.dp e14 dS13
      have d1114 := Ex.dp e14 d11
      -- fewest_empty
      refine Evl.q_when (b := false) (et_ok (ed_call (R := rBest emptyOf) (ead_one (ed_var rfl dS14)) ⟨S, oS, rfl, rfl⟩) (ed_minP ne (ed_pairs (a := 11) (b := 5) (j := 10) rfl rfl d1114 dl14 few (fun _ => rfl) (fun _ => rfl) (fun _ => rfl) (fun _ => rfl))) (ak_best oS _ _)) (fun z => by cases z) fun _ H15 e15 => ?_
      have dl15 := Ex.dp e15 dl14
      have dS15 := Ex.dp e15 dS14
      -- the kept
      refine qd_asg (lc_d0 (l := ends S) (enc := encE) (es := ((ends S).map (lenAt p)).map .int) (fun e => .int (lenAt p e)) (src_ld (ed_var rfl dl15)) (by omega) (fun _ => rfl) (fun e he x H16 e16 dx _ => ed_lenAt (i := 9) (j := 6) rfl rfl dx (ends_ok oS he) hp) (fun _ => rfl) (by rw [List.map_map]; rfl)) fun v12 H16 e16 d12 => ?_
      have dl16 := Ex.dp e16 dl15
      have dS16 := Ex.dp e16 dS15
      -- most_for
      refine Evl.q_when (b := false) (et_ok (ed_call (R := rMostFor) (ead_cons (ed_var rfl dS16) (ead_one (ed_var rfl (.int (p : Int))))) ⟨S, p, oS, hp, rfl, rfl⟩) (ed_first (a := 12) (b := 5) rfl rfl d12 dl16 ne pw) (ak_best oS _ _)) (fun z => by cases z) fun _ H17 e17 => ?_
      have dl17 := Ex.dp e17 dl16
      have dS17 := Ex.dp e17 dS16
      have d1217 := Ex.dp e17 d12
      -- least_for
      refine sd_ret (ed_alike (ed_call (R := rBestFor) (ead_cons (ed_var rfl dS17) (ead_one (ed_var rfl (.int (p : Int))))) ⟨S, p, oS, hp, rfl, rfl⟩) (ed_minP ne (ed_pairs (a := 12) (b := 5) (j := 10) rfl rfl d1217 dl17 few (fun _ => rfl) (fun _ => rfl) (fun _ => rfl) (fun _ => rfl))) (ak_best oS _ _)) fun v18 H18 e18 dv => ?_
      cases dv
      exact q H18
end
end Lr
end

section
set_option Elab.async false
set_option linter.all false
set_option maxRecDepth 100000
namespace Lr
open PySem PySem.Spec PyProof.Rows L2
/-! ### what the top has written -/
theorem all_mk {l : PySem.W.OpenLaw} {w : World} {K : PySem.W.Frag} {h : Heap} {mg : Str → Option Value} {fa : Addr} (X : K.In h) (G : h.Ns mainGlobals mg) (hfa : mg "law" = some (.ref fa))
    {f0 : Addr} {od0 an0 : Option Addr} {sl0 : Array (Option Value)} {oc0 kV0 dc0 pm0 cd0 ct0 : Value}
    {f1 : Addr} {od1 an1 : Option Addr} {sl1 : Array (Option Value)} {oc1 kV1 dc1 pm1 cd1 ct1 : Value}
    {f2 : Addr} {od2 an2 : Option Addr} {sl2 : Array (Option Value)} {oc2 kV2 dc2 pm2 cd2 ct2 : Value}
    {f3 : Addr} {od3 an3 : Option Addr} {sl3 : Array (Option Value)} {oc3 kV3 dc3 pm3 cd3 ct3 : Value}
    {f4 : Addr} {od4 an4 : Option Addr} {sl4 : Array (Option Value)} {oc4 kV4 dc4 pm4 cd4 ct4 : Value}
    {f5 : Addr} {od5 an5 : Option Addr} {sl5 : Array (Option Value)} {oc5 kV5 dc5 pm5 cd5 ct5 : Value}
    {f6 : Addr} {od6 an6 : Option Addr} {sl6 : Array (Option Value)} {oc6 kV6 dc6 pm6 cd6 ct6 : Value}
    {f7 : Addr} {od7 an7 : Option Addr} {sl7 : Array (Option Value)} {oc7 kV7 dc7 pm7 cd7 ct7 : Value}
    {f8 : Addr} {od8 an8 : Option Addr} {sl8 : Array (Option Value)} {oc8 kV8 dc8 pm8 cd8 ct8 : Value}
    {f9 : Addr} {od9 an9 : Option Addr} {sl9 : Array (Option Value)} {oc9 kV9 dc9 pm9 cd9 ct9 : Value}
    {f10 : Addr} {od10 an10 : Option Addr} {sl10 : Array (Option Value)} {oc10 kV10 dc10 pm10 cd10 ct10 : Value}
    {f11 : Addr} {od11 an11 : Option Addr} {sl11 : Array (Option Value)} {oc11 kV11 dc11 pm11 cd11 ct11 : Value}
    {f12 : Addr} {od12 an12 : Option Addr} {sl12 : Array (Option Value)} {oc12 kV12 dc12 pm12 cd12 ct12 : Value}
    {f13 : Addr} {od13 an13 : Option Addr} {sl13 : Array (Option Value)} {oc13 kV13 dc13 pm13 cd13 ct13 : Value}
    {f14 : Addr} {od14 an14 : Option Addr} {sl14 : Array (Option Value)} {oc14 kV14 dc14 pm14 cd14 ct14 : Value}
    {f15 : Addr} {od15 an15 : Option Addr} {sl15 : Array (Option Value)} {oc15 kV15 dc15 pm15 cd15 ct15 : Value}
    {f16 : Addr} {od16 an16 : Option Addr} {sl16 : Array (Option Value)} {oc16 kV16 dc16 pm16 cd16 ct16 : Value}
    {f17 : Addr} {od17 an17 : Option Addr} {sl17 : Array (Option Value)} {oc17 kV17 dc17 pm17 cd17 ct17 : Value}
    {f18 : Addr} {od18 an18 : Option Addr} {sl18 : Array (Option Value)} {oc18 kV18 dc18 pm18 cd18 ct18 : Value}
    {f19 : Addr} {od19 an19 : Option Addr} {sl19 : Array (Option Value)} {oc19 kV19 dc19 pm19 cd19 ct19 : Value}
    {f20 : Addr} {od20 an20 : Option Addr} {sl20 : Array (Option Value)} {oc20 kV20 dc20 pm20 cd20 ct20 : Value}
    {f21 : Addr} {od21 an21 : Option Addr} {sl21 : Array (Option Value)} {oc21 kV21 dc21 pm21 cd21 ct21 : Value}
    {f22 : Addr} {od22 an22 : Option Addr} {sl22 : Array (Option Value)} {oc22 kV22 dc22 pm22 cd22 ct22 : Value}
    {f23 : Addr} {od23 an23 : Option Addr} {sl23 : Array (Option Value)} {oc23 kV23 dc23 pm23 cd23 ct23 : Value}
    {f24 : Addr} {od24 an24 : Option Addr} {sl24 : Array (Option Value)} {oc24 kV24 dc24 pm24 cd24 ct24 : Value}
    {f25 : Addr} {od25 an25 : Option Addr} {sl25 : Array (Option Value)} {oc25 kV25 dc25 pm25 cd25 ct25 : Value}
    {f26 : Addr} {od26 an26 : Option Addr} {sl26 : Array (Option Value)} {oc26 kV26 dc26 pm26 cd26 ct26 : Value}
    {f27 : Addr} {od27 an27 : Option Addr} {sl27 : Array (Option Value)} {oc27 kV27 dc27 pm27 cd27 ct27 : Value}
    {mp mt : Value}
    (a0 : PySem.W.nsIn K mainGlobals "is_integer" = some (some (.ref f0))) (l0 : K.lookup f0 = some ⟨oc0, od0, .func (PySem.W.fnOf "is_integer" "is_integer" (defArgs st_is_integer) (defBody st_is_integer) (defScope st_is_integer) .none kV0 dc0 pm0 an0 cd0 ct0), sl0⟩) (c0 : PySem.W.codeIn K cd0 "is_integer" = true) (k0 : PySem.W.keepIn K (.ref f0) = true)
    (a1 : PySem.W.nsIn K mainGlobals "is_in" = some (some (.ref f1))) (l1 : K.lookup f1 = some ⟨oc1, od1, .func (PySem.W.fnOf "is_in" "is_in" (defArgs st_is_in) (defBody st_is_in) (defScope st_is_in) .none kV1 dc1 pm1 an1 cd1 ct1), sl1⟩) (c1 : PySem.W.codeIn K cd1 "is_in" = true) (k1 : PySem.W.keepIn K (.ref f1) = true)
    (a2 : PySem.W.nsIn K mainGlobals "is_list" = some (some (.ref f2))) (l2 : K.lookup f2 = some ⟨oc2, od2, .func (PySem.W.fnOf "is_list" "is_list" (defArgs st_is_list) (defBody st_is_list) (defScope st_is_list) .none kV2 dc2 pm2 an2 cd2 ct2), sl2⟩) (c2 : PySem.W.codeIn K cd2 "is_list" = true) (k2 : PySem.W.keepIn K (.ref f2) = true)
    (a3 : PySem.W.nsIn K mainGlobals "is_hand" = some (some (.ref f3))) (l3 : K.lookup f3 = some ⟨oc3, od3, .func (PySem.W.fnOf "is_hand" "is_hand" (defArgs st_is_hand) (defBody st_is_hand) (defScope st_is_hand) .none kV3 dc3 pm3 an3 cd3 ct3), sl3⟩) (c3 : PySem.W.codeIn K cd3 "is_hand" = true) (k3 : PySem.W.keepIn K (.ref f3) = true)
    (a4 : PySem.W.nsIn K mainGlobals "need_hands" = some (some (.ref f4))) (l4 : K.lookup f4 = some ⟨oc4, od4, .func (PySem.W.fnOf "need_hands" "need_hands" (defArgs st_need_hands) (defBody st_need_hands) (defScope st_need_hands) .none kV4 dc4 pm4 an4 cd4 ct4), sl4⟩) (c4 : PySem.W.codeIn K cd4 "need_hands" = true) (k4 : PySem.W.keepIn K (.ref f4) = true)
    (a5 : PySem.W.nsIn K mainGlobals "need_person" = some (some (.ref f5))) (l5 : K.lookup f5 = some ⟨oc5, od5, .func (PySem.W.fnOf "need_person" "need_person" (defArgs st_need_person) (defBody st_need_person) (defScope st_need_person) .none kV5 dc5 pm5 an5 cd5 ct5), sl5⟩) (c5 : PySem.W.codeIn K cd5 "need_person" = true) (k5 : PySem.W.keepIn K (.ref f5) = true)
    (a6 : PySem.W.nsIn K mainGlobals "things_in" = some (some (.ref f6))) (l6 : K.lookup f6 = some ⟨oc6, od6, .func (PySem.W.fnOf "things_in" "things_in" (defArgs st_things_in) (defBody st_things_in) (defScope st_things_in) .none kV6 dc6 pm6 an6 cd6 ct6), sl6⟩) (c6 : PySem.W.codeIn K cd6 "things_in" = true) (k6 : PySem.W.keepIn K (.ref f6) = true)
    (a7 : PySem.W.nsIn K mainGlobals "holders_in" = some (some (.ref f7))) (l7 : K.lookup f7 = some ⟨oc7, od7, .func (PySem.W.fnOf "holders_in" "holders_in" (defArgs st_holders_in) (defBody st_holders_in) (defScope st_holders_in) .none kV7 dc7 pm7 an7 cd7 ct7), sl7⟩) (c7 : PySem.W.codeIn K cd7 "holders_in" = true) (k7 : PySem.W.keepIn K (.ref f7) = true)
    (a8 : PySem.W.nsIn K mainGlobals "has_ring" = some (some (.ref f8))) (l8 : K.lookup f8 = some ⟨oc8, od8, .func (PySem.W.fnOf "has_ring" "has_ring" (defArgs st_has_ring) (defBody st_has_ring) (defScope st_has_ring) .none kV8 dc8 pm8 an8 cd8 ct8), sl8⟩) (c8 : PySem.W.codeIn K cd8 "has_ring" = true) (k8 : PySem.W.keepIn K (.ref f8) = true)
    (a9 : PySem.W.nsIn K mainGlobals "steps_of" = some (some (.ref f9))) (l9 : K.lookup f9 = some ⟨oc9, od9, .func (PySem.W.fnOf "steps_of" "steps_of" (defArgs st_steps_of) (defBody st_steps_of) (defScope st_steps_of) .none kV9 dc9 pm9 an9 cd9 ct9), sl9⟩) (c9 : PySem.W.codeIn K cd9 "steps_of" = true) (k9 : PySem.W.keepIn K (.ref f9) = true)
    (a10 : PySem.W.nsIn K mainGlobals "keepers_in" = some (some (.ref f10))) (l10 : K.lookup f10 = some ⟨oc10, od10, .func (PySem.W.fnOf "keepers_in" "keepers_in" (defArgs st_keepers_in) (defBody st_keepers_in) (defScope st_keepers_in) .none kV10 dc10 pm10 an10 cd10 ct10), sl10⟩) (c10 : PySem.W.codeIn K cd10 "keepers_in" = true) (k10 : PySem.W.keepIn K (.ref f10) = true)
    (a11 : PySem.W.nsIn K mainGlobals "end_by" = some (some (.ref f11))) (l11 : K.lookup f11 = some ⟨oc11, od11, .func (PySem.W.fnOf "end_by" "end_by" (defArgs st_end_by) (defBody st_end_by) (defScope st_end_by) .none kV11 dc11 pm11 an11 cd11 ct11), sl11⟩) (c11 : PySem.W.codeIn K cd11 "end_by" = true) (k11 : PySem.W.keepIn K (.ref f11) = true)
    (a12 : PySem.W.nsIn K mainGlobals "ends_in" = some (some (.ref f12))) (l12 : K.lookup f12 = some ⟨oc12, od12, .func (PySem.W.fnOf "ends_in" "ends_in" (defArgs st_ends_in) (defBody st_ends_in) (defScope st_ends_in) .none kV12 dc12 pm12 an12 cd12 ct12), sl12⟩) (c12 : PySem.W.codeIn K cd12 "ends_in" = true) (k12 : PySem.W.keepIn K (.ref f12) = true)
    (a13 : PySem.W.nsIn K mainGlobals "fairest" = some (some (.ref f13))) (l13 : K.lookup f13 = some ⟨oc13, od13, .func (PySem.W.fnOf "fairest" "fairest" (defArgs st_fairest) (defBody st_fairest) (defScope st_fairest) .none kV13 dc13 pm13 an13 cd13 ct13), sl13⟩) (c13 : PySem.W.codeIn K cd13 "fairest" = true) (k13 : PySem.W.keepIn K (.ref f13) = true)
    (a14 : PySem.W.nsIn K mainGlobals "count_fair" = some (some (.ref f14))) (l14 : K.lookup f14 = some ⟨oc14, od14, .func (PySem.W.fnOf "count_fair" "count_fair" (defArgs st_count_fair) (defBody st_count_fair) (defScope st_count_fair) .none kV14 dc14 pm14 an14 cd14 ct14), sl14⟩) (c14 : PySem.W.codeIn K cd14 "count_fair" = true) (k14 : PySem.W.keepIn K (.ref f14) = true)
    (a15 : PySem.W.nsIn K mainGlobals "squarest" = some (some (.ref f15))) (l15 : K.lookup f15 = some ⟨oc15, od15, .func (PySem.W.fnOf "squarest" "squarest" (defArgs st_squarest) (defBody st_squarest) (defScope st_squarest) .none kV15 dc15 pm15 an15 cd15 ct15), sl15⟩) (c15 : PySem.W.codeIn K cd15 "squarest" = true) (k15 : PySem.W.keepIn K (.ref f15) = true)
    (a16 : PySem.W.nsIn K mainGlobals "most_empty" = some (some (.ref f16))) (l16 : K.lookup f16 = some ⟨oc16, od16, .func (PySem.W.fnOf "most_empty" "most_empty" (defArgs st_most_empty) (defBody st_most_empty) (defScope st_most_empty) .none kV16 dc16 pm16 an16 cd16 ct16), sl16⟩) (c16 : PySem.W.codeIn K cd16 "most_empty" = true) (k16 : PySem.W.keepIn K (.ref f16) = true)
    (a17 : PySem.W.nsIn K mainGlobals "fewest_empty" = some (some (.ref f17))) (l17 : K.lookup f17 = some ⟨oc17, od17, .func (PySem.W.fnOf "fewest_empty" "fewest_empty" (defArgs st_fewest_empty) (defBody st_fewest_empty) (defScope st_fewest_empty) .none kV17 dc17 pm17 an17 cd17 ct17), sl17⟩) (c17 : PySem.W.codeIn K cd17 "fewest_empty" = true) (k17 : PySem.W.keepIn K (.ref f17) = true)
    (a18 : PySem.W.nsIn K mainGlobals "most_for" = some (some (.ref f18))) (l18 : K.lookup f18 = some ⟨oc18, od18, .func (PySem.W.fnOf "most_for" "most_for" (defArgs st_most_for) (defBody st_most_for) (defScope st_most_for) .none kV18 dc18 pm18 an18 cd18 ct18), sl18⟩) (c18 : PySem.W.codeIn K cd18 "most_for" = true) (k18 : PySem.W.keepIn K (.ref f18) = true)
    (a19 : PySem.W.nsIn K mainGlobals "least_for" = some (some (.ref f19))) (l19 : K.lookup f19 = some ⟨oc19, od19, .func (PySem.W.fnOf "least_for" "least_for" (defArgs st_least_for) (defBody st_least_for) (defScope st_least_for) .none kV19 dc19 pm19 an19 cd19 ct19), sl19⟩) (c19 : PySem.W.codeIn K cd19 "least_for" = true) (k19 : PySem.W.keepIn K (.ref f19) = true)
    (a20 : PySem.W.nsIn K mainGlobals "_law_taken" = some (some (.ref f20))) (l20 : K.lookup f20 = some ⟨oc20, od20, .func (PySem.W.fnOf "_law_taken" "_law_taken" (defArgs st__law_taken) (defBody st__law_taken) (defScope st__law_taken) .none kV20 dc20 pm20 an20 cd20 ct20), sl20⟩) (c20 : PySem.W.codeIn K cd20 "_law_taken" = true) (k20 : PySem.W.keepIn K (.ref f20) = true)
    (a21 : PySem.W.nsIn K mainGlobals "_law_alike" = some (some (.ref f21))) (l21 : K.lookup f21 = some ⟨oc21, od21, .func (PySem.W.fnOf "_law_alike" "_law_alike" (defArgs st__law_alike) (defBody st__law_alike) (defScope st__law_alike) .none kV21 dc21 pm21 an21 cd21 ct21), sl21⟩) (c21 : PySem.W.codeIn K cd21 "_law_alike" = true) (k21 : PySem.W.keepIn K (.ref f21) = true)
    (a22 : PySem.W.nsIn K mainGlobals "_law_hands" = some (some (.ref f22))) (l22 : K.lookup f22 = some ⟨oc22, od22, .func (PySem.W.fnOf "_law_hands" "_law_hands" (defArgs st__law_hands) (defBody st__law_hands) (defScope st__law_hands) .none kV22 dc22 pm22 an22 cd22 ct22), sl22⟩) (c22 : PySem.W.codeIn K cd22 "_law_hands" = true) (k22 : PySem.W.keepIn K (.ref f22) = true)
    (a23 : PySem.W.nsIn K mainGlobals "_law_holders" = some (some (.ref f23))) (l23 : K.lookup f23 = some ⟨oc23, od23, .func (PySem.W.fnOf "_law_holders" "_law_holders" (defArgs st__law_holders) (defBody st__law_holders) (defScope st__law_holders) .none kV23 dc23 pm23 an23 cd23 ct23), sl23⟩) (c23 : PySem.W.codeIn K cd23 "_law_holders" = true) (k23 : PySem.W.keepIn K (.ref f23) = true)
    (a24 : PySem.W.nsIn K mainGlobals "_law_call" = some (some (.ref f24))) (l24 : K.lookup f24 = some ⟨oc24, od24, .func (PySem.W.fnOf "_law_call" "_law_call" (defArgs st__law_call) (defBody st__law_call) (defScope st__law_call) .none kV24 dc24 pm24 an24 cd24 ct24), sl24⟩) (c24 : PySem.W.codeIn K cd24 "_law_call" = true) (k24 : PySem.W.keepIn K (.ref f24) = true)
    (a25 : PySem.W.nsIn K mainGlobals "_law_done" = some (some (.ref f25))) (l25 : K.lookup f25 = some ⟨oc25, od25, .func (PySem.W.fnOf "_law_done" "_law_done" (defArgs st__law_done) (defBody st__law_done) (defScope st__law_done) .none kV25 dc25 pm25 an25 cd25 ct25), sl25⟩) (c25 : PySem.W.codeIn K cd25 "_law_done" = true) (k25 : PySem.W.keepIn K (.ref f25) = true)
    (a26 : PySem.W.nsIn K mainGlobals "_law_orders" = some (some (.ref f26))) (l26 : K.lookup f26 = some ⟨oc26, od26, .func (PySem.W.fnOf "_law_orders" "_law_orders" (defArgs st__law_orders) (defBody st__law_orders) (defScope st__law_orders) .none kV26 dc26 pm26 an26 cd26 ct26), sl26⟩) (c26 : PySem.W.codeIn K cd26 "_law_orders" = true) (k26 : PySem.W.keepIn K (.ref f26) = true)
    (a27 : PySem.W.nsIn K mainGlobals "law" = some (some (.ref f27))) (l27 : K.lookup f27 = some ⟨oc27, od27, .func (PySem.W.fnOf "law" "law" (defArgs st_law) (defBody st_law) (defScope st_law) .none kV27 dc27 pm27 an27 cd27 ct27), sl27⟩) (c27 : PySem.W.codeIn K cd27 "law" = true) (k27 : PySem.W.keepIn K (.ref f27) = true)
    (z_len : PySem.W.nsIn K mainGlobals "len" = some none)
    (z_min : PySem.W.nsIn K mainGlobals "min" = some none)
    (z_max : PySem.W.nsIn K mainGlobals "max" = some none)
    (z_sum : PySem.W.nsIn K mainGlobals "sum" = some none)
    (z_any : PySem.W.nsIn K mainGlobals "any" = some none)
    (z_all : PySem.W.nsIn K mainGlobals "all" = some none)
    (z_list : PySem.W.nsIn K mainGlobals "list" = some none)
    (z_tuple : PySem.W.nsIn K mainGlobals "tuple" = some none)
    (z_sorted : PySem.W.nsIn K mainGlobals "sorted" = some none)
    (z_set : PySem.W.nsIn K mainGlobals "set" = some none)
    (z_isinstance : PySem.W.nsIn K mainGlobals "isinstance" = some none)
    (z_range : PySem.W.nsIn K mainGlobals "range" = some none)
    (z_enumerate : PySem.W.nsIn K mainGlobals "enumerate" = some none)
    (z_int : PySem.W.nsIn K mainGlobals "int" = some none)
    (z_bool : PySem.W.nsIn K mainGlobals "bool" = some none)
    (z_str : PySem.W.nsIn K mainGlobals "str" = some none)
    (z_mp : PySem.W.nsIn K mainGlobals "MOST_PEOPLE" = some (some mp)) (r_mp : RelV (.int 7) mp) (z_mt : PySem.W.nsIn K mainGlobals "MOST_THINGS" = some (some mt)) (r_mt : RelV (.int 8) mt) :
    ∃ fd : FuncData, (∀ (s : Shared) (v : Value), BindsTo s fd ⟨[v], []⟩ [("_law_script", v)]) ∧ ∀ base : Heap, K.In base → base.Ns mainGlobals mg → FnOk l.prog w K mg base CX0 6 fa fd ["_law_script"] (spLaw K) := by
  have e := hfa.symm.trans (PySem.W.mg_of X G a27)
  cases e
  have B : Names mg := ⟨PySem.W.mg_none_of X G z_len, PySem.W.mg_none_of X G z_min, PySem.W.mg_none_of X G z_max, PySem.W.mg_none_of X G z_sum, PySem.W.mg_none_of X G z_any, PySem.W.mg_none_of X G z_all, PySem.W.mg_none_of X G z_list, PySem.W.mg_none_of X G z_tuple, PySem.W.mg_none_of X G z_sorted, PySem.W.mg_none_of X G z_set, PySem.W.mg_none_of X G z_isinstance, PySem.W.mg_none_of X G z_range, PySem.W.mg_none_of X G z_enumerate, PySem.W.mg_none_of X G z_int, PySem.W.mg_none_of X G z_bool, PySem.W.mg_none_of X G z_str, ⟨_, PySem.W.mg_of X G z_mp, r_mp⟩, ⟨_, PySem.W.mg_of X G z_mt, r_mt⟩⟩
  have F0 := fun_mk (st := st_is_integer) l0 c0 k0
  have b0 := F0.binds (ps := ["value"]) fun _ _ _ _ _ _ us hl => match us, hl with | [_], _ => rfl
  have F1 := fun_mk (st := st_is_in) l1 c1 k1
  have b1 := F1.binds (ps := ["value", "least", "most"]) fun _ _ _ _ _ _ us hl => match us, hl with | [_, _, _], _ => rfl
  have F2 := fun_mk (st := st_is_list) l2 c2 k2
  have b2 := F2.binds (ps := ["value", "least", "most"]) fun _ _ _ _ _ _ us hl => match us, hl with | [_, _, _], _ => rfl
  have F3 := fun_mk (st := st_is_hand) l3 c3 k3
  have b3 := F3.binds (ps := ["value"]) fun _ _ _ _ _ _ us hl => match us, hl with | [_], _ => rfl
  have F4 := fun_mk (st := st_need_hands) l4 c4 k4
  have b4 := F4.binds (ps := ["hands"]) fun _ _ _ _ _ _ us hl => match us, hl with | [_], _ => rfl
  have F5 := fun_mk (st := st_need_person) l5 c5 k5
  have b5 := F5.binds (ps := ["hands", "person"]) fun _ _ _ _ _ _ us hl => match us, hl with | [_, _], _ => rfl
  have F6 := fun_mk (st := st_things_in) l6 c6 k6
  have b6 := F6.binds (ps := ["hands"]) fun _ _ _ _ _ _ us hl => match us, hl with | [_], _ => rfl
  have F7 := fun_mk (st := st_holders_in) l7 c7 k7
  have b7 := F7.binds (ps := ["hands", "thing"]) fun _ _ _ _ _ _ us hl => match us, hl with | [_, _], _ => rfl
  have F8 := fun_mk (st := st_has_ring) l8 c8 k8
  have b8 := F8.binds (ps := ["steps"]) fun _ _ _ _ _ _ us hl => match us, hl with | [_], _ => rfl
  have F9 := fun_mk (st := st_steps_of) l9 c9 k9
  have b9 := F9.binds (ps := ["hands", "keeper"]) fun _ _ _ _ _ _ us hl => match us, hl with | [_, _], _ => rfl
  have F10 := fun_mk (st := st_keepers_in) l10 c10 k10
  have b10 := F10.binds (ps := ["hands"]) fun _ _ _ _ _ _ us hl => match us, hl with | [_], _ => rfl
  have F11 := fun_mk (st := st_end_by) l11 c11 k11
  have b11 := F11.binds (ps := ["hands", "keeper"]) fun _ _ _ _ _ _ us hl => match us, hl with | [_, _], _ => rfl
  have F12 := fun_mk (st := st_ends_in) l12 c12 k12
  have b12 := F12.binds (ps := ["hands"]) fun _ _ _ _ _ _ us hl => match us, hl with | [_], _ => rfl
  have F13 := fun_mk (st := st_fairest) l13 c13 k13
  have b13 := F13.binds (ps := ["hands"]) fun _ _ _ _ _ _ us hl => match us, hl with | [_], _ => rfl
  have F14 := fun_mk (st := st_count_fair) l14 c14 k14
  have b14 := F14.binds (ps := ["hands"]) fun _ _ _ _ _ _ us hl => match us, hl with | [_], _ => rfl
  have F15 := fun_mk (st := st_squarest) l15 c15 k15
  have b15 := F15.binds (ps := ["hands"]) fun _ _ _ _ _ _ us hl => match us, hl with | [_], _ => rfl
  have F16 := fun_mk (st := st_most_empty) l16 c16 k16
  have b16 := F16.binds (ps := ["hands"]) fun _ _ _ _ _ _ us hl => match us, hl with | [_], _ => rfl
  have F17 := fun_mk (st := st_fewest_empty) l17 c17 k17
  have b17 := F17.binds (ps := ["hands"]) fun _ _ _ _ _ _ us hl => match us, hl with | [_], _ => rfl
  have F18 := fun_mk (st := st_most_for) l18 c18 k18
  have b18 := F18.binds (ps := ["hands", "person"]) fun _ _ _ _ _ _ us hl => match us, hl with | [_, _], _ => rfl
  have F19 := fun_mk (st := st_least_for) l19 c19 k19
  have b19 := F19.binds (ps := ["hands", "person"]) fun _ _ _ _ _ _ us hl => match us, hl with | [_, _], _ => rfl
  have F20 := fun_mk (st := st__law_taken) l20 c20 k20
  have b20 := F20.binds (ps := ["_law_row", "_law_many"]) fun _ _ _ _ _ _ us hl => match us, hl with | [_, _], _ => rfl
  have F21 := fun_mk (st := st__law_alike) l21 c21 k21
  have b21 := F21.binds (ps := ["_law_found", "_law_due"]) fun _ _ _ _ _ _ us hl => match us, hl with | [_, _], _ => rfl
  have F22 := fun_mk (st := st__law_hands) l22 c22 k22
  have b22 := F22.binds (ps := ["_law_row", "_law_people", "_law_kinds"]) fun _ _ _ _ _ _ us hl => match us, hl with | [_, _, _], _ => rfl
  have F23 := fun_mk (st := st__law_holders) l23 c23 k23
  have b23 := F23.binds (ps := ["_law_hands_here", "_law_thing"]) fun _ _ _ _ _ _ us hl => match us, hl with | [_, _], _ => rfl
  have F24 := fun_mk (st := st__law_call) l24 c24 k24
  have b24 := F24.binds (ps := ["_law_hands_here", "_law_person"]) fun _ _ _ _ _ _ us hl => match us, hl with | [_, _], _ => rfl
  have F25 := fun_mk (st := st__law_done) l25 c25 k25
  have b25 := F25.binds (ps := ["_law_hands_here", "_law_calls"]) fun _ _ _ _ _ _ us hl => match us, hl with | [_, _], _ => rfl
  have F26 := fun_mk (st := st__law_orders) l26 c26 k26
  have b26 := F26.binds (ps := ["_law_many"]) fun _ _ _ _ _ _ us hl => match us, hl with | [_], _ => rfl
  have F27 := fun_mk (st := st_law) l27 c27 k27
  refine ⟨PySem.W.fnOf "law" "law" (defArgs st_law) (defBody st_law) (defScope st_law) .none kV27 dc27 pm27 an27 cd27 ct27, fun s v => .of_eq rfl, fun base _ _ => ?_⟩
  have G0 : Kn l.prog w K mg base 1 "is_integer" ["value"] (spR K rIsInteger) := ⟨f0, _, ok_is_integer F0 B, PySem.W.mg_of X G a0, F0.kp, b0⟩
  have G1 : Kn l.prog w K mg base 2 "is_in" ["value", "least", "most"] (spR K rIsIn) := ⟨f1, _, ok_is_in F1 B G0, PySem.W.mg_of X G a1, F1.kp, b1⟩
  have G2 : Kn l.prog w K mg base 1 "is_list" ["value", "least", "most"] (spR K rIsList) := ⟨f2, _, ok_is_list F2 B, PySem.W.mg_of X G a2, F2.kp, b2⟩
  have G3 : Kn l.prog w K mg base 3 "is_hand" ["value"] (spR K rIsHand) := ⟨f3, _, ok_is_hand F3 B G2 G1, PySem.W.mg_of X G a3, F3.kp, b3⟩
  have G4 : Kn l.prog w K mg base 4 "need_hands" ["hands"] (spR K rNeedHands) := ⟨f4, _, ok_need_hands F4 B G2 G3, PySem.W.mg_of X G a4, F4.kp, b4⟩
  have G5 : Kn l.prog w K mg base 3 "need_person" ["hands", "person"] (spR K rNeedPerson) := ⟨f5, _, ok_need_person F5 B G1, PySem.W.mg_of X G a5, F5.kp, b5⟩
  have G6 : Kn l.prog w K mg base 1 "things_in" ["hands"] (spN K rThingsIn) := ⟨f6, _, ok_things_in F6 B, PySem.W.mg_of X G a6, F6.kp, b6⟩
  have G7 : Kn l.prog w K mg base 1 "holders_in" ["hands", "thing"] (spN K rHoldersIn) := ⟨f7, _, ok_holders_in F7 B, PySem.W.mg_of X G a7, F7.kp, b7⟩
  have G8 : Kn l.prog w K mg base 1 "has_ring" ["steps"] (spR K rHasRing) := ⟨f8, _, ok_has_ring F8 B, PySem.W.mg_of X G a8, F8.kp, b8⟩
  have G9 : Kn l.prog w K mg base 2 "steps_of" ["hands", "keeper"] (spSteps K) := ⟨f9, _, ok_steps_of F9 B G7, PySem.W.mg_of X G a9, F9.kp, b9⟩
  have G10 : Kn l.prog w K mg base 3 "keepers_in" ["hands"] (spKeepers K) := ⟨f10, _, ok_keepers_in F10 B G6 G7 G8 G9, PySem.W.mg_of X G a10, F10.kp, b10⟩
  have G11 : Kn l.prog w K mg base 1 "end_by" ["hands", "keeper"] (spEndBy K) := ⟨f11, _, ok_end_by F11 B, PySem.W.mg_of X G a11, F11.kp, b11⟩
  have G12 : Kn l.prog w K mg base 4 "ends_in" ["hands"] (spEnds K) := ⟨f12, _, ok_ends_in F12 B G10 G11, PySem.W.mg_of X G a12, F12.kp, b12⟩
  have G13 : Kn l.prog w K mg base 5 "fairest" ["hands"] (spR K (rBest topOf)) := ⟨f13, _, ok_fairest F13 B G4 G12, PySem.W.mg_of X G a13, F13.kp, b13⟩
  have G14 : Kn l.prog w K mg base 5 "count_fair" ["hands"] (spR K rCount) := ⟨f14, _, ok_count_fair F14 B G4 G12, PySem.W.mg_of X G a14, F14.kp, b14⟩
  have G15 : Kn l.prog w K mg base 5 "squarest" ["hands"] (spR K (rBest sqOf)) := ⟨f15, _, ok_squarest F15 B G4 G12, PySem.W.mg_of X G a15, F15.kp, b15⟩
  have G16 : Kn l.prog w K mg base 5 "most_empty" ["hands"] (spR K (rMost emptyOf)) := ⟨f16, _, ok_most_empty F16 B G4 G12, PySem.W.mg_of X G a16, F16.kp, b16⟩
  have G17 : Kn l.prog w K mg base 5 "fewest_empty" ["hands"] (spR K (rBest emptyOf)) := ⟨f17, _, ok_fewest_empty F17 B G4 G12, PySem.W.mg_of X G a17, F17.kp, b17⟩
  have G18 : Kn l.prog w K mg base 5 "most_for" ["hands", "person"] (spR K rMostFor) := ⟨f18, _, ok_most_for F18 B G4 G5 G12, PySem.W.mg_of X G a18, F18.kp, b18⟩
  have G19 : Kn l.prog w K mg base 5 "least_for" ["hands", "person"] (spR K rBestFor) := ⟨f19, _, ok_least_for F19 B G4 G5 G12, PySem.W.mg_of X G a19, F19.kp, b19⟩
  have G20 : Kn l.prog w K mg base 1 "_law_taken" ["_law_row", "_law_many"] (spTaken K) := ⟨f20, _, ok_law_taken F20 B, PySem.W.mg_of X G a20, F20.kp, b20⟩
  have G21 : Kn l.prog w K mg base 4 "_law_alike" ["_law_found", "_law_due"] (spR K (rA 4)) := ⟨f21, _, ok_law_alike F21 B (PySem.W.mg_of X G a21) b21 4, PySem.W.mg_of X G a21, F21.kp, b21⟩
  have G22 : Kn l.prog w K mg base 2 "_law_hands" ["_law_row", "_law_people", "_law_kinds"] (spHands K) := ⟨f22, _, ok_law_hands F22 B G20, PySem.W.mg_of X G a22, F22.kp, b22⟩
  have G23 : Kn l.prog w K mg base 1 "_law_holders" ["_law_hands_here", "_law_thing"] (spN K rLawHolders) := ⟨f23, _, ok_law_holders F23 B, PySem.W.mg_of X G a23, F23.kp, b23⟩
  have G24 : Kn l.prog w K mg base 2 "_law_call" ["_law_hands_here", "_law_person"] (spR K rLawCall) := ⟨f24, _, ok_law_call F24 B G23, PySem.W.mg_of X G a24, F24.kp, b24⟩
  have G25 : Kn l.prog w K mg base 3 "_law_done" ["_law_hands_here", "_law_calls"] (spR K rLawDone) := ⟨f25, _, ok_law_done F25 B G24, PySem.W.mg_of X G a25, F25.kp, b25⟩
  have G26 : Kn l.prog w K mg base 1 "_law_orders" ["_law_many"] (spOrders K) := ⟨f26, _, ok_law_orders F26 B, PySem.W.mg_of X G a26, F26.kp, b26⟩
  exact ok_law F27 B G20 G22 G26 G25 G21 G13 G14 G15 G16 G17 G18 G19
end Lr
open PySem PySem.W PyProof.Rows
set_option maxHeartbeats 0 in
theorem PySem.Challenge.cw_lastholders_k23_whole_fair_ends_holds : PySem.Challenge.rw_lastholders_k23_whole_fair_ends.Holds := by
  w_on; o_law; k_head; (case hw => w_witness2)
  k_fill
  refine L2.walk_of (l := PySem.Challenge.rw_lastholders_k23_whole_fair_ends) (n := 63) (k := 6) (x := "_law_script") (CX := fun _ => L2.CX0) (sp := fun w => Lr.spLaw _) rfl (by decide) rfl ⟨rfl, by decide, by decide⟩ (fun w h Y => PySem.W.kIn_of Y) ?F (fun _ _ a ns hl _ hS => ⟨a, ns, rfl, hS, fun _ => rfl⟩) (fun _ _ _ _ _ h => h)
  case F =>
    intro w mg fa h KX G hmg
    refine' Lr.all_mk KX G hmg ?a0 ?l0 ?c0 ?k0 ?a1 ?l1 ?c1 ?k1 ?a2 ?l2 ?c2 ?k2 ?a3 ?l3 ?c3 ?k3 ?a4 ?l4 ?c4 ?k4 ?a5 ?l5 ?c5 ?k5 ?a6 ?l6 ?c6 ?k6 ?a7 ?l7 ?c7 ?k7 ?a8 ?l8 ?c8 ?k8 ?a9 ?l9 ?c9 ?k9 ?a10 ?l10 ?c10 ?k10 ?a11 ?l11 ?c11 ?k11 ?a12 ?l12 ?c12 ?k12 ?a13 ?l13 ?c13 ?k13 ?a14 ?l14 ?c14 ?k14 ?a15 ?l15 ?c15 ?k15 ?a16 ?l16 ?c16 ?k16 ?a17 ?l17 ?c17 ?k17 ?a18 ?l18 ?c18 ?k18 ?a19 ?l19 ?c19 ?k19 ?a20 ?l20 ?c20 ?k20 ?a21 ?l21 ?c21 ?k21 ?a22 ?l22 ?c22 ?k22 ?a23 ?l23 ?c23 ?k23 ?a24 ?l24 ?c24 ?k24 ?a25 ?l25 ?c25 ?k25 ?a26 ?l26 ?c26 ?k26 ?a27 ?l27 ?c27 ?k27 ?z_len ?z_min ?z_max ?z_sum ?z_any ?z_all ?z_list ?z_tuple ?z_sorted ?z_set ?z_isinstance ?z_range ?z_enumerate ?z_int ?z_bool ?z_str ?z_mp ?r_mp ?z_mt ?r_mt
    (case a0 => k_is)
    (case l0 => k_is)
    (case c0 => k_is)
    (case k0 => k_is)
    (case a1 => k_is)
    (case l1 => k_is)
    (case c1 => k_is)
    (case k1 => k_is)
    (case a2 => k_is)
    (case l2 => k_is)
    (case c2 => k_is)
    (case k2 => k_is)
    (case a3 => k_is)
    (case l3 => k_is)
    (case c3 => k_is)
    (case k3 => k_is)
    (case a4 => k_is)
    (case l4 => k_is)
    (case c4 => k_is)
    (case k4 => k_is)
    (case a5 => k_is)
    (case l5 => k_is)
    (case c5 => k_is)
    (case k5 => k_is)
    (case a6 => k_is)
    (case l6 => k_is)
    (case c6 => k_is)
    (case k6 => k_is)
    (case a7 => k_is)
    (case l7 => k_is)
    (case c7 => k_is)
    (case k7 => k_is)
    (case a8 => k_is)
    (case l8 => k_is)
    (case c8 => k_is)
    (case k8 => k_is)
    (case a9 => k_is)
    (case l9 => k_is)
    (case c9 => k_is)
    (case k9 => k_is)
    (case a10 => k_is)
    (case l10 => k_is)
    (case c10 => k_is)
    (case k10 => k_is)
    (case a11 => k_is)
    (case l11 => k_is)
    (case c11 => k_is)
    (case k11 => k_is)
    (case a12 => k_is)
    (case l12 => k_is)
    (case c12 => k_is)
    (case k12 => k_is)
    (case a13 => k_is)
    (case l13 => k_is)
    (case c13 => k_is)
    (case k13 => k_is)
    (case a14 => k_is)
    (case l14 => k_is)
    (case c14 => k_is)
    (case k14 => k_is)
    (case a15 => k_is)
    (case l15 => k_is)
    (case c15 => k_is)
    (case k15 => k_is)
    (case a16 => k_is)
    (case l16 => k_is)
    (case c16 => k_is)
    (case k16 => k_is)
    (case a17 => k_is)
    (case l17 => k_is)
    (case c17 => k_is)
    (case k17 => k_is)
    (case a18 => k_is)
    (case l18 => k_is)
    (case c18 => k_is)
    (case k18 => k_is)
    (case a19 => k_is)
    (case l19 => k_is)
    (case c19 => k_is)
    (case k19 => k_is)
    (case a20 => k_is)
    (case l20 => k_is)
    (case c20 => k_is)
    (case k20 => k_is)
    (case a21 => k_is)
    (case l21 => k_is)
    (case c21 => k_is)
    (case k21 => k_is)
    (case a22 => k_is)
    (case l22 => k_is)
    (case c22 => k_is)
    (case k22 => k_is)
    (case a23 => k_is)
    (case l23 => k_is)
    (case c23 => k_is)
    (case k23 => k_is)
    (case a24 => k_is)
    (case l24 => k_is)
    (case c24 => k_is)
    (case k24 => k_is)
    (case a25 => k_is)
    (case l25 => k_is)
    (case c25 => k_is)
    (case k25 => k_is)
    (case a26 => k_is)
    (case l26 => k_is)
    (case c26 => k_is)
    (case k26 => k_is)
    (case a27 => k_is)
    (case l27 => k_is)
    (case c27 => k_is)
    (case k27 => k_is)
    (case z_len => k_is)
    (case z_min => k_is)
    (case z_max => k_is)
    (case z_sum => k_is)
    (case z_any => k_is)
    (case z_all => k_is)
    (case z_list => k_is)
    (case z_tuple => k_is)
    (case z_sorted => k_is)
    (case z_set => k_is)
    (case z_isinstance => k_is)
    (case z_range => k_is)
    (case z_enumerate => k_is)
    (case z_int => k_is)
    (case z_bool => k_is)
    (case z_str => k_is)
    (case z_mp => k_is); (case r_mp => exact ⟨_, rfl⟩); (case z_mt => k_is); (case r_mt => exact ⟨_, rfl⟩)
end
