import PyProof.Rows.All
import Wide.All
import OpenK.AllK
import Wide.FinOn
import KE.KStateDown
import KE.SortData
import HandS.ForMost
import HandS.ForExc
import HandS.Defaults
import HandS.HeadHook1
import HandS.HeadHook2
import HandS.HeadHook4
import HandS.Flow
import HandS.Style
import HandS.IsInst
import HandS.Gcd
import HandS.Deep
import HandS.SortInts
import HandS.Strs
import HandS.SetKeys
import HandS.More
import HandS.Conv
import HandS.ExcInit
import HandS.TryMany
import HandS.Lambda
import PySem.Challenge.RW_anyaround_k05_whole_credits
import HandS.ExcField
import HandS.EndTab
import HandS.Head0
import HandS.Head1
import HandS.Head2
import HandS.Head3
import HandS.HeadEnd
import HandS.HeadWalk
import PyProof.IsiBase
import PyProof.IsiH_set
import PyProof.IsiStr
import PyProof.InstEq
import HandS.OwnEq
import HandS.MakeKwOnly
import HandS.Set
import HandS.SetFor
import HandS.Sort
import KE.KeyNested
import KE.KDictKeyed
import HandS.ListItems
import HandS.DictComp
import HandS.Codes
import HandS.Zip
section
set_option autoImplicit false
namespace AM

/-! ### small dicts: lists of pairs, each key once -/
section
variable {β : Type}
def dget (d : List (Int × β)) (k : Int) : Option β := (d.find? fun p => decide (p.1 = k)).map (·.2)
def dput (d : List (Int × β)) (k : Int) (v : β) : List (Int × β) :=
  if (d.any fun p => decide (p.1 = k)) = true then d.map (fun p => if p.1 = k then (p.1, v) else p) else d ++ [(k, v)]
theorem dget_nil (k : Int) : dget ([] : List (Int × β)) k = none := rfl
theorem dget_cons (p : Int × β) (r : List (Int × β)) (k : Int) : dget (p :: r) k = if p.1 = k then some p.2 else dget r k := by
  unfold dget
  rw [List.find?_cons]
  by_cases h : p.1 = k
  · simp [h]
  · simp [h]
theorem dget_app : ∀ (a b : List (Int × β)) (k : Int), dget (a ++ b) k = (dget a k).or (dget b k)
  | [], b, k => by simp [dget_nil]
  | p :: r, b, k => by
    rw [List.cons_append, dget_cons, dget_cons, dget_app r b k]
    by_cases h : p.1 = k
    · simp [h]
    · simp [h]
theorem dget_none_any : ∀ (d : List (Int × β)) (k : Int), (d.any fun p => decide (p.1 = k)) = false ↔ dget d k = none
  | [], k => by simp [dget_nil]
  | p :: r, k => by
    rw [dget_cons, List.any_cons]
    by_cases h : p.1 = k
    · simp [h]
    · simp only [h, decide_false, Bool.false_or, if_false]
      exact dget_none_any r k
theorem dget_map_if : ∀ (d : List (Int × β)) (k j : Int) (v : β), dget (d.map (fun p => if p.1 = k then (p.1, v) else p)) j = if j = k then (dget d k).map (fun _ => v) else dget d j
  | [], k, j, v => by simp [dget_nil]
  | p :: r, k, j, v => by
    rw [List.map_cons, dget_cons, dget_map_if r k j v, dget_cons, dget_cons]
    by_cases hk : p.1 = k <;> by_cases hj : j = k <;> by_cases hpj : p.1 = j <;> simp_all
theorem dget_dput (d : List (Int × β)) (k j : Int) (v : β) : dget (dput d k v) j = if j = k then some v else dget d j := by
  unfold dput
  by_cases h : (d.any fun p => decide (p.1 = k)) = true
  · rw [if_pos h, dget_map_if]
    have h2 : dget d k ≠ none := fun z => by
      rw [← dget_none_any] at z
      rw [z] at h
      cases h
    cases e : dget d k with
    | none => exact absurd e h2
    | some w => rfl
  · rw [if_neg h, dget_app, dget_cons, dget_nil]
    have h2 : dget d k = none := (dget_none_any d k).mp (Bool.not_eq_true _ ▸ h)
    by_cases hj : j = k
    · subst hj
      simp [h2]
    · have hj' : ¬ k = j := fun z => hj z.symm
      simp [hj, hj']
def dkeys (d : List (Int × β)) : List Int := d.map (·.1)
theorem dget_mem : ∀ {d : List (Int × β)} {k : Int} {v : β}, dget d k = some v → (k, v) ∈ d
  | [], k, v, h => by simp [dget_nil] at h
  | p :: r, k, v, h => by
    rw [dget_cons] at h
    by_cases e : p.1 = k
    · rw [if_pos e] at h
      have h2 := Option.some.inj h
      have : p = (k, v) := Prod.ext e h2
      rw [this]
      exact List.mem_cons_self
    · rw [if_neg e] at h
      exact List.mem_cons_of_mem _ (dget_mem h)
theorem dget_of_mem : ∀ {d : List (Int × β)} {k : Int} {v : β}, (dkeys d).Nodup → (k, v) ∈ d → dget d k = some v
  | [], k, v, _, h => by simp at h
  | p :: r, k, v, hn, h => by
    unfold dkeys at hn
    rw [List.map_cons, List.nodup_cons] at hn
    rw [dget_cons]
    rcases List.mem_cons.mp h with e | e
    · rw [← e]
      simp
    · have hne : ¬ p.1 = k := fun z => hn.1 (List.mem_map.mpr ⟨(k, v), e, z.symm⟩)
      rw [if_neg hne]
      exact dget_of_mem hn.2 e
theorem dkeys_dput_mem {d : List (Int × β)} {k : Int} {v : β} (h : dget d k ≠ none) : dkeys (dput d k v) = dkeys d := by
  unfold dput
  have h2 : (d.any fun p => decide (p.1 = k)) = true := by
    cases e : (d.any fun p => decide (p.1 = k)) with
    | true => rfl
    | false => exact absurd ((dget_none_any d k).mp e) h
  rw [if_pos h2]
  unfold dkeys
  rw [List.map_map]
  apply List.map_congr_left
  intro p _
  show (if p.1 = k then (p.1, v) else p).1 = p.1
  by_cases e : p.1 = k <;> simp [e]
theorem dkeys_dput_new {d : List (Int × β)} {k : Int} {v : β} (h : dget d k = none) : dput d k v = d ++ [(k, v)] := by
  unfold dput
  rw [if_neg (by rw [(dget_none_any d k).mpr h]; decide)]
theorem mem_dkeys {d : List (Int × β)} {k : Int} : k ∈ dkeys d ↔ dget d k ≠ none := by
  constructor
  · intro h
    obtain ⟨p, hp, e⟩ := List.mem_map.mp h
    intro z
    rw [← dget_none_any] at z
    have h3 := List.any_eq_false.mp z p hp
    exact h3 (decide_eq_true e)
  · intro h
    cases e : dget d k with
    | none => exact absurd e h
    | some v => exact List.mem_map.mpr ⟨(k, v), dget_mem e, rfl⟩
theorem nodup_snoc {γ : Type} {l : List γ} {a : γ} (h : l.Nodup) (n : a ∉ l) : (l ++ [a]).Nodup := by
  rw [List.nodup_append]
  refine ⟨h, by simp, fun x hx y hy => ?_⟩
  simp at hy
  subst hy
  intro e
  subst e
  exact n hx
theorem dput_nodup {d : List (Int × β)} {k : Int} {v : β} (h : (dkeys d).Nodup) : (dkeys (dput d k v)).Nodup := by
  cases e : dget d k with
  | some w => rw [dkeys_dput_mem (by rw [e]; simp)]; exact h
  | none =>
    rw [dkeys_dput_new e]
    unfold dkeys
    rw [List.map_append]
    exact nodup_snoc h fun z => mem_dkeys.mp z e
theorem dput_length_le (d : List (Int × β)) (k : Int) (v : β) : (dput d k v).length ≤ d.length + 1 := by
  unfold dput
  split
  · rw [List.length_map]; omega
  · rw [List.length_append]; simp
end

/-! ### steps, walks -/
structure Stp where
  s : Int
  t : Int
  x : Int
  y : Int
  k : Int
  c : Int
  deriving DecidableEq

def IsWalk : Int → List Stp → Int → Prop
  | u, [], v => u = v
  | u, e :: r, v => e.s = u ∧ IsWalk e.t r v
def Within (es w : List Stp) : Prop := ∀ e ∈ w, e ∈ es
def wsum (f : Stp → Int) (w : List Stp) : Int := (w.map f).sum
theorem wsum_nil (f : Stp → Int) : wsum f [] = 0 := rfl
theorem wsum_cons (f : Stp → Int) (e : Stp) (w : List Stp) : wsum f (e :: w) = f e + wsum f w := by simp [wsum]
theorem wsum_app (f : Stp → Int) (a b : List Stp) : wsum f (a ++ b) = wsum f a + wsum f b := by simp [wsum, List.sum_append]
theorem IsWalk.app : ∀ {u v z : Int} {a b : List Stp}, IsWalk u a v → IsWalk v b z → IsWalk u (a ++ b) z
  | u, v, z, [], b, h, h2 => by
    have e : u = v := h
    rw [e]
    exact h2
  | u, v, z, e :: r, b, h, h2 => ⟨h.1, IsWalk.app h.2 h2⟩
theorem IsWalk.split : ∀ {u z : Int} {a b : List Stp}, IsWalk u (a ++ b) z → ∃ v, IsWalk u a v ∧ IsWalk v b z
  | u, z, [], b, h => ⟨u, rfl, h⟩
  | u, z, e :: r, b, h => by
    obtain ⟨v, h1, h2⟩ := IsWalk.split (u := e.t) (a := r) (b := b) h.2
    exact ⟨v, ⟨h.1, h1⟩, h2⟩
theorem IsWalk.snoc {u v : Int} {w : List Stp} {e : Stp} (h : IsWalk u w v) (he : e.s = v) : IsWalk u (w ++ [e]) e.t := h.app (b := [e]) ⟨he, rfl⟩
theorem IsWalk.end_eq : ∀ {u v z : Int} {a : List Stp}, IsWalk u a v → IsWalk u a z → v = z
  | u, v, z, [], h, h2 => by
    have e : u = v := h
    have e2 : u = z := h2
    rw [← e, e2]
  | u, v, z, e :: r, h, h2 => IsWalk.end_eq h.2 h2.2
theorem Within.app {es a b : List Stp} (h : Within es a) (h2 : Within es b) : Within es (a ++ b) := fun e he => (List.mem_append.mp he).elim (h e) (h2 e)
theorem Within.left {es a b : List Stp} (h : Within es (a ++ b)) : Within es a := fun e he => h e (List.mem_append_left _ he)
theorem Within.right {es a b : List Stp} (h : Within es (a ++ b)) : Within es b := fun e he => h e (List.mem_append_right _ he)
theorem Within.snoc {es a : List Stp} {e : Stp} (h : Within es a) (he : e ∈ es) : Within es (a ++ [e]) := h.app fun x hx => by
  simp at hx
  rw [hx]
  exact he
def Reach (es : List Stp) (u v : Int) : Prop := ∃ w, IsWalk u w v ∧ Within es w
theorem Reach.refl (es : List Stp) (u : Int) : Reach es u u := ⟨[], rfl, fun _ h => by cases h⟩
theorem Reach.step {es : List Stp} {u : Int} {e : Stp} (h : Reach es u e.s) (he : e ∈ es) : Reach es u e.t := by
  obtain ⟨w, h1, h2⟩ := h
  exact ⟨w ++ [e], h1.snoc rfl, h2.snoc he⟩
theorem Reach.trans {es : List Stp} {u v z : Int} (h : Reach es u v) (h2 : Reach es v z) : Reach es u z := by
  obtain ⟨a, a1, a2⟩ := h
  obtain ⟨b, b1, b2⟩ := h2
  exact ⟨a ++ b, a1.app b1, a2.app b2⟩
/-- a set closed under the steps holds what is reached -/
theorem Reach.ind {es : List Stp} {u : Int} {P : Int → Prop} (h0 : P u) (hs : ∀ e ∈ es, P e.s → P e.t) {v : Int} (h : Reach es u v) : P v := by
  obtain ⟨w, h1, h2⟩ := h
  induction w generalizing u with
  | nil =>
    have e : u = v := h1
    rw [← e]
    exact h0
  | cons e r ih =>
    have h3 : e.s = u := h1.1
    refine ih (u := e.t) (hs e (h2 e (by simp)) (by rw [h3]; exact h0)) h1.2 fun x hx => h2 x (by simp [hx])
theorem Reach.congr {es fs : List Stp} {u v : Int} (h : ∀ e, e ∈ es → e ∈ fs) (r : Reach es u v) : Reach fs u v := by
  obtain ⟨w, h1, h2⟩ := r
  exact ⟨w, h1, fun e he => h e (h2 e he)⟩
/-- all steps of a walk start where one can come to -/
theorem walk_reach {es : List Stp} : ∀ {u v : Int} {w : List Stp}, IsWalk u w v → Within es w → ∀ e ∈ w, Reach es u e.s
  | u, v, [], _, _, e, he => by cases he
  | u, v, f :: r, h, h2, e, he => by
    rcases List.mem_cons.mp he with q | q
    · rw [q, h.1]
      exact Reach.refl es u
    · have h3 := walk_reach (es := es) (u := f.t) h.2 (fun x hx => h2 x (by simp [hx])) e q
      have h4 : Reach es u f.t := Reach.step (by rw [h.1]; exact Reach.refl es u) (h2 f (by simp))
      exact h4.trans h3

/-! ### potentials bound walks -/
theorem walk_pot {f : Stp → Int} {g : Int → Int} {P : Int → Prop} : ∀ {u v : Int} {w : List Stp}, IsWalk u w v → P u → (∀ e ∈ w, P e.s → P e.t ∧ g e.t ≤ g e.s + f e) → g v ≤ g u + wsum f w ∧ P v
  | u, v, [], h, hp, _ => by
    have e : u = v := h
    rw [← e, wsum_nil]
    exact ⟨by omega, hp⟩
  | u, v, e :: r, h, hp, hs => by
    have h1 := hs e (by simp) (by rw [h.1]; exact hp)
    obtain ⟨h3, h4⟩ := walk_pot (f := f) (g := g) (P := P) (u := e.t) h.2 h1.1 fun x hx => hs x (by simp [hx])
    have h5 := h1.2
    rw [h.1] at h5
    rw [wsum_cons]
    exact ⟨by omega, h4⟩

/-! ### simple walks -/
def nodes (u : Int) (w : List Stp) : List Int := u :: w.map (·.t)
def Simple (u : Int) (w : List Stp) : Prop := (nodes u w).Nodup
theorem nodes_snoc (u : Int) (w : List Stp) (e : Stp) : nodes u (w ++ [e]) = nodes u w ++ [e.t] := by simp [nodes]
theorem Simple.left {u : Int} {a b : List Stp} (h : Simple u (a ++ b)) : Simple u a := by
  unfold Simple nodes at *
  rw [List.map_append, ← List.cons_append, List.nodup_append] at h
  exact h.1
theorem end_mem : ∀ {u v : Int} {w : List Stp}, IsWalk u w v → v ∈ nodes u w
  | u, v, [], h => by
    have e : u = v := h
    simp [nodes, e]
  | u, v, e :: r, h => by
    have := end_mem (u := e.t) h.2
    unfold nodes at *
    rw [List.map_cons]
    exact List.mem_cons_of_mem _ this
/-- a walk that comes back to an elder place is cut there -/
theorem mem_nodes_split : ∀ {u v z : Int} {w : List Stp}, IsWalk u w v → z ∈ nodes u w → ∃ a b, w = a ++ b ∧ IsWalk u a z ∧ IsWalk z b v
  | u, v, z, [], h, hz => by
    have e : u = v := h
    simp [nodes] at hz
    exact ⟨[], [], rfl, hz.symm, by rw [hz]; exact e⟩
  | u, v, z, e :: r, h, hz => by
    unfold nodes at hz
    rcases List.mem_cons.mp hz with q | q
    · exact ⟨[], e :: r, rfl, q.symm, by rw [q]; exact h⟩
    · rw [List.map_cons] at q
      obtain ⟨a, b, e1, e2, e3⟩ := mem_nodes_split (u := e.t) h.2 (show z ∈ nodes e.t r from q)
      exact ⟨e :: a, b, by rw [e1]; rfl, ⟨h.1, e2⟩, e3⟩
/-- where no ring costs less than nothing, a walk is no cheaper than some simple one -/
theorem simple_of {es : List Stp} {f : Stp → Int} {u v : Int} (hr : ∀ z w, Reach es u z → IsWalk z w z → Within es w → 0 ≤ wsum f w) :
    ∀ (n : Nat) (w : List Stp), w.length ≤ n → IsWalk u w v → Within es w → ∃ w', IsWalk u w' v ∧ Within es w' ∧ Simple u w' ∧ wsum f w' ≤ wsum f w := by
  intro n
  induction n with
  | zero =>
    intro w hl hw hi
    have e : w = [] := List.length_eq_zero_iff.mp (by omega)
    subst e
    exact ⟨[], hw, hi, by simp [Simple, nodes], Int.le_refl _⟩
  | succ n ih =>
    intro w hl hw hi
    by_cases hs : Simple u w
    · exact ⟨w, hw, hi, hs, Int.le_refl _⟩
    · -- there is a split a ++ b ++ c with b a ring, not empty
      have key : ∀ (w : List Stp) (u v : Int), IsWalk u w v → ¬ Simple u w → ∃ a b c z, w = a ++ (b ++ c) ∧ b ≠ [] ∧ IsWalk u a z ∧ IsWalk z b z ∧ IsWalk z c v := by
        intro w
        induction w with
        | nil =>
          intro u v _ h
          exact absurd (by simp [Simple, nodes]) h
        | cons e r ihr =>
          intro u v hw h
          by_cases hm : u ∈ nodes e.t r
          · obtain ⟨a, b, e1, e2, e3⟩ := mem_nodes_split hw.2 hm
            exact ⟨[], e :: a, b, u, by rw [e1]; rfl, by simp, rfl, ⟨hw.1, e2⟩, e3⟩
          · have h2 : ¬ Simple e.t r := fun q => h (by
              unfold Simple nodes at *
              rw [List.map_cons]
              exact List.nodup_cons.mpr ⟨hm, q⟩)
            obtain ⟨a, b, c, z, e1, e2, e3, e4, e5⟩ := ihr e.t v hw.2 h2
            exact ⟨e :: a, b, c, z, by rw [e1]; rfl, e2, ⟨hw.1, e3⟩, e4, e5⟩
      obtain ⟨a, b, c, z, e1, e2, e3, e4, e5⟩ := key w u v hw hs
      subst e1
      have hb : 0 < b.length := List.length_pos_iff.mpr e2
      have hz : Reach es u z := ⟨a, e3, hi.left⟩
      have hneg := hr z b hz e4 hi.right.left
      obtain ⟨w', h1, h2, h3, h4⟩ := ih (a ++ c) (by simp only [List.length_append] at hl ⊢; omega) (e3.app e5) (hi.left.app hi.right.right)
      refine ⟨w', h1, h2, h3, ?_⟩
      rw [wsum_app] at h4
      rw [wsum_app, wsum_app]
      omega
end AM
end
section
set_option autoImplicit false
namespace AM
/-! ### least sums by rounds (the program's «lowered»): elements with a source, a target and a weight -/
section
variable {α : Type} (src tgt w : α → Int)
structure BF (α : Type) where
  S : List (Int × Int)
  L : List (Int × α)
  ch : Option Int
/-- does the element lower a sum? -/
def lowers (S : List (Int × Int)) (e : α) : Option Int := match dget S (src e) with
  | none => none
  | some d => match dget S (tgt e) with
    | none => some (d + w e)
    | some dt => if d + w e < dt then some (d + w e) else none
def relax (st : BF α) (e : α) : BF α := match lowers src tgt w st.S e with
  | none => st
  | some n => ⟨dput st.S (tgt e) n, dput st.L (tgt e) e, some (tgt e)⟩
def round (ps : List α) (st : BF α) : BF α := ps.foldl (relax src tgt w) { st with ch := none }
/-- so many rounds at most; the first one that changes nothing is the last -/
def rounds (ps : List α) : Nat → BF α → BF α
  | 0, st => st
  | n + 1, st => if (round src tgt w ps st).ch = none then round src tgt w ps st else rounds ps n (round src tgt w ps st)

/-- what holds within the k-th round (from 1 on), ahead of the element at the head of post -/
structure BInv (ps : List α) (b : Int) (k : Nat) (pre post : List α) (st : BF α) (r τ : Int → Nat) (T : Nat) : Prop where
  root : ∃ d, dget st.S b = some d ∧ d ≤ 0
  att : ∀ v d, dget st.S v = some d → ∃ l : List α, (∀ e ∈ l, e ∈ ps) ∧ (∃ (u : Int), u = b ∧ List.foldl (fun (o : Option Int) e => o.bind fun z => if src e = z then some (tgt e) else none) (some u) l = some v) ∧ (l.map w).sum = d
  last : ∀ v e, dget st.L v = some e → e ∈ ps ∧ tgt e = v ∧ ∃ du dv, dget st.S (src e) = some du ∧ dget st.S v = some dv ∧ du + w e ≤ dv ∧ (τ v ≤ τ (src e) → du + w e < dv) ∧ r v ≤ r (src e) + 1
  hasl : ∀ v, 1 ≤ r v → dget st.L v ≠ none
  le : ∀ v, r v ≤ k ∧ τ v < T
  bef : ∀ e ∈ pre, ∀ d, dget st.S (src e) = some d → (∃ dt, dget st.S (tgt e) = some dt ∧ dt ≤ d + w e) ∨ k ≤ r (src e)
  aft : ∀ e ∈ post, ∀ d, dget st.S (src e) = some d → (∃ dt, dget st.S (tgt e) = some dt ∧ dt ≤ d + w e) ∨ k ≤ r (src e) + 1
  ch0 : st.ch = none → ∀ v, r v < k
  ch1 : ∀ c, st.ch = some c → r c = k ∧ dget st.L c ≠ none
variable {src tgt w}
theorem relax_inv {ps : List α} {b : Int} {k : Nat} {pre post : List α} {st : BF α} {r τ : Int → Nat} {T : Nat} {e : α} (hk : 1 ≤ k) (he : e ∈ ps) (I : BInv src tgt w ps b k pre (e :: post) st r τ T) :
    ∃ r' τ', BInv src tgt w ps b k (pre ++ [e]) post (relax src tgt w st e) r' τ' (T + 1) := by
  unfold relax lowers
  cases hs : dget st.S (src e) with
  | none =>
    refine ⟨r, τ, ⟨I.root, I.att, I.last, I.hasl, fun v => ⟨(I.le v).1, Nat.lt_succ_of_lt (I.le v).2⟩, fun f hf d hd => ?_, fun f hf => I.aft f (List.mem_cons_of_mem _ hf), I.ch0, I.ch1⟩⟩
    rcases List.mem_append.mp hf with q | q
    · exact I.bef f q d hd
    · have ef : f = e := by simpa using q
      rw [ef, hs] at hd
      cases hd
  | some d =>
    try dsimp only
    -- the case in which nothing is lowered
    have stay : (∃ dt, dget st.S (tgt e) = some dt ∧ dt ≤ d + w e) → ∃ r' τ', BInv src tgt w ps b k (pre ++ [e]) post st r' τ' (T + 1) := fun hdt => by
      refine ⟨r, τ, ⟨I.root, I.att, I.last, I.hasl, fun v => ⟨(I.le v).1, Nat.lt_succ_of_lt (I.le v).2⟩, fun f hf d' hd => ?_, fun f hf => I.aft f (List.mem_cons_of_mem _ hf), I.ch0, I.ch1⟩⟩
      rcases List.mem_append.mp hf with q | q
      · exact I.bef f q d' hd
      · have ef : f = e := by simpa using q
        rw [ef] at hd ⊢
        rw [hs] at hd
        cases hd
        exact .inl hdt
    -- the case in which it is lowered to d + w e
    have low : (∀ dt, dget st.S (tgt e) = some dt → d + w e < dt) → ∃ r' τ', BInv src tgt w ps b k (pre ++ [e]) post ⟨dput st.S (tgt e) (d + w e), dput st.L (tgt e) e, some (tgt e)⟩ r' τ' (T + 1) := fun hlt => by
      have hr : k ≤ r (src e) + 1 := by
        rcases I.aft e List.mem_cons_self d hs with ⟨dt, h1, h2⟩ | h
        · have := hlt dt h1
          omega
        · exact h
      have getS : ∀ j, dget (dput st.S (tgt e) (d + w e)) j = if j = tgt e then some (d + w e) else dget st.S j := fun j => dget_dput _ _ j _
      have getL : ∀ j, dget (dput st.L (tgt e) e) j = if j = tgt e then some e else dget st.L j := fun j => dget_dput _ _ j _
      refine ⟨fun v => if v = tgt e then k else r v, fun v => if v = tgt e then T else τ v, ⟨?_, ?_, ?_, ?_, ?_, ?_, ?_, ?_, ?_⟩⟩
      · show ∃ d', dget (dput st.S (tgt e) (d + w e)) b = some d' ∧ d' ≤ 0
        rw [getS]
        obtain ⟨d0, hd0, hd1⟩ := I.root
        by_cases hbt : b = tgt e
        · rw [if_pos hbt]
          have := hlt d0 (by rw [← hbt]; exact hd0)
          exact ⟨_, rfl, by omega⟩
        · rw [if_neg hbt]
          exact ⟨d0, hd0, hd1⟩
      · intro v d' hd
        replace hd : dget (dput st.S (tgt e) (d + w e)) v = some d' := hd
        rw [getS] at hd
        by_cases hv : v = tgt e
        · rw [if_pos hv] at hd
          cases hd
          obtain ⟨l, h1, ⟨u, hu, h2⟩, h3⟩ := I.att (src e) d hs
          refine ⟨l ++ [e], fun f hf => ?_, ⟨u, hu, ?_⟩, ?_⟩
          · rcases List.mem_append.mp hf with q | q
            · exact h1 f q
            · have ef : f = e := by simpa using q
              rw [ef]
              exact he
          · rw [List.foldl_append, h2, hv]
            simp
          · rw [List.map_append, List.sum_append, h3]
            simp
        · rw [if_neg hv] at hd
          exact I.att v d' hd
      · intro v f hf
        replace hf : dget (dput st.L (tgt e) e) v = some f := hf
        rw [getL] at hf
        show f ∈ ps ∧ tgt f = v ∧ ∃ du dv, dget (dput st.S (tgt e) (d + w e)) (src f) = some du ∧ dget (dput st.S (tgt e) (d + w e)) v = some dv ∧ _
        by_cases hv : v = tgt e
        · rw [if_pos hv] at hf
          cases hf
          refine ⟨he, hv.symm, ?_⟩
          by_cases hst : src e = tgt e
          · have h2 := hlt d (by rw [← hst]; exact hs)
            refine ⟨d + w e, d + w e, by rw [getS, if_pos hst], by rw [getS, if_pos hv], by omega, fun _ => by omega, ?_⟩
            try dsimp only
            rw [if_pos hv, if_pos hst]
            omega
          · refine ⟨d, d + w e, by rw [getS, if_neg hst]; exact hs, by rw [getS, if_pos hv], Int.le_refl _, fun q => ?_, ?_⟩
            · try dsimp only at q
              rw [if_pos hv, if_neg hst] at q
              have := (I.le (src e)).2
              omega
            · try dsimp only
              rw [if_pos hv, if_neg hst]
              exact hr
        · rw [if_neg hv] at hf
          obtain ⟨h1, h2, du, dv, h3, h4, h5, h6, h7⟩ := I.last v f hf
          refine ⟨h1, h2, ?_⟩
          have hle := (I.le v).1
          by_cases hst : src f = tgt e
          · have h8 := hlt du (by rw [← hst]; exact h3)
            refine ⟨d + w e, dv, by rw [getS, if_pos hst], by rw [getS, if_neg hv]; exact h4, by omega, fun _ => by omega, ?_⟩
            try dsimp only
            rw [if_neg hv, if_pos hst]
            omega
          · refine ⟨du, dv, by rw [getS, if_neg hst]; exact h3, by rw [getS, if_neg hv]; exact h4, h5, fun q => ?_, ?_⟩
            · try dsimp only at q
              rw [if_neg hv, if_neg hst] at q
              exact h6 q
            · try dsimp only
              rw [if_neg hv, if_neg hst]
              exact h7
      · intro v hv
        show dget (dput st.L (tgt e) e) v ≠ none
        rw [getL]
        by_cases hvt : v = tgt e
        · rw [if_pos hvt]
          simp
        · rw [if_neg hvt]
          try dsimp only at hv
          rw [if_neg hvt] at hv
          exact I.hasl v hv
      · intro v
        try dsimp only
        have := I.le v
        split
        · exact ⟨Nat.le_refl _, Nat.lt_succ_self _⟩
        · exact ⟨this.1, by omega⟩
      · intro f hf d' hd
        replace hd : dget (dput st.S (tgt e) (d + w e)) (src f) = some d' := hd
        rw [getS] at hd
        show (∃ dt, dget (dput st.S (tgt e) (d + w e)) (tgt f) = some dt ∧ _) ∨ _
        by_cases hst : src f = tgt e
        · right
          try dsimp only
          rw [if_pos hst]
          exact Nat.le_refl _
        · rw [if_neg hst] at hd
          try dsimp only
          rw [if_neg hst, getS]
          rcases List.mem_append.mp hf with q | q
          · rcases I.bef f q d' hd with ⟨dt, h1, h2⟩ | h
            · left
              by_cases htt : tgt f = tgt e
              · rw [if_pos htt]
                have := hlt dt (by rw [← htt]; exact h1)
                exact ⟨_, rfl, by omega⟩
              · rw [if_neg htt]
                exact ⟨dt, h1, h2⟩
            · exact .inr h
          · have ef : f = e := by simpa using q
            subst ef
            rw [hs] at hd
            cases hd
            left
            rw [if_pos rfl]
            exact ⟨_, rfl, Int.le_refl _⟩
      · intro f hf d' hd
        replace hd : dget (dput st.S (tgt e) (d + w e)) (src f) = some d' := hd
        rw [getS] at hd
        show (∃ dt, dget (dput st.S (tgt e) (d + w e)) (tgt f) = some dt ∧ _) ∨ _
        by_cases hst : src f = tgt e
        · right
          try dsimp only
          rw [if_pos hst]
          omega
        · rw [if_neg hst] at hd
          try dsimp only
          rw [if_neg hst, getS]
          rcases I.aft f (List.mem_cons_of_mem _ hf) d' hd with ⟨dt, h1, h2⟩ | h
          · left
            by_cases htt : tgt f = tgt e
            · rw [if_pos htt]
              have := hlt dt (by rw [← htt]; exact h1)
              exact ⟨_, rfl, by omega⟩
            · rw [if_neg htt]
              exact ⟨dt, h1, h2⟩
          · exact .inr h
      · intro h
        cases h
      · intro c h
        replace h : some (tgt e) = some c := h
        cases h
        refine ⟨if_pos rfl, ?_⟩
        show dget (dput st.L (tgt e) e) (tgt e) ≠ none
        rw [getL, if_pos rfl]
        simp
    cases ht : dget st.S (tgt e) with
    | none => exact low fun dt h => by rw [ht] at h; cases h
    | some dt =>
      try dsimp only
      by_cases hc : d + w e < dt
      · rw [if_pos hc]
        exact low fun dt' h => by
          rw [ht] at h
          cases h
          exact hc
      · rw [if_neg hc]
        exact stay ⟨dt, ht, by omega⟩
theorem fold_inv {ps : List α} {b : Int} {k : Nat} (hk : 1 ≤ k) : ∀ {post pre : List α} {st : BF α} {r τ : Int → Nat} {T : Nat}, (∀ e ∈ post, e ∈ ps) → BInv src tgt w ps b k pre post st r τ T →
    ∃ r' τ' T', BInv src tgt w ps b k (pre ++ post) [] (post.foldl (relax src tgt w) st) r' τ' T'
  | [], pre, st, r, τ, T, _, I => ⟨r, τ, T, by rw [List.append_nil]; exact I⟩
  | e :: post, pre, st, r, τ, T, h, I => by
    obtain ⟨r1, τ1, I1⟩ := relax_inv hk (h e List.mem_cons_self) I
    obtain ⟨r2, τ2, T2, I2⟩ := fold_inv hk (fun f hf => h f (List.mem_cons_of_mem _ hf)) I1
    refine ⟨r2, τ2, T2, ?_⟩
    rw [List.append_assoc] at I2
    exact I2
/-- behind a whole round -/
theorem round_inv {ps : List α} {b : Int} {k : Nat} {st : BF α} {r τ : Int → Nat} {T : Nat} (I : BInv src tgt w ps b k ps [] st r τ T) : ∃ r' τ' T', BInv src tgt w ps b (k + 1) ps [] (round src tgt w ps st) r' τ' T' := by
  have I0 : BInv src tgt w ps b (k + 1) [] ps { st with ch := none } r τ T :=
    ⟨I.root, I.att, I.last, I.hasl, fun v => ⟨Nat.le_succ_of_le (I.le v).1, (I.le v).2⟩, fun e he => (by cases he), fun e he d hd => (by
      rcases I.bef e he d hd with h | h
      · exact .inl h
      · exact .inr (by omega)), fun _ v => Nat.lt_succ_of_le (I.le v).1, fun c h => (by cases h)⟩
  exact fold_inv (by omega) (fun _ h => h) I0
/-- behind the first round -/
theorem first_inv {ps : List α} {b : Int} : ∃ r' τ' T', BInv src tgt w ps b 1 ps [] (round src tgt w ps ⟨[(b, 0)], [], none⟩) r' τ' T' := by
  have I0 : BInv src tgt w ps b 1 [] ps (⟨[(b, 0)], [], none⟩ : BF α) (fun _ => 0) (fun _ => 0) 1 :=
    ⟨⟨0, by simp [dget_cons], Int.le_refl _⟩, fun v d h => (by
      rw [show dget [(b, (0 : Int))] v = if b = v then some 0 else none from (dget_cons (b, (0:Int)) [] v)] at h
      by_cases hb : b = v
      · rw [if_pos hb] at h
        cases h
        exact ⟨[], by simp, ⟨b, rfl, by simp [hb]⟩, rfl⟩
      · rw [if_neg hb] at h
        cases h),
    fun v e h => (by simp [dget_nil] at h), fun v h => absurd h (by omega), fun v => ⟨by omega, by omega⟩, fun e he => (by cases he), fun e he d hd => .inr (by omega), fun _ v => by omega, fun c h => (by cases h)⟩
  exact fold_inv (by omega) (fun _ h => h) I0
/-- what the rounds end with: k rounds done -/
theorem rounds_inv {ps : List α} {b : Int} : ∀ (n k : Nat) (st : BF α) (r τ : Int → Nat) (T : Nat), 1 ≤ k → st.ch ≠ none → BInv src tgt w ps b k ps [] st r τ T →
    ∃ k' r' τ' T', k ≤ k' ∧ BInv src tgt w ps b k' ps [] (rounds src tgt w ps n st) r' τ' T' ∧ ((rounds src tgt w ps n st).ch ≠ none → k' = k + n)
  | 0, k, st, r, τ, T, _, _, I => ⟨k, r, τ, T, Nat.le_refl _, I, fun _ => rfl⟩
  | n + 1, k, st, r, τ, T, hk, hc, I => by
    obtain ⟨r1, τ1, T1, I1⟩ := round_inv I
    unfold rounds
    by_cases h : (round src tgt w ps st).ch = none
    · rw [if_pos h]
      exact ⟨k + 1, r1, τ1, T1, by omega, I1, fun q => absurd h q⟩
    · rw [if_neg h]
      obtain ⟨k2, r2, τ2, T2, h1, h2, h3⟩ := rounds_inv n (k + 1) _ r1 τ1 T1 (by omega) h I1
      exact ⟨k2, r2, τ2, T2, by omega, h2, fun q => by have := h3 q; omega⟩
theorem all_inv {ps : List α} {b : Int} (n : Nat) : ∃ k r τ T, 1 ≤ k ∧ BInv src tgt w ps b k ps [] (rounds src tgt w ps (n + 1) ⟨[(b, 0)], [], none⟩) r τ T ∧ ((rounds src tgt w ps (n + 1) ⟨[(b, 0)], [], none⟩).ch ≠ none → k = n + 1) := by
  obtain ⟨r1, τ1, T1, I1⟩ := first_inv (src := src) (tgt := tgt) (w := w) (ps := ps) (b := b)
  unfold rounds
  by_cases h : (round src tgt w ps ⟨[(b, 0)], [], none⟩).ch = none
  · rw [if_pos h]
    exact ⟨1, r1, τ1, T1, Nat.le_refl _, I1, fun q => absurd h q⟩
  · rw [if_neg h]
    obtain ⟨k2, r2, τ2, T2, h1, h2, h3⟩ := rounds_inv n 1 _ r1 τ1 T1 (Nat.le_refl _) h I1
    exact ⟨k2, r2, τ2, T2, by omega, h2, fun q => by have := h3 q; omega⟩
end
end AM
end
section
set_option autoImplicit false
namespace AM
theorem php : ∀ (N : Nat) (f : Nat → Int), (∀ i, i ≤ N → 0 ≤ f i ∧ f i < (N : Int)) → ∃ i j, i < j ∧ j ≤ N ∧ f i = f j
  | 0, f, h => by
    have := h 0 (Nat.le_refl _)
    omega
  | N + 1, f, h => by
    by_cases hx : ∃ i, i ≤ N ∧ f i = f (N + 1)
    · obtain ⟨i, h1, h2⟩ := hx
      exact ⟨i, N + 1, by omega, Nat.le_refl _, h2⟩
    · have hn : ∀ i, i ≤ N → f i ≠ f (N + 1) := fun i hi e => hx ⟨i, hi, e⟩
      have ha := h (N + 1) (Nat.le_refl _)
      obtain ⟨i, j, h1, h2, h3⟩ := php N (fun i => if f (N + 1) < f i then f i - 1 else f i) (fun i hi => by
        have h4 := h i (by omega)
        have h5 := hn i hi
        show 0 ≤ (if f (N + 1) < f i then f i - 1 else f i) ∧ (if f (N + 1) < f i then f i - 1 else f i) < (N : Int)
        split <;> omega)
      refine ⟨i, j, h1, by omega, ?_⟩
      have h4 := hn i (by omega)
      have h5 := hn j h2
      split at h3 <;> split at h3 <;> omega

section
variable {α : Type} {src tgt w : α → Int} {stp : α → Stp} {f : Stp → Int}
theorem chain_walk (hs : ∀ e : α, (stp e).s = src e) (ht : ∀ e : α, (stp e).t = tgt e) : ∀ (l : List α) (u v : Int),
    List.foldl (fun (o : Option Int) e => o.bind fun z => if src e = z then some (tgt e) else none) (some u) l = some v → IsWalk u (l.map stp) v
  | [], u, v, h => by simpa [IsWalk] using h
  | e :: l, u, v, h => by
    rw [List.foldl_cons] at h
    by_cases hu : src e = u
    · have h2 : (some u).bind (fun z => if src e = z then some (tgt e) else none) = some (tgt e) := by simp [hu]
      rw [h2] at h
      refine ⟨by rw [hs]; exact hu, ?_⟩
      rw [ht]
      exact chain_walk hs ht l (tgt e) v h
    · have h2 : (some u).bind (fun z => if src e = z then some (tgt e) else none) = none := by simp [hu]
      rw [h2] at h
      have h3 : ∀ l : List α, List.foldl (fun (o : Option Int) e => o.bind fun z => if src e = z then some (tgt e) else none) none l = none := by
        intro l
        induction l with
        | nil => rfl
        | cons e l ih => rw [List.foldl_cons]; exact ih
      rw [h3] at h
      cases h
/-- what is known where the rounds come to rest -/
structure Rest (ps : List α) (b : Int) (stp : α → Stp) (f : Stp → Int) (S : List (Int × Int)) : Prop where
  feas : ∀ e ∈ ps, ∀ d, dget S (stp e).s = some d → ∃ dt, dget S (stp e).t = some dt ∧ dt ≤ d + f (stp e)
  att : ∀ v d, dget S v = some d → ∃ l, IsWalk b l v ∧ Within (ps.map stp) l ∧ wsum f l = d
  root : dget S b = some 0
theorem att_walk {ps : List α} {b : Int} {k : Nat} {st : BF α} {r τ : Int → Nat} {T : Nat} {pre post : List α} (hs : ∀ e : α, (stp e).s = src e) (ht : ∀ e : α, (stp e).t = tgt e) (hw : ∀ e ∈ ps, w e = f (stp e))
    (I : BInv src tgt w ps b k pre post st r τ T) : ∀ v d, dget st.S v = some d → ∃ l, IsWalk b l v ∧ Within (ps.map stp) l ∧ wsum f l = d := fun v d h => by
  obtain ⟨l, h1, ⟨u, hu, h2⟩, h3⟩ := I.att v d h
  subst hu
  refine ⟨l.map stp, chain_walk hs ht l u v h2, fun e he => ?_, ?_⟩
  · obtain ⟨x, hx, ex⟩ := List.mem_map.mp he
    rw [← ex]
    exact List.mem_map.mpr ⟨x, h1 x hx, rfl⟩
  · rw [← h3]
    unfold wsum
    rw [List.map_map]
    congr 1
    apply List.map_congr_left
    intro x hx
    exact (hw x (h1 x hx)).symm
theorem rest_of {ps : List α} {b : Int} {n : Nat} (hs : ∀ e : α, (stp e).s = src e) (ht : ∀ e : α, (stp e).t = tgt e) (hw : ∀ e ∈ ps, w e = f (stp e))
    (h : (rounds src tgt w ps (n + 1) ⟨[(b, 0)], [], none⟩).ch = none) : Rest ps b stp f (rounds src tgt w ps (n + 1) ⟨[(b, 0)], [], none⟩).S := by
  obtain ⟨k, r, τ, T, _, I, _⟩ := all_inv (src := src) (tgt := tgt) (w := w) (ps := ps) (b := b) n
  have att := att_walk hs ht hw I
  have feas : ∀ e ∈ ps, ∀ d, dget (rounds src tgt w ps (n + 1) ⟨[(b, 0)], [], none⟩).S (stp e).s = some d → ∃ dt, dget (rounds src tgt w ps (n + 1) ⟨[(b, 0)], [], none⟩).S (stp e).t = some dt ∧ dt ≤ d + f (stp e) := fun e he d hd => by
    rw [hs] at hd
    rw [ht, ← hw e he]
    rcases I.bef e he d hd with h1 | h1
    · exact h1
    · have := I.ch0 h (src e)
      omega
  refine ⟨feas, att, ?_⟩
  obtain ⟨d0, h0, h1⟩ := I.root
  obtain ⟨l, h2, h3, h4⟩ := att b d0 h0
  have h5 := walk_pot (f := f) (g := fun v => (dget (rounds src tgt w ps (n + 1) ⟨[(b, 0)], [], none⟩).S v).getD 0) (P := fun v => dget (rounds src tgt w ps (n + 1) ⟨[(b, 0)], [], none⟩).S v ≠ none) h2 (by rw [h0]; simp) (fun e he hp => by
    obtain ⟨x, hx, ex⟩ := List.mem_map.mp (h3 e he)
    cases hd : dget (rounds src tgt w ps (n + 1) ⟨[(b, 0)], [], none⟩).S e.s with
    | none => exact absurd hd hp
    | some d =>
      obtain ⟨dt, h6, h7⟩ := feas x hx d (by rw [ex]; exact hd)
      rw [ex] at h6 h7
      rw [h6]
      simp
      omega)
  have h6 := h5.1
  rw [h4] at h6
  have : d0 = 0 := by omega
  rw [h0, this]

/-- where the last round still changed something: the last steps lead into a ring that costs less than nothing -/
structure Back (ps : List α) (N : Nat) (stp : α → Stp) (f : Stp → Int) (L : List (Int × α)) (c : Int) (y : Nat → Int) (g : Nat → α) (m : Nat) : Prop where
  y0 : y 0 = c
  one : 1 ≤ m
  most : m ≤ N
  at_ : ∀ i, dget L (y i) = some (g i)
  nxt : ∀ i, (stp (g i)).s = y (i + 1)
  tgt : ∀ i, (stp (g i)).t = y i
  mem : ∀ i, g i ∈ ps
  loop : y (N + m) = y N
  first : ∀ q, 1 ≤ q → q < m → y (N + q) ≠ y N
  neg : (((List.range m).map fun i => f (stp (g (N + i))))).sum < 0

theorem back_of {ps : List α} {b : Int} {N : Nat} (hs : ∀ e : α, (stp e).s = src e) (ht : ∀ e : α, (stp e).t = tgt e) (hw : ∀ e ∈ ps, w e = f (stp e)) (hb : 0 ≤ b ∧ b < (N : Int))
    (hp : ∀ e ∈ ps, (0 ≤ src e ∧ src e < (N : Int)) ∧ (0 ≤ tgt e ∧ tgt e < (N : Int))) {c : Int} (h : (rounds src tgt w ps (N + 1) ⟨[(b, 0)], [], none⟩).ch = some c) :
    ∃ y g m, Back ps N stp f (rounds src tgt w ps (N + 1) ⟨[(b, 0)], [], none⟩).L c y g m ∧ ∃ d, dget (rounds src tgt w ps (N + 1) ⟨[(b, 0)], [], none⟩).S (y N) = some d := by
  obtain ⟨k, r, τ, T, _, I, hk⟩ := all_inv (src := src) (tgt := tgt) (w := w) (ps := ps) (b := b) N
  have hk : k = N + 1 := hk (by rw [h]; simp)
  subst hk
  generalize hst : rounds src tgt w ps (N + 1) ⟨[(b, 0)], [], none⟩ = st at *
  -- the way back
  let nx : Int → Int := fun v => match dget st.L v with
    | some e => src e
    | none => v
  let y : Nat → Int := fun i => Nat.rec c (fun _ v => nx v) i
  have y0 : y 0 = c := rfl
  have ys : ∀ i, y (i + 1) = nx (y i) := fun i => rfl
  obtain ⟨hc1, hc2⟩ := I.ch1 c h
  have step : ∀ v e, dget st.L v = some e → nx v = src e := fun v e he => by
    show (match dget st.L v with | some e => src e | none => v) = src e
    rw [he]
  -- the first N + 1 places changed
  have hr : ∀ i, i ≤ N → N + 1 ≤ r (y i) + i ∧ dget st.L (y i) ≠ none := by
    intro i
    induction i with
    | zero => intro _; exact ⟨by rw [y0, hc1]; omega, by rw [y0]; exact hc2⟩
    | succ i ih =>
      intro hi
      obtain ⟨h1, h2⟩ := ih (by omega)
      cases he : dget st.L (y i) with
      | none => exact absurd he h2
      | some e =>
        obtain ⟨_, _, du, dv, _, _, _, _, h7⟩ := I.last (y i) e he
        rw [ys, step _ _ he]
        refine ⟨by omega, I.hasl _ (by omega)⟩
  have inb : ∀ v e, dget st.L v = some e → 0 ≤ v ∧ v < (N : Int) := fun v e he => by
    obtain ⟨h1, h2, _⟩ := I.last v e he
    rw [← h2]
    exact (hp e h1).2
  have inb2 : ∀ i, i ≤ N → 0 ≤ y i ∧ y i < (N : Int) := fun i hi => by
    cases he : dget st.L (y i) with
    | none => exact absurd he (hr i hi).2
    | some e => exact inb _ _ he
  obtain ⟨i0, j0, h1, h2, h3⟩ := php N y inb2
  have per : ∀ t, y (i0 + t) = y (j0 + t) := by
    intro t
    induction t with
    | zero => exact h3
    | succ t ih =>
      rw [← Nat.add_assoc, ← Nat.add_assoc, ys, ys, ih]
  have back : ∀ i, ∃ i', i' ≤ N ∧ y i = y i' := by
    intro i
    induction i with
    | zero => exact ⟨0, by omega, rfl⟩
    | succ i ih =>
      obtain ⟨i', h4, h5⟩ := ih
      by_cases hi : i' + 1 ≤ N
      · exact ⟨i' + 1, hi, by rw [ys, ys, h5]⟩
      · have e1 : i' = N := by omega
        subst e1
        refine ⟨i0 + (i' - j0 + 1), by omega, ?_⟩
        have e2 : j0 + (i' - j0 + 1) = i' + 1 := by omega
        rw [ys, h5, ← ys, per, e2]
  have hl : ∀ i, dget st.L (y i) ≠ none := fun i => by
    obtain ⟨i', h4, h5⟩ := back i
    rw [h5]
    exact (hr i' h4).2
  let g : Nat → α := fun i => (dget st.L (y i)).get (Option.isSome_iff_ne_none.mpr (hl i))
  have hg : ∀ i, dget st.L (y i) = some (g i) := fun i => by
    show dget st.L (y i) = some ((dget st.L (y i)).get _)
    rw [Option.some_get]
  have hlast := fun i => I.last (y i) (g i) (hg i)
  have hnx : ∀ i, src (g i) = y (i + 1) := fun i => by rw [ys, step _ _ (hg i)]
  -- the least period at y N
  have hper : ∃ m, 1 ≤ m ∧ m ≤ N ∧ y (N + m) = y N := by
    refine ⟨j0 - i0, by omega, by omega, ?_⟩
    have h4 := per (N - i0)
    rw [show i0 + (N - i0) = N by omega, show j0 + (N - i0) = N + (j0 - i0) by omega] at h4
    exact h4.symm
  have least : ∀ n, (∃ m, 1 ≤ m ∧ m ≤ n ∧ y (N + m) = y N) → ∃ m, 1 ≤ m ∧ m ≤ n ∧ y (N + m) = y N ∧ ∀ q, 1 ≤ q → q < m → y (N + q) ≠ y N := by
    intro n
    induction n with
    | zero => rintro ⟨m, h4, h5, _⟩; omega
    | succ n ih =>
      rintro ⟨m, h4, h5, h6⟩
      by_cases hq : ∃ m, 1 ≤ m ∧ m ≤ n ∧ y (N + m) = y N
      · obtain ⟨m', h7, h8, h9, h10⟩ := ih hq
        exact ⟨m', h7, by omega, h9, h10⟩
      · exact ⟨m, h4, h5, h6, fun q h7 h8 h9 => hq ⟨q, h7, by omega, h9⟩⟩
  obtain ⟨m, m1, m2, m3, m4⟩ := least N hper
  -- S falls along the way back
  have hS : ∀ i, ∃ d, dget st.S (y i) = some d := fun i => by
    obtain ⟨_, _, du, dv, _, h5, _⟩ := hlast i
    exact ⟨dv, h5⟩
  have fall : ∀ q, 1 ≤ q → ∀ d0 dq, dget st.S (y N) = some d0 → dget st.S (y (N + q)) = some dq →
      ((List.range q).map fun i => f (stp (g (N + i)))).sum ≤ d0 - dq ∧ (τ (y (N + q)) < τ (y N) ∨ ((List.range q).map fun i => f (stp (g (N + i)))).sum < d0 - dq) := by
    intro q
    induction q with
    | zero => intro hq; omega
    | succ q ih =>
      intro _ d0 dq hd0 hdq
      rw [List.range_succ, List.map_append, List.sum_append]
      simp only [List.map_cons, List.map_nil, List.sum_cons, List.sum_nil]
      obtain ⟨e1, e2, du, dv, e3, e4, e5, e6, e7⟩ := hlast (N + q)
      rw [hw _ e1] at e5 e6
      rw [hnx, show N + q + 1 = N + (q + 1) by omega] at e3 e6
      rw [hdq] at e3
      cases e3
      by_cases hq : q = 0
      · subst hq
        rw [Nat.add_zero, hd0] at e4
        cases e4
        simp only [List.range_zero, List.map_nil, List.sum_nil, Nat.add_zero] at *
        by_cases ht' : τ (y N) ≤ τ (y (N + (0 + 1)))
        · have := e6 ht'
          exact ⟨by omega, .inr (by omega)⟩
        · exact ⟨by omega, .inl (by omega)⟩
      · obtain ⟨i1, i2⟩ := ih (by omega) d0 dv hd0 e4
        by_cases ht' : τ (y (N + q)) ≤ τ (y (N + (q + 1)))
        · have := e6 ht'
          exact ⟨by omega, .inr (by omega)⟩
        · rcases i2 with i2 | i2
          · exact ⟨by omega, .inl (by omega)⟩
          · exact ⟨by omega, .inr (by omega)⟩
  obtain ⟨dN, hdN⟩ := hS N
  refine ⟨y, g, m, ⟨y0, m1, m2, hg, fun i => by rw [hs]; exact hnx i, fun i => by rw [ht]; exact (hlast i).2.1, fun i => (hlast i).1, m3, m4, ?_⟩, dN, hdN⟩
  obtain ⟨f1, f2⟩ := fall m m1 dN dN hdN (by rw [m3]; exact hdN)
  rw [m3] at f2
  rcases f2 with f2 | f2
  · omega
  · omega
/-- the ring that the way back gives, its steps turned round -/
def ringOf (stp : α → Stp) (g : Nat → α) (N m : Nat) : List Stp := (((List.range m).map fun i => stp (g (N + i)))).reverse
theorem ring_walk {ps : List α} {N : Nat} {L : List (Int × α)} {c : Int} {y : Nat → Int} {g : Nat → α} {m : Nat} (B : Back ps N stp f L c y g m) : IsWalk (y N) (ringOf stp g N m) (y N) ∧ Within (ps.map stp) (ringOf stp g N m) ∧ (ringOf stp g N m).length = m ∧ wsum f (ringOf stp g N m) < 0 := by
  have key : ∀ q, IsWalk (y (N + q)) (((List.range q).map fun i => stp (g (N + i)))).reverse (y N) := by
    intro q
    induction q with
    | zero => rfl
    | succ q ih =>
      rw [List.range_succ, List.map_append, List.reverse_append]
      refine ⟨B.nxt (N + q), ?_⟩
      rw [B.tgt]
      exact ih
  refine ⟨?_, ?_, by simp [ringOf], ?_⟩
  · have := key m
    rw [B.loop] at this
    exact this
  · intro e he
    unfold ringOf at he
    rw [List.mem_reverse] at he
    obtain ⟨i, _, ei⟩ := List.mem_map.mp he
    rw [← ei]
    exact List.mem_map.mpr ⟨_, B.mem _, rfl⟩
  · have e : wsum f (ringOf stp g N m) = (((List.range m).map fun i => f (stp (g (N + i))))).sum := by
      unfold wsum ringOf
      rw [List.map_reverse, List.sum_reverse, List.map_map]
      rfl
    rw [e]
    exact B.neg
end
end AM
end
section
set_option autoImplicit false
namespace AM
/-! ### fractions in lowest terms -/
def low (a b : Int) : Int × Int := (a / (Int.gcd a b : Int), b / (Int.gcd a b : Int))
theorem low_scale (a b d : Int) (hd : 0 < d) : low (a * d) (b * d) = low a b := by
  unfold low
  have e : ((Int.gcd (a * d) (b * d) : Nat) : Int) = (Int.gcd a b : Int) * d := by
    rw [Int.gcd_mul_right, Int.natCast_mul, Int.natAbs_of_nonneg (Int.le_of_lt hd)]
  rw [e, Int.mul_ediv_mul_of_pos_left _ _ hd, Int.mul_ediv_mul_of_pos_left _ _ hd]
theorem low_eq {a b c d : Int} (hb : 0 < b) (hd : 0 < d) (h : a * d = c * b) : low a b = low c d := by
  rw [← low_scale a b d hd, ← low_scale c d b hb, h, Int.mul_comm b d]
theorem gcd_pos {a b : Int} (hb : 0 < b) : 0 < (Int.gcd a b : Int) := by
  have := Int.gcd_pos_of_ne_zero_right a (show b ≠ 0 by omega)
  omega
theorem low_spec (a b : Int) : a = (low a b).1 * (Int.gcd a b : Int) ∧ b = (low a b).2 * (Int.gcd a b : Int) :=
  ⟨(Int.ediv_mul_cancel (Int.gcd_dvd_left a b)).symm, (Int.ediv_mul_cancel (Int.gcd_dvd_right a b)).symm⟩
theorem low_pos {a b : Int} (hb : 0 < b) : 0 < (low a b).2 := by
  have h1 := (low_spec a b).2
  have h2 := gcd_pos (a := a) hb
  rcases Int.lt_trichotomy 0 (low a b).2 with h | h | h
  · exact h
  · rw [← h] at h1
    omega
  · have := Int.mul_neg_of_neg_of_pos h h2
    omega
theorem low_snd_le {a b : Int} (hb : 0 < b) : (low a b).2 ≤ b := by
  have h1 := (low_spec a b).2
  have h2 := gcd_pos (a := a) hb
  have h3 := low_pos (a := a) hb
  have h4 : (low a b).2 * 1 ≤ (low a b).2 * (Int.gcd a b : Int) := Int.mul_le_mul_of_nonneg_left (by omega) (by omega)
  omega
theorem natAbs_low_le {a b : Int} (hb : 0 < b) : (low a b).1.natAbs ≤ a.natAbs := by
  have h1 := (low_spec a b).1
  have h2 := gcd_pos (a := a) hb
  have h3 : a.natAbs = (low a b).1.natAbs * Int.gcd a b := by
    conv => lhs; rw [h1]
    rw [Int.natAbs_mul, Int.natAbs_natCast]
  have h4 : (low a b).1.natAbs * 1 ≤ (low a b).1.natAbs * Int.gcd a b := Nat.mul_le_mul_left _ (by omega)
  omega
theorem low_low {a b : Int} (hb : 0 < b) : low (low a b).1 (low a b).2 = low a b := by
  obtain ⟨h1, h2⟩ := low_spec a b
  have h3 := low_scale (low a b).1 (low a b).2 (Int.gcd a b) (gcd_pos hb)
  rw [← h1, ← h2] at h3
  exact h3.symm
theorem low_zero {b : Int} (hb : 0 < b) : low 0 b = (0, 1) := by
  unfold low
  have e : ((Int.gcd 0 b : Nat) : Int) = b := by
    rw [Int.zero_gcd, Int.natAbs_of_nonneg (Int.le_of_lt hb)]
  rw [e, Int.zero_ediv, Int.ediv_self (by omega)]

/-! ### costs, weights -/
def cst (p : Int × Int) (e : Stp) : Int := p.1 * e.x + p.2 * e.y
def wt (p r : Int × Int) (e : Stp) : Int := r.2 * cst p e - r.1 * e.k
theorem wsum_wt (p r : Int × Int) : ∀ w : List Stp, wsum (wt p r) w = r.2 * wsum (cst p) w - r.1 * wsum (·.k) w
  | [] => by simp [wsum]
  | e :: w => by
    rw [wsum_cons, wsum_cons, wsum_cons, wsum_wt p r w, Int.mul_add, Int.mul_add]
    unfold wt
    omega
theorem cst_sum (p : Int × Int) : ∀ w : List Stp, wsum (cst p) w = p.1 * wsum (·.x) w + p.2 * wsum (·.y) w
  | [] => by simp [wsum]
  | e :: w => by
    rw [wsum_cons, wsum_cons, wsum_cons, cst_sum p w, Int.mul_add, Int.mul_add]
    unfold cst
    omega
def ticksPos (es : List Stp) : Prop := ∀ e ∈ es, 1 ≤ e.k
theorem ticks_len {es : List Stp} (h : ticksPos es) : ∀ {w : List Stp}, Within es w → (w.length : Int) ≤ wsum (·.k) w
  | [], _ => by simp [wsum]
  | e :: w, hw => by
    have h1 := h e (hw e (by simp))
    have h2 := ticks_len h (w := w) fun x hx => hw x (by simp [hx])
    rw [wsum_cons, List.length_cons]
    omega
theorem wsum_bound {f : Stp → Int} {B : Nat} : ∀ {w : List Stp}, (∀ e ∈ w, (f e).natAbs ≤ B) → (wsum f w).natAbs ≤ B * w.length
  | [], _ => by simp [wsum]
  | e :: w, h => by
    have h1 := h e (by simp)
    have h2 := wsum_bound (f := f) (w := w) fun x hx => h x (by simp [hx])
    rw [wsum_cons, List.length_cons, Nat.mul_succ]
    omega
/-- what a walk costs per tick -/
def rate (p : Int × Int) (w : List Stp) : Int × Int := low (wsum (cst p) w) (wsum (·.k) w)
theorem rate_zero {p : Int × Int} {w : List Stp} (_hk : 0 < wsum (·.k) w) : wsum (wt p (rate p w)) w = 0 := by
  rw [wsum_wt]
  unfold rate
  obtain ⟨h1, h2⟩ := low_spec (wsum (cst p) w) (wsum (·.k) w)
  generalize low (wsum (cst p) w) (wsum (·.k) w) = r at *
  generalize (Int.gcd (wsum (cst p) w) (wsum (·.k) w) : Int) = g at *
  rw [h1, h2]
  have : r.2 * (r.1 * g) = r.1 * (r.2 * g) := by
    rw [← Int.mul_assoc, ← Int.mul_assoc, Int.mul_comm r.2 r.1]
  omega
/-- under a ring's rate another ring costs less than nothing: then it costs less per tick -/
theorem rate_less {p : Int × Int} {w w' : List Stp} (hk : 0 < wsum (·.k) w) (h : wsum (wt p (rate p w)) w' < 0) : wsum (cst p) w' * wsum (·.k) w < wsum (cst p) w * wsum (·.k) w' := by
  rw [wsum_wt] at h
  unfold rate at h
  obtain ⟨h1, h2⟩ := low_spec (wsum (cst p) w) (wsum (·.k) w)
  have h3 := gcd_pos (a := wsum (cst p) w) hk
  generalize low (wsum (cst p) w) (wsum (·.k) w) = r at *
  generalize (Int.gcd (wsum (cst p) w) (wsum (·.k) w) : Int) = g at *
  rw [h1, h2]
  generalize wsum (cst p) w' = C' at *
  generalize wsum (·.k) w' = K' at *
  have h4 : (r.2 * C' - r.1 * K') * g < 0 := Int.mul_neg_of_neg_of_pos h h3
  rw [Int.sub_mul] at h4
  have e1 : C' * (r.2 * g) = r.2 * C' * g := by rw [← Int.mul_assoc, Int.mul_comm C' r.2]
  have e2 : r.1 * g * K' = r.1 * K' * g := by rw [Int.mul_assoc, Int.mul_comm g K', ← Int.mul_assoc]
  omega
theorem rate_geq {p : Int × Int} {w w' : List Stp} (hk : 0 < wsum (·.k) w) (h : 0 ≤ wsum (wt p (rate p w)) w') : wsum (cst p) w * wsum (·.k) w' ≤ wsum (cst p) w' * wsum (·.k) w := by
  rw [wsum_wt] at h
  unfold rate at h
  obtain ⟨h1, h2⟩ := low_spec (wsum (cst p) w) (wsum (·.k) w)
  have h3 := gcd_pos (a := wsum (cst p) w) hk
  generalize low (wsum (cst p) w) (wsum (·.k) w) = r at *
  generalize (Int.gcd (wsum (cst p) w) (wsum (·.k) w) : Int) = g at *
  rw [h1, h2]
  generalize wsum (cst p) w' = C' at *
  generalize wsum (·.k) w' = K' at *
  have h4 : 0 ≤ (r.2 * C' - r.1 * K') * g := Int.mul_nonneg h (Int.le_of_lt h3)
  rw [Int.sub_mul] at h4
  have e1 : C' * (r.2 * g) = r.2 * C' * g := by rw [← Int.mul_assoc, Int.mul_comm C' r.2]
  have e2 : r.1 * g * K' = r.1 * K' * g := by rw [Int.mul_assoc, Int.mul_comm g K', ← Int.mul_assoc]
  omega

/-! ### rings that one can come to; a best one -/
structure Ring (es : List Stp) (b : Int) (R : List Stp) : Prop where
  at_ : ∃ z, Reach es b z ∧ IsWalk z R z
  ne : R ≠ []
  win : Within es R
structure Best (es : List Stp) (b : Int) (p : Int × Int) (R : List Stp) : Prop where
  ring : Ring es b R
  least : ∀ z w, Reach es b z → IsWalk z w z → Within es w → 0 ≤ wsum (wt p (rate p R)) w
theorem Ring.ticks {es : List Stp} {b : Int} {R : List Stp} (h : ticksPos es) (r : Ring es b R) : 0 < wsum (·.k) R := by
  have h1 := ticks_len h r.win
  have h2 := List.length_pos_iff.mpr r.ne
  omega
/-- two best rings cost the same per tick -/
theorem Best.same {es : List Stp} {b : Int} {p : Int × Int} {R R' : List Stp} (h : ticksPos es) (r : Best es b p R) (r' : Best es b p R') : rate p R = rate p R' := by
  have k1 := r.ring.ticks h
  have k2 := r'.ring.ticks h
  obtain ⟨z, z1, z2⟩ := r.ring.at_
  obtain ⟨z', z3, z4⟩ := r'.ring.at_
  have h1 := rate_geq k1 (r.least z' R' z3 z4 r'.ring.win)
  have h2 := rate_geq k2 (r'.least z R z1 z2 r.ring.win)
  exact low_eq k1 k2 (by omega)
theorem Best.rate_pos {es : List Stp} {b : Int} {p : Int × Int} {R : List Stp} (h : ticksPos es) (r : Best es b p R) : 0 < (rate p R).2 := low_pos (r.ring.ticks h)
/-- the number that falls from ring to better ring: F a common multiple of all tick sums -/
def meas (p : Int × Int) (B F : Int) (R : List Stp) : Nat := (wsum (cst p) R * (F / wsum (·.k) R) + B * F).toNat
theorem meas_less {p : Int × Int} {B F : Int} {R R' : List Stp} (hF : 0 < F) (hk : 0 < wsum (·.k) R) (hk' : 0 < wsum (·.k) R') (hd : wsum (·.k) R ∣ F) (hd' : wsum (·.k) R' ∣ F) (hB' : -B ≤ wsum (cst p) R')
    (h : wsum (cst p) R' * wsum (·.k) R < wsum (cst p) R * wsum (·.k) R') (hB : 0 ≤ B) : meas p B F R' < meas p B F R := by
  unfold meas
  obtain ⟨a, ha⟩ := hd
  obtain ⟨a', ha'⟩ := hd'
  have e1 : F / wsum (·.k) R = a := by rw [ha, Int.mul_ediv_cancel_left _ (by omega)]
  have e2 : F / wsum (·.k) R' = a' := by rw [ha', Int.mul_ediv_cancel_left _ (by omega)]
  rw [e1, e2]
  generalize wsum (cst p) R' = C' at *
  generalize wsum (cst p) R = C at *
  generalize wsum (·.k) R' = K' at *
  generalize wsum (·.k) R = K at *
  have pos : ∀ {u v : Int}, 0 < u * v → 0 < u → 0 < v := fun {u v} h1 h2 => by
    rcases Int.lt_trichotomy 0 v with q | q | q
    · exact q
    · rw [← q] at h1; omega
    · have := Int.mul_neg_of_pos_of_neg h2 q
      omega
  have pa : 0 < a := pos (by rw [← ha]; exact hF) hk
  have pa' : 0 < a' := pos (by rw [← ha']; exact hF) hk'
  -- C' a' < C a
  have h1 : C' * a' < C * a := by
    have h2 : C' * K * (a * a') < C * K' * (a * a') := Int.mul_lt_mul_of_pos_right h (Int.mul_pos pa pa')
    have e3 : C' * K * (a * a') = C' * a' * F := by
      rw [ha]
      simp only [Int.mul_assoc, Int.mul_comm, Int.mul_left_comm]
    have e4 : C * K' * (a * a') = C * a * F := by
      rw [ha']
      simp only [Int.mul_assoc, Int.mul_comm, Int.mul_left_comm]
    rw [e3, e4] at h2
    exact Int.lt_of_mul_lt_mul_right h2 (Int.le_of_lt hF)
  have h3 : a' ≤ F := by
    have h4 : 1 * a' ≤ K' * a' := Int.mul_le_mul_of_nonneg_right (by omega) (by omega)
    omega
  have h5 : -(B * F) ≤ C' * a' := by
    have h6 : -B * a' ≤ C' * a' := Int.mul_le_mul_of_nonneg_right hB' (by omega)
    have h7 : B * a' ≤ B * F := Int.mul_le_mul_of_nonneg_left h3 hB
    rw [Int.neg_mul] at h6
    omega
  omega
def fac : Nat → Nat
  | 0 => 1
  | n + 1 => (n + 1) * fac n
theorem fac_pos : ∀ n, 0 < fac n
  | 0 => by decide
  | n + 1 => Nat.mul_pos (by omega) (fac_pos n)
theorem dvd_fac : ∀ {n k : Nat}, 1 ≤ k → k ≤ n → k ∣ fac n
  | 0, k, h, h2 => by omega
  | n + 1, k, h, h2 => by
    unfold fac
    by_cases e : k = n + 1
    · rw [e]
      exact Nat.dvd_mul_right ..
    · exact Nat.dvd_trans (dvd_fac h (by omega)) (Nat.dvd_mul_left ..)
theorem dvd_facI {n : Nat} {k : Int} (h : 1 ≤ k) (h2 : k ≤ (n : Int)) : k ∣ (fac n : Int) := by
  obtain ⟨j, rfl⟩ : ∃ j : Nat, k = (j : Int) := ⟨k.toNat, by omega⟩
  exact Int.natCast_dvd_natCast.mpr (dvd_fac (by omega) (by omega))

/-! ### what the rest gives -/
section
variable {α : Type} {stp : α → Stp} {f : Stp → Int} {ps : List α} {b : Int} {S : List (Int × Int)}
/-- es: all steps; ps: those that one can come to -/
def Covers (es : List Stp) (b : Int) (ps : List α) (stp : α → Stp) : Prop := ∀ e : Stp, e ∈ ps.map stp ↔ (e ∈ es ∧ Reach es b e.s)
theorem Rest.keys {es : List Stp} (R : Rest ps b stp f S) (c : Covers es b ps stp) {v : Int} (h : Reach es b v) : dget S v ≠ none := by
  have key : dget S v ≠ none ∧ Reach es b v := Reach.ind (es := es) (u := b) (P := fun v => dget S v ≠ none ∧ Reach es b v) ⟨by rw [R.root]; simp, Reach.refl es b⟩ (fun e he hp => by
    obtain ⟨x, hx, ex⟩ := List.mem_map.mp ((c e).mpr ⟨he, hp.2⟩)
    cases hd : dget S e.s with
    | none => exact absurd hd hp.1
    | some d =>
      obtain ⟨dt, h1, _⟩ := R.feas x hx d (by rw [ex]; exact hd)
      rw [ex] at h1
      exact ⟨by rw [h1]; simp, Reach.step hp.2 he⟩) h
  exact key.1
theorem Rest.bound {es : List Stp} (R : Rest ps b stp f S) (c : Covers es b ps stp) {u v : Int} {w : List Stp} {du : Int} (hu : Reach es b u) (hdu : dget S u = some du) (hw : IsWalk u w v) (hi : Within es w) : ∃ dv, dget S v = some dv ∧ dv - du ≤ wsum f w := by
  have h5 := walk_pot (f := f) (g := fun v => (dget S v).getD 0) (P := fun v => dget S v ≠ none ∧ Reach es b v) hw ⟨by rw [hdu]; simp, hu⟩ (fun e he hp => by
    obtain ⟨x, hx, ex⟩ := List.mem_map.mp ((c e).mpr ⟨hi e he, hp.2⟩)
    cases hd : dget S e.s with
    | none => exact absurd hd hp.1
    | some d =>
      obtain ⟨dt, h6, h7⟩ := R.feas x hx d (by rw [ex]; exact hd)
      rw [ex] at h6 h7
      refine ⟨⟨by rw [h6]; simp, Reach.step hp.2 (hi e he)⟩, ?_⟩
      show (dget S e.t).getD 0 ≤ (some d).getD 0 + f e
      rw [h6]
      simpa using h7)
  obtain ⟨h6, h7, _⟩ := h5
  cases hd : dget S v with
  | none => exact absurd hd h7
  | some dv =>
    refine ⟨dv, rfl, ?_⟩
    have h6 : (dget S v).getD 0 ≤ (dget S u).getD 0 + wsum f w := h6
    rw [hd, hdu] at h6
    simp at h6
    omega
theorem Rest.ring_nonneg {es : List Stp} (R : Rest ps b stp f S) (c : Covers es b ps stp) {z : Int} {w : List Stp} (hz : Reach es b z) (hw : IsWalk z w z) (hi : Within es w) : 0 ≤ wsum f w := by
  cases hd : dget S z with
  | none => exact absurd hd (R.keys c hz)
  | some d =>
    obtain ⟨dv, h1, h2⟩ := R.bound c hz hd hw hi
    rw [hd] at h1
    cases h1
    omega
theorem Rest.best {es : List Stp} {p : Int × Int} {X : List Stp} (R : Rest ps b stp (wt p (rate p X)) S) (c : Covers es b ps stp) (hX : Ring es b X) : Best es b p X := ⟨hX, fun _ _ hz hw hi => R.ring_nonneg c hz hw hi⟩
/-- the least sum: no walk is cheaper, some simple walk is as cheap -/
theorem Rest.least {es : List Stp} (R : Rest ps b stp f S) (c : Covers es b ps stp) {m : Int} (hm : ∃ v, dget S v = some m) (hle : ∀ v d, dget S v = some d → m ≤ d) :
    (∀ v w, IsWalk b w v → Within es w → m ≤ wsum f w) ∧ (∃ v w, IsWalk b w v ∧ Within es w ∧ Simple b w ∧ wsum f w = m) ∧ m ≤ 0 := by
  have lo : ∀ v w, IsWalk b w v → Within es w → m ≤ wsum f w := fun v w hw hi => by
    obtain ⟨dv, h1, h2⟩ := R.bound c (Reach.refl es b) R.root hw hi
    have := hle v dv h1
    omega
  refine ⟨lo, ?_, hle b 0 R.root⟩
  obtain ⟨v, hv⟩ := hm
  obtain ⟨l, h1, h2, h3⟩ := R.att v m hv
  have h2' : Within es l := fun e he => ((c e).mp (h2 e he)).1
  obtain ⟨w', h4, h5, h6, h7⟩ := simple_of (es := es) (f := f) (u := b) (v := v) (fun z w hz hw hi => R.ring_nonneg c hz hw hi) l.length l (Nat.le_refl _) h1 h2'
  have := lo v w' h4 h5
  exact ⟨v, w', h4, h5, h6, by omega⟩
end
/-- the credit's pair bounds every walk -/
theorem credit_bound {m q L : Int} (hq : 0 < q) (hm : m ≤ L) : 0 - (low (0 - m) q).1 * q ≤ L * (low (0 - m) q).2 := by
  obtain ⟨h1, h2⟩ := low_spec (0 - m) q
  have h3 := low_pos (a := 0 - m) hq
  generalize low (0 - m) q = r at *
  generalize (Int.gcd (0 - m) q : Int) = g at *
  have h4 : m * r.2 ≤ L * r.2 := Int.mul_le_mul_of_nonneg_right hm (by omega)
  have h5 : r.1 * q = (0 - m) * r.2 := by
    conv => lhs; rw [h2]
    conv => rhs; rw [h1]
    rw [Int.mul_assoc, Int.mul_comm g r.2]
  rw [h5, Int.sub_mul, Int.zero_mul]
  omega
end AM
end
section
set_option autoImplicit false
namespace AM
/-! ### simple walks, met one by one -/
theorem nodes_src : ∀ {u v : Int} {w : List Stp}, IsWalk u w v → w.map (·.s) ++ [v] = nodes u w
  | u, v, [], h => by
    have e : u = v := h
    simp [nodes, e]
  | u, v, e :: r, h => by
    have ih := nodes_src (u := e.t) h.2
    unfold nodes at ih ⊢
    rw [List.map_cons, List.cons_append, ih, h.1, List.map_cons]
theorem Simple.snoc {u : Int} {w : List Stp} {e : Stp} (h : Simple u w) (n : e.t ∉ nodes u w) : Simple u (w ++ [e]) := by
  unfold Simple at *
  rw [nodes_snoc]
  exact nodup_snoc h n
theorem Simple.snoc_not {u : Int} {w r : List Stp} {e : Stp} (h : Simple u (w ++ e :: r)) : e.t ∉ nodes u w := by
  have h2 : Simple u ((w ++ [e]) ++ r) := by rw [List.append_assoc]; exact h
  have h3 := h2.left
  unfold Simple at h3
  rw [nodes_snoc] at h3
  exact fun hm => (List.nodup_append.mp h3).2.2 _ hm _ (by simp) rfl
theorem IsWalk.mid {u v z : Int} {w r : List Stp} {e : Stp} (h : IsWalk u (w ++ e :: r) v) (hw : IsWalk u w z) : e.s = z ∧ IsWalk e.t r v := by
  obtain ⟨z', h1, h2⟩ := h.split
  have e1 := h1.end_eq hw
  exact ⟨h2.1.trans e1, h2.2⟩
theorem len_nodes (u : Int) (w : List Stp) : (nodes u w).length = w.length + 1 := by simp [nodes]
/-- how many simple walks may still come from a walk that may grow by so many steps -/
def tw : Nat → Nat
  | 0 => 1
  | n + 1 => 1 + 14 * tw n
theorem tw_pos : ∀ n, 1 ≤ tw n
  | 0 => Nat.le_refl _
  | n + 1 => by unfold tw; omega
theorem tw_mono {m n : Nat} (h : m ≤ n) : tw m ≤ tw n := by
  induction n with
  | zero =>
    have e : m = 0 := by omega
    rw [e]
    exact Nat.le_refl _
  | succ n ih =>
    by_cases e : m = n + 1
    · rw [e]
      exact Nat.le_refl _
    · have := ih (by omega)
      have := tw_pos n
      show tw m ≤ 1 + 14 * tw n
      omega
theorem tw_step {k : Nat} (h : k ≤ 5) : 14 * tw (6 - (k + 1)) + 1 = tw (6 - k) := by
  rw [show 6 - k = (6 - (k + 1)) + 1 by omega]
  show _ = 1 + 14 * tw (6 - (k + 1))
  omega
theorem sum_le_mul {α : Type} {f : α → Nat} {B : Nat} : ∀ {l : List α}, (∀ x ∈ l, f x ≤ B) → (l.map f).sum ≤ l.length * B
  | [], _ => by simp
  | a :: l, h => by
    have h1 := h a (List.mem_cons_self ..)
    have h2 := sum_le_mul (f := f) (l := l) fun x hx => h x (List.mem_cons_of_mem _ hx)
    rw [List.map_cons, List.sum_cons, List.length_cons, Nat.succ_mul]
    omega
theorem len_le_sum {α : Type} {f : α → Nat} : ∀ {l : List α}, (∀ x ∈ l, 1 ≤ f x) → l.length ≤ (l.map f).sum
  | [], _ => by simp
  | a :: l, h => by
    have h1 := h a (List.mem_cons_self ..)
    have h2 := len_le_sum (f := f) (l := l) fun x hx => h x (List.mem_cons_of_mem _ hx)
    rw [List.map_cons, List.sum_cons, List.length_cons]
    omega
theorem sum_app {α : Type} (f : α → Nat) (a b : List α) : ((a ++ b).map f).sum = (a.map f).sum + (b.map f).sum := by simp [List.sum_append]
theorem tw_all : 14 * tw 5 + 1 ≤ 16000000 := by decide
end AM
end
section
set_option Elab.async false
set_option linter.all false
set_option maxRecDepth 100000
set_option maxHeartbeats 4000000
namespace Any
open PySem PySem.Spec PyProof.Rows L2
def top (i : Nat) : Stmt := PySem.Challenge.pw_anyaround_k05_whole_credits.main.body.getD i (.Pass ⟨0, 0, 0, 0⟩)
abbrev st_BadFraction_init : Stmt := inClass (top 3) 0
abbrev st_BadPrices_init : Stmt := inClass (top 4) 0
abbrev st_BadPlaces_init : Stmt := inClass (top 5) 0
abbrev st_BadSteps_init : Stmt := inClass (top 6) 0
abbrev st_BadPlace_init : Stmt := inClass (top 7) 0
abbrev st_is_list : Stmt := top 9
abbrev st_is_whole : Stmt := top 10
abbrev st_is_positive : Stmt := top 11
abbrev st_is_pair : Stmt := top 12
abbrev st_as_tuples : Stmt := top 13
abbrev st_first_bad : Stmt := top 14
abbrev st_lowest : Stmt := top 15
abbrev st_is_fraction : Stmt := top 16
abbrev st_checked_fraction : Stmt := top 17
abbrev st_is_prices : Stmt := top 18
abbrev st_checked_prices : Stmt := top 19
abbrev st_cost_of : Stmt := top 20
abbrev st_is_place : Stmt := top 22
abbrev st_is_step : Stmt := top 23
abbrev st_Web_init : Stmt := inClass (top 24) 0
abbrev st_Web_eq : Stmt := inClass (top 24) 3
abbrev st_sums_of : Stmt := top 25
abbrev st_check_place : Stmt := top 26
abbrev st_come_to : Stmt := top 27
abbrev st_steps_from : Stmt := top 28
abbrev st_weighed : Stmt := top 30
abbrev st_lowered : Stmt := top 31
abbrev st_ring_back : Stmt := top 32
abbrev st_ring_under : Stmt := top 33
abbrev st_rate_of : Stmt := top 34
abbrev st_some_ring : Stmt := top 35
abbrev st_ring_through : Stmt := top 36
abbrev st_cheapest_ring : Stmt := top 37
abbrev st_best_ring : Stmt := top 38
abbrev st_least_rate : Stmt := top 39
abbrev st_rate_at : Stmt := top 40
abbrev st_heights : Stmt := top 41
abbrev st_credit : Stmt := top 42
abbrev st_law_stream : Stmt := top 44
abbrev st_law_draw : Stmt := top 45
abbrev st_law_pick : Stmt := top 46
abbrev st_law_mixed : Stmt := top 47
abbrev st_law_same : Stmt := top 48
abbrev st_law_amounts : Stmt := top 50
abbrev st_law_step : Stmt := top 51
abbrev st_law_web : Stmt := top 52
abbrev st_law_reached : Stmt := top 53
abbrev st_law_ahead : Stmt := top 54
abbrev st_law_sum : Stmt := top 55
abbrev st_law_common : Stmt := top 56
abbrev st_law_low : Stmt := top 57
abbrev st_law_cost : Stmt := top 58
abbrev st_law_tried : Stmt := top 59
abbrev st_law_simple : Stmt := top 60
abbrev st_law_left : Stmt := top 61
abbrev st_law_long_walk : Stmt := top 62
abbrev st_law_place_right : Stmt := top 63
abbrev st_law : Stmt := top 64
def fdOf (K : PySem.W.Frag) (a : Addr) : FuncData := match K.lookup a with
  | some ⟨_, _, .func fd, _⟩ => fd
  | _ => ⟨"", "", default, .stmts [], default, 0, [], .none, .none, .none, .none, none, .none, .none, 0⟩
/-- a def of the top, as it stands -/
structure Def1 (K : PySem.W.Frag) (mg : Str → Option Value) (x : Str) (st : Stmt) (ps : List Str) : Prop where
  m : mg x = some (.ref (He.ga K x))
  F : FunD K x x (defArgs st) (defBody st) (defScope st) [] [] (He.ga K x) (fdOf K (He.ga K x))
  b : Binds K (fdOf K (He.ga K x)) ps []
/-- a method of the top's class C -/
structure DefM (K : PySem.W.Frag) (C m q : Str) (st : Stmt) (ps : List Str) : Prop where
  F : FunD K m q (defArgs st) (defBody st) (defScope st) [] [] (He.ma K (He.ga K C) m) (fdOf K (He.ma K (He.ga K C) m))
  b : Binds K (fdOf K (He.ma K (He.ga K C) m)) ps []
/-- what isinstance asks of an own class -/
structure WebTy (K : PySem.W.Frag) (C : Addr) : Prop where
  ha : PySem.W.findIn K (.ref C) "__class__" = some (some (.builtin "object.__class__"))
  hn : PySem.W.specialIn K (.builtin "object.__class__") "__get__" = some (some (.builtin "getset_descriptor.__get__"))
  htk : PySem.W.takesIn K (.builtin "object.__class__") = some true
  hm : PySem.W.mroIn K C (.type "object") = some true
  kl : PySem.W.kitOne K (.ref C) (.type "list") = some false
  kt : PySem.W.kitOne K (.ref C) (.type "tuple") = some false
  ki : PySem.W.kitOne K (.ref C) (.type "int") = some false
  kb : PySem.W.kitOne K (.ref C) (.type "bool") = some false
  kd : PySem.W.kitOne K (.ref C) (.type "dict") = some false
  kw : PySem.W.kitOne K (.ref C) (.ref C) = some true
structure Txt (K : PySem.W.Frag) (mg : Str → Option Value) : Prop where
  is_list : Def1 K mg "is_list" st_is_list ["thing"]
  is_whole : Def1 K mg "is_whole" st_is_whole ["thing"]
  is_positive : Def1 K mg "is_positive" st_is_positive ["thing"]
  is_pair : Def1 K mg "is_pair" st_is_pair ["thing"]
  as_tuples : Def1 K mg "as_tuples" st_as_tuples ["thing"]
  first_bad : Def1 K mg "first_bad" st_first_bad ["things", "is_right"]
  lowest : Def1 K mg "lowest" st_lowest ["top", "bottom"]
  is_fraction : Def1 K mg "is_fraction" st_is_fraction ["thing"]
  checked_fraction : Def1 K mg "checked_fraction" st_checked_fraction ["thing"]
  is_prices : Def1 K mg "is_prices" st_is_prices ["thing"]
  checked_prices : Def1 K mg "checked_prices" st_checked_prices ["thing"]
  cost_of : Def1 K mg "cost_of" st_cost_of ["prices", "amounts"]
  is_place : Def1 K mg "is_place" st_is_place ["thing", "places"]
  is_step : Def1 K mg "is_step" st_is_step ["thing", "places"]
  sums_of : Def1 K mg "sums_of" st_sums_of ["steps"]
  check_place : Def1 K mg "check_place" st_check_place ["web", "thing"]
  come_to : Def1 K mg "come_to" st_come_to ["steps", "first"]
  steps_from : Def1 K mg "steps_from" st_steps_from ["web", "place"]
  weighed : Def1 K mg "weighed" st_weighed ["steps", "prices", "rate"]
  lowered : Def1 K mg "lowered" st_lowered ["pairs", "places", "begin"]
  ring_back : Def1 K mg "ring_back" st_ring_back ["last", "changed", "places"]
  ring_under : Def1 K mg "ring_under" st_ring_under ["web", "place", "prices", "rate"]
  rate_of : Def1 K mg "rate_of" st_rate_of ["ring", "prices"]
  some_ring : Def1 K mg "some_ring" st_some_ring ["web", "place"]
  ring_through : Def1 K mg "ring_through" st_ring_through ["steps", "first"]
  cheapest_ring : Def1 K mg "cheapest_ring" st_cheapest_ring ["web", "place", "prices"]
  best_ring : Def1 K mg "best_ring" st_best_ring ["web", "place", "prices"]
  least_rate : Def1 K mg "least_rate" st_least_rate ["web", "place", "prices"]
  rate_at : Def1 K mg "rate_at" st_rate_at ["web", "place", "prices"]
  heights : Def1 K mg "heights" st_heights ["web", "place", "prices", "rate"]
  credit : Def1 K mg "credit" st_credit ["web", "place", "prices"]
  law_stream : Def1 K mg "_law_stream" st_law_stream ["_law_script"]
  law_draw : Def1 K mg "_law_draw" st_law_draw ["_law_stream_here", "_law_many"]
  law_pick : Def1 K mg "_law_pick" st_law_pick ["_law_stream_here", "_law_things"]
  law_mixed : Def1 K mg "_law_mixed" st_law_mixed ["_law_stream_here", "_law_things"]
  law_same : Def1 K mg "_law_same" st_law_same ["_law_found", "_law_due"]
  law_amounts : Def1 K mg "_law_amounts" st_law_amounts ["_law_stream_here", "_law_way"]
  law_step : Def1 K mg "_law_step" st_law_step ["_law_stream_here", "_law_one", "_law_other", "_law_way"]
  law_web : Def1 K mg "_law_web" st_law_web ["_law_stream_here", "_law_most", "_law_many"]
  law_reached : Def1 K mg "_law_reached" st_law_reached ["_law_steps", "_law_place"]
  law_ahead : Def1 K mg "_law_ahead" st_law_ahead ["_law_steps", "_law_place"]
  law_sum : Def1 K mg "_law_sum" st_law_sum ["_law_walk"]
  law_common : Def1 K mg "_law_common" st_law_common ["_law_one", "_law_other"]
  law_low : Def1 K mg "_law_low" st_law_low ["_law_numbers"]
  law_cost : Def1 K mg "_law_cost" st_law_cost ["_law_prices", "_law_amounts_here"]
  law_tried : Def1 K mg "_law_tried" st_law_tried ["_law_ask"]
  law_simple : Def1 K mg "_law_simple" st_law_simple ["_law_steps", "_law_begin"]
  law_left : Def1 K mg "_law_left" st_law_left ["_law_walk", "_law_prices", "_law_rate"]
  law_long_walk : Def1 K mg "_law_long_walk" st_law_long_walk ["_law_stream_here", "_law_steps", "_law_begin", "_law_many", "_law_lean"]
  law_place_right : Def1 K mg "_law_place_right" st_law_place_right ["_law_stream_here", "_law_web_here", "_law_steps", "_law_place"]
  law : Def1 K mg "law" st_law ["_law_script"]
  n_len : mg "len" = none
  n_isinstance : mg "isinstance" = none
  n_list : mg "list" = none
  n_tuple : mg "tuple" = none
  n_int : mg "int" = none
  n_bool : mg "bool" = none
  n_dict : mg "dict" = none
  n_enumerate : mg "enumerate" = none
  n_sorted : mg "sorted" = none
  n_sum : mg "sum" = none
  n_min : mg "min" = none
  n_range : mg "range" = none
  n_all : mg "all" = none
  n_zip : mg "zip" = none
  n_set : mg "set" = none
  n_abs : mg "abs" = none
  n_gcd : mg "gcd" = some (.builtin "math.gcd")
  c_AroundError : mg "AroundError" = some (.ref (He.ga K "AroundError"))
  c_BadFraction : mg "BadFraction" = some (.ref (He.ga K "BadFraction"))
  c_BadPrices : mg "BadPrices" = some (.ref (He.ga K "BadPrices"))
  c_BadPlaces : mg "BadPlaces" = some (.ref (He.ga K "BadPlaces"))
  c_BadSteps : mg "BadSteps" = some (.ref (He.ga K "BadSteps"))
  c_BadPlace : mg "BadPlace" = some (.ref (He.ga K "BadPlace"))
  c_Web : mg "Web" = some (.ref (He.ga K "Web"))
  webC : Cls K (He.ga K "Web")
  webP : NoAttr K (He.ga K "Web") "own_places"
  webS : NoAttr K (He.ga K "Web") "own_steps"
  webM : Mk K (He.ga K "Web") (He.ma K (He.ga K "Web") "__init__")
  webE : Meth K (He.ga K "Web") "__eq__" (He.ma K (He.ga K "Web") "__eq__")
  webT : WebTy K (He.ga K "Web")
  webI : DefM K "Web" "__init__" "Web.__init__" st_Web_init ["self", "places", "steps"]
  webQ : DefM K "Web" "__eq__" "Web.__eq__" st_Web_eq ["self", "other"]
  cdI : (fdOf K (He.ma K (He.ga K "Web") "__init__")).code = .ref (He.cT K ("Web", some "__init__")).1
  cdL : (fdOf K (He.ga K "law")).code = .ref (He.cT K ("law", none)).1
  tne : (He.cT K ("Web", some "__init__")).2 ≠ (He.cT K ("law", none)).2
  webF : PySem.W.isFn K (.ref (He.ma K (He.ga K "Web") "__eq__")) = true
  webG : PySem.W.findIn K (.ref (He.ga K "Web")) "__eq__" = some (some (.ref (He.ma K (He.ga K "Web") "__eq__")))
  o_BadPlace : OexC K (He.ga K "BadPlace")
  i_BadPlace : PySem.W.findIn K (.ref (He.ga K "BadPlace")) "__init__" = some (some (.ref (He.ma K (He.ga K "BadPlace") "__init__")))
  t_BadPlace : PySem.W.typeIn K (.ref (He.ma K (He.ga K "BadPlace") "__init__")) = some (.type "function")
  a_BadPlace : PySem.W.findIn K (.ref (He.ga K "BadPlace")) "place" = some none
  d_BadPlace : DefM K "BadPlace" "__init__" "BadPlace.__init__" st_BadPlace_init ["self", "place"]
  k_BadPlace : PySem.W.keepIn K (.ref (He.ga K "BadPlace")) = true
  x_BadPlace_BadPlace : PySem.W.exmOne K (.ref (He.ga K "BadPlace")) (.ref (He.ga K "BadPlace")) = some true
  x_BadPlace_BadPrices : PySem.W.exmOne K (.ref (He.ga K "BadPlace")) (.ref (He.ga K "BadPrices")) = some false
  o_BadPrices : OexC K (He.ga K "BadPrices")
  i_BadPrices : PySem.W.findIn K (.ref (He.ga K "BadPrices")) "__init__" = some (some (.ref (He.ma K (He.ga K "BadPrices") "__init__")))
  t_BadPrices : PySem.W.typeIn K (.ref (He.ma K (He.ga K "BadPrices") "__init__")) = some (.type "function")
  a_BadPrices : PySem.W.findIn K (.ref (He.ga K "BadPrices")) "thing" = some none
  d_BadPrices : DefM K "BadPrices" "__init__" "BadPrices.__init__" st_BadPrices_init ["self", "thing"]
  k_BadPrices : PySem.W.keepIn K (.ref (He.ga K "BadPrices")) = true
  x_BadPrices_BadPlace : PySem.W.exmOne K (.ref (He.ga K "BadPrices")) (.ref (He.ga K "BadPlace")) = some false
  x_BadPrices_BadPrices : PySem.W.exmOne K (.ref (He.ga K "BadPrices")) (.ref (He.ga K "BadPrices")) = some true
abbrev FnK (P : Program) (w : World) (K : PySem.W.Frag) (mg : Str → Option Value) (base : Heap) (CX : CXT) (k : Nat) (x : Str) (ps : List Str) (sp : Sp) : Prop := FnOk P w K mg base CX k (He.ga K x) (fdOf K (He.ga K x)) ps sp
section
variable {X : Cx} {CX : CXT} {j k : Nat} {x : Str} {st : Stmt} {ps : List Str} {sp : Sp} {E : XK} {t : TA} {p pos : Pos} {e : Expr} {es : List Expr}
/-- f(e, ..), f a def of the top -/
theorem pe_f (D : Def1 X.K X.mg x st ps) (G : FnK X.prog X.w X.K X.mg X.base CX k x ps sp) (hr : Room j X.A) (hx : Passes CX X E) (ha : PA X (e :: es) t) (hk : k ≤ j := by decide) (hg : Gl X x := by rfl)
    (hdb : (x == ("__debug__" : Str)) = false := by decide) (he : starEach (e :: es) X.env = (false, eval e X.env) :: starEach es X.env := by rfl) (hpl : (backTo pos (starEach es X.env)).any (·.1) = false := by rfl) :
    PE X (.Call (.Name x p) (e :: es) [] pos) (tCall sp [] E t) := pe_call G (hr.mono hk) hg D.m D.F.kp D.b .nil hx ha hdb he hpl
end
section
variable {P : Program} {w : World} {K : PySem.W.Frag} {mg : Str → Option Value} {base : Heap}
/-- a def by its body -/
theorem Def1.ok {CX : CXT} {x : Str} {st : Stmt} {ps N : List Str} {k : Nat} {sp : Sp} (D : Def1 K mg x st ps) (S : FnScope N ps (defScope st)) (len : ∀ vs H Q E, sp vs H Q E → vs.length = ps.length)
    (hbody : ∀ (cdv : Value) (A : Around) (outer : List Env) (s : Shared) (H : Hp) (vs : List V) (Q : VK) (E : XK), Room k (A.deeper (envOfC x (defScope st) s.heap.objs.size (He.ga K x) cdv)) → sp vs H Q E →
      ∃ t, PSs (cxOf CX P w K mg base N x (defScope st) (He.ga K x) cdv A outer s H E) (defBody st) t ∧ t { nx := fun _ H' => Q .non H', rt := Q } (start N vs) H) : FnK P w K mg base CX (k + 1) x ps sp := D.F.ok S len hbody
end
/-! ### heaps -/
theorem same_new {H : Hp} {p : Addr} (h : H p = none) (o : HO) : Same H (upd H p o) := fun b u q => by rw [upd_ne (ne_of_none q h)]; exact q
/-- what the ahead did not know may change -/
theorem Same.mut {H0 H : Hp} {p : Addr} {o : HO} (e : Same H0 H) (h : H0 p = none) : Same H0 (upd H p o) := fun a u ha => by
  rw [upd_ne (ne_of_none ha h)]
  exact e a u ha
theorem small_line {n : Nat} (h : n ≤ 1000000) : n ≤ sizeLine := Nat.le_trans h (by decide)
theorem small_lt {n : Nat} (h : n ≤ 1000000) : n < sizeLine := Nat.lt_of_le_of_lt h (by decide)
end Any
end
section
set_option Elab.async false
set_option linter.all false
set_option maxRecDepth 100000
set_option maxHeartbeats 4000000
namespace Any
open PySem PySem.Spec PyProof.Rows L2
/-! ### try with several clauses, each with the same name -/
/-- an end behind which slot i is forgotten -/
def unE (i : Nat) (D : Ends) : Ends := { nx := fun σ H => D.nx (σ.set i none) H, rt := D.rt, bk := fun σ H => D.bk (σ.set i none) H, ct := fun σ H => D.ct (σ.set i none) H }
abbrev Cl := Value × (Addr → Value → Option Addr → TS)
def wAsM (K : PySem.W.Frag) (Wo : WX) (D : Ends) (i : Nat) : List Cl → WX
  | [] => Wo
  | z :: r => fun cls d σ H => ∃ b, PySem.W.exmOne K cls z.1 = some b ∧ (b = true → ∀ a, H a = none → z.2 a cls d (unE i D) (σ.set i (some (.ref a))) H) ∧ (b = false → wAsM K Wo D i r cls d σ H)
inductive Clauses (X : Cx) (n : Str) : List ExceptHandler → List Cl → Prop
  | nil : Clauses X n [] []
  | cons {x : Str} {z : Cl} {s0 : Stmt} {ss : List Stmt} {np hp : Pos} {hs : List ExceptHandler} {l : List Cl} (nm : Names X x z.1)
      (su : ∀ (a : Addr) (oe : Obj) (cls : Value) (d : Option Addr) (pn : List (Addr × Obj)), Zc cls d oe → (∃ vs, oe.data = .fields vs) → PSs (X.suite a ((a, oe) :: pn)) (s0 :: ss) (z.2 a cls d)) (r : Clauses X n hs l) :
      Clauses X n (.ExceptHandler (some (.Name x np)) (some n) (s0 :: ss) hp :: hs) (z :: l)
section
variable {X : Cx} {n : Str} {i : Nat} {body : List Stmt} {h₀ : ExceptHandler} {hds : List ExceptHandler} {l : List Cl} {pos : Pos} {tb : WX → TS} {Wo : WX}
theorem ps_tryAs (hs : X.stack = X.env :: X.outer) (hf : X.env.frame = some X.env.locals) (hN : X.N.Nodup) (hi : X.N[i]? = some n) (hln : X.env.kindOf n = some .local) (tk : Takes X Wo)
    (hb : ∀ (W : WX) (pn : List (Addr × Obj)) (xe : Value → Shared → Prop), Takes (X.tr pn xe) W → PassesOwn (model X.prog X.w) X.A X.env xe → PSs (X.tr pn xe) body (tb W))
    (hh : Clauses X n (h₀ :: hds) l) : PS X (.Try body (h₀ :: hds) [] [] pos) (fun D σ H => tb (wAsM X.K Wo D i l) D σ H) := by
  constructor
  intro pins s σ H D I h
  have ok := I.ok
  have fr : X.A.frames = some (X.env :: X.outer) := by rw [ok.frames, hs]
  have lo : Loc X.env.scope n := .inl hln
  refine wpAny_Try_except (wpAny_mono ((hb (wAsM X.K Wo D i l) (X.pn ++ pins) (fun e s1 => wpAny (model X.prog X.w) X.A (noteFrame e X.env) (fun _ s2 => wpAny (model X.prog X.w) X.A (setFlight e none) (fun _ s3 =>
    wpAny (model X.prog X.w) X.A (handleBy e X.env (h₀ :: hds)) (SP X pins D) X.xe s3) X.xe s2) X.xe s1) (fun u s' xx => ?_) PassesOwn.looking).run [] s σ H D (I.toTry _) h) (fun f s1 q => ?_) (fun e s1 he => he))
  · have ⟨a, B, sI, pins', σ', H', cls, d, eu, J', nb, up, sky, na, os, ag, w⟩ := xx
    cases eu
    have J : Inv X pins σ' H' sI := J'.ofTry ok
    have sky2 : Sky B (X.env :: X.outer) a (Zc cls d) X.env.locals s'.heap := hs ▸ sky
    refine (show wpAny (model X.prog X.w) X.A (noteFrame (.ref a) X.env) _ _ _ from Sky.land Zc.steady fr hf sky2 fun h3 fl3 up3 => ?_)
    have J3 : Inv X pins σ' H' { s' with heap := h3 } := J.landed nb fl3.1 (up.trans up3) os ag
    have ⟨oe3, vs3, he3, hz3, hd3⟩ := fl3.there
    have off : a ∉ frs (X.env :: X.outer) := fun hm => by
      have ⟨_, o', e', hnf⟩ := fl3.2.2.1.mem hm
      rw [he3] at e'
      cases e'
      exact hnf _ hd3
    have nL : a ≠ X.env.locals := fun z => off (List.mem_filterMap.mpr ⟨X.env, List.mem_cons_self .., hf.trans (congrArg some z.symm)⟩)
    have nF : a ∉ X.fs := fun hm => by
      have ⟨e, he, q⟩ := List.mem_filterMap.mp hm
      exact off (List.mem_filterMap.mpr ⟨e, List.mem_cons_of_mem _ he, q⟩)
    have S3 := J3.suite he3 hd3 na nL nF
    have go : ∀ {hds' : List ExceptHandler} {l' : List Cl}, Clauses X n hds' l' → wAsM X.K Wo D i l' cls d σ' H' → wpAny (model X.prog X.w) X.A (handleBy (.ref a) X.env hds') (SP X pins D) X.xe { s' with heap := h3 } := fun {hds' l'} hk => by
      induction hk with
      | nil =>
        intro w
        have ⟨k1, k2, k3, oe, vs, T, oT, ts', he, hz, hd, h1, hr⟩ := fl3
        refine wpAny_handleBy_nil ?_
        unfold PySem.passOn
        refine wpAny_bind (wpAny_field he hd h1 ?_)
        rw [if_neg (show ¬ ((Value.ref T == Value.none) = true) from by simp)]
        have out : wpAny (model X.prog X.w) X.A (setFlight (.ref a) X.env.frame) (fun _ s4 => wpAny (model X.prog X.w) X.A (throw (.ref a) : Sem Flow) (SP X pins D) X.xe s4) X.xe { s' with heap := h3 } := by
          rw [hf]
          exact HandSPX.setFlight_upZ fl3 fun h4 hh4 up4 => wpAny_throw (tk _ _ ⟨a, B, sI, pins, σ', H', cls, d, rfl, J, nb, (up.trans up3).trans up4, .inr (.inr (hs ▸ hh4)), na, os, ag, w⟩)
        first | exact wpAny_bind (wpAny_pure (wpAny_bind out)) | exact wpAny_bind out
      | @cons x z s0 ss np hp hds2 l2 nm su r ih =>
        intro w
        have ⟨b, hb1, yes, no⟩ := w
        refine wpAny_handleBy_cons (codeAny_handlers_test ?_) (fun q => by cases q)
        have LT : PySem.W.Looks (model X.prog X.w) h3 (typeOf (.ref a)) cls := fun A Q E s k q => wpAny_typeOf_ref (k _ _ he3) (hz3.1.symm ▸ q)
        have LM := PySem.W.exm_one (M := model X.prog X.w) J3.kIn LT hb1
        have test : ∀ {Q : Value → Shared → Prop} {E : Value → Shared → Prop}, Q z.1 { s' with heap := h3 } → wpAny (model X.prog X.w) (X.A.mark (some (.ref a))) (eval (.Name x np) X.env) Q E { s' with heap := h3 } := fun {Q E} q => by
          have ⟨hg, hdbg, c⟩ := nm
          rcases c with hm | ⟨hm, hv, hnn⟩
          · exact ld_glob (X := X.suite a ((a, oe3) :: (X.pn ++ pins))) S3 hg hm q hdbg
          · exact ld_blt (X := X.suite a ((a, oe3) :: (X.pn ++ pins))) S3 hg hm hv q hnn hdbg
        refine test (LM.here ?_)
        cases b with
        | false => exact (show wpAny _ X.A (handleBy (.ref a) X.env hds2) _ _ _ from ih (no rfl))
        | true =>
          refine codeAny_handlers_suite_as (HandSPX.lands_againZ fl3 fun h4 fl4 up4 => ?_)
          have J4 : Inv X pins σ' H' { s' with heap := h4 } := J.landed nb fl4.1 ((up.trans up3).trans up4) os ag
          have ⟨oe4, vs4, he4, hz4, hd4⟩ := fl4.there
          refine store_ok (X := X.suite a ((a, oe4) :: (X.pn ++ pins))) (v := .ref a) (J4.suite he4 hd4 na nL nF) hN hi lo rfl (fun s5 S5 => ?_) (.inr hln)
          refine wpAny_mono ((su a oe4 cls d (X.pn ++ pins) hz4 ⟨_, hd4⟩).run [] s5 _ H' _ S5 (yes rfl a na)) (fun f s6 q => ?_) (fun _ _ z => False.elim z)
          have leave : ∀ {σ6 : L2.St} {H6 : Hp} {Q : Shared → Prop}, Inv (X.suite a ((a, oe4) :: (X.pn ++ pins))) [] σ6 H6 s6 → (∀ s7, Inv X pins (σ6.set i none) H6 s7 → Q s7) →
              wpAny (model X.prog X.w) X.A (do bindName X.env n .none; unbindBehindTheSuite X.env n hp) (fun _ s7 => Q s7) X.xe s6 := fun {σ6 H6 Q} S6 hq => gone_ok (S6.unsuite ok) hN hi hln hq
          cases f with
          | ret u =>
            have ⟨v6, σ6, H6, S6, r6, q6⟩ := q
            exact leave S6 fun s7 J7 => ⟨v6, _, H6, J7, r6, q6⟩
          | next =>
            have ⟨σ6, H6, S6, q6⟩ := q
            exact leave S6 fun s7 J7 => ⟨_, H6, J7, q6⟩
          | brk =>
            have ⟨σ6, H6, S6, q6⟩ := q
            exact leave S6 fun s7 J7 => ⟨_, H6, J7, q6⟩
          | cont =>
            have ⟨σ6, H6, S6, q6⟩ := q
            exact leave S6 fun s7 J7 => ⟨_, H6, J7, q6⟩
    exact go hh w
  · cases f with
    | ret u =>
      have ⟨v, σ', H', J', r, q⟩ := q
      exact ⟨v, σ', H', J'.ofTry ok, r, q⟩
    | next =>
      have ⟨σ', H', J', q⟩ := q
      exact wpAny_execs_nil ⟨σ', H', J'.ofTry ok, q⟩
    | brk =>
      have ⟨σ', H', J', q⟩ := q
      exact ⟨σ', H', J'.ofTry ok, q⟩
    | cont =>
      have ⟨σ', H', J', q⟩ := q
      exact ⟨σ', H', J'.ofTry ok, q⟩
end
end Any
end
section
set_option Elab.async false
set_option linter.all false
set_option maxRecDepth 100000
set_option maxHeartbeats 4000000
namespace Any
open PySem PySem.Spec PyProof.Rows L2
def d_BadFraction_init : He.DefD := ⟨("BadFraction", some "__init__"), "__init__", "BadFraction.__init__", defArgs st_BadFraction_init, defBody st_BadFraction_init, defScope st_BadFraction_init, [], []⟩
def d_BadPrices_init : He.DefD := ⟨("BadPrices", some "__init__"), "__init__", "BadPrices.__init__", defArgs st_BadPrices_init, defBody st_BadPrices_init, defScope st_BadPrices_init, [], []⟩
def d_BadPlaces_init : He.DefD := ⟨("BadPlaces", some "__init__"), "__init__", "BadPlaces.__init__", defArgs st_BadPlaces_init, defBody st_BadPlaces_init, defScope st_BadPlaces_init, [], []⟩
def d_BadSteps_init : He.DefD := ⟨("BadSteps", some "__init__"), "__init__", "BadSteps.__init__", defArgs st_BadSteps_init, defBody st_BadSteps_init, defScope st_BadSteps_init, [], []⟩
def d_BadPlace_init : He.DefD := ⟨("BadPlace", some "__init__"), "__init__", "BadPlace.__init__", defArgs st_BadPlace_init, defBody st_BadPlace_init, defScope st_BadPlace_init, [], []⟩
def d_is_list : He.DefD := ⟨("is_list", none), "is_list", "is_list", defArgs st_is_list, defBody st_is_list, defScope st_is_list, [], []⟩
def d_is_whole : He.DefD := ⟨("is_whole", none), "is_whole", "is_whole", defArgs st_is_whole, defBody st_is_whole, defScope st_is_whole, [], []⟩
def d_is_positive : He.DefD := ⟨("is_positive", none), "is_positive", "is_positive", defArgs st_is_positive, defBody st_is_positive, defScope st_is_positive, [], []⟩
def d_is_pair : He.DefD := ⟨("is_pair", none), "is_pair", "is_pair", defArgs st_is_pair, defBody st_is_pair, defScope st_is_pair, [], []⟩
def d_as_tuples : He.DefD := ⟨("as_tuples", none), "as_tuples", "as_tuples", defArgs st_as_tuples, defBody st_as_tuples, defScope st_as_tuples, [], []⟩
def d_first_bad : He.DefD := ⟨("first_bad", none), "first_bad", "first_bad", defArgs st_first_bad, defBody st_first_bad, defScope st_first_bad, [], []⟩
def d_lowest : He.DefD := ⟨("lowest", none), "lowest", "lowest", defArgs st_lowest, defBody st_lowest, defScope st_lowest, [], []⟩
def d_is_fraction : He.DefD := ⟨("is_fraction", none), "is_fraction", "is_fraction", defArgs st_is_fraction, defBody st_is_fraction, defScope st_is_fraction, [], []⟩
def d_checked_fraction : He.DefD := ⟨("checked_fraction", none), "checked_fraction", "checked_fraction", defArgs st_checked_fraction, defBody st_checked_fraction, defScope st_checked_fraction, [], []⟩
def d_is_prices : He.DefD := ⟨("is_prices", none), "is_prices", "is_prices", defArgs st_is_prices, defBody st_is_prices, defScope st_is_prices, [], []⟩
def d_checked_prices : He.DefD := ⟨("checked_prices", none), "checked_prices", "checked_prices", defArgs st_checked_prices, defBody st_checked_prices, defScope st_checked_prices, [], []⟩
def d_cost_of : He.DefD := ⟨("cost_of", none), "cost_of", "cost_of", defArgs st_cost_of, defBody st_cost_of, defScope st_cost_of, [], []⟩
def d_is_place : He.DefD := ⟨("is_place", none), "is_place", "is_place", defArgs st_is_place, defBody st_is_place, defScope st_is_place, [], []⟩
def d_is_step : He.DefD := ⟨("is_step", none), "is_step", "is_step", defArgs st_is_step, defBody st_is_step, defScope st_is_step, [], []⟩
def d_Web_init : He.DefD := ⟨("Web", some "__init__"), "__init__", "Web.__init__", defArgs st_Web_init, defBody st_Web_init, defScope st_Web_init, [], []⟩
def d_Web_eq : He.DefD := ⟨("Web", some "__eq__"), "__eq__", "Web.__eq__", defArgs st_Web_eq, defBody st_Web_eq, defScope st_Web_eq, [], []⟩
def d_sums_of : He.DefD := ⟨("sums_of", none), "sums_of", "sums_of", defArgs st_sums_of, defBody st_sums_of, defScope st_sums_of, [], []⟩
def d_check_place : He.DefD := ⟨("check_place", none), "check_place", "check_place", defArgs st_check_place, defBody st_check_place, defScope st_check_place, [], []⟩
def d_come_to : He.DefD := ⟨("come_to", none), "come_to", "come_to", defArgs st_come_to, defBody st_come_to, defScope st_come_to, [], []⟩
def d_steps_from : He.DefD := ⟨("steps_from", none), "steps_from", "steps_from", defArgs st_steps_from, defBody st_steps_from, defScope st_steps_from, [], []⟩
def d_weighed : He.DefD := ⟨("weighed", none), "weighed", "weighed", defArgs st_weighed, defBody st_weighed, defScope st_weighed, [], []⟩
def d_lowered : He.DefD := ⟨("lowered", none), "lowered", "lowered", defArgs st_lowered, defBody st_lowered, defScope st_lowered, [], []⟩
def d_ring_back : He.DefD := ⟨("ring_back", none), "ring_back", "ring_back", defArgs st_ring_back, defBody st_ring_back, defScope st_ring_back, [], []⟩
def d_ring_under : He.DefD := ⟨("ring_under", none), "ring_under", "ring_under", defArgs st_ring_under, defBody st_ring_under, defScope st_ring_under, [], []⟩
def d_rate_of : He.DefD := ⟨("rate_of", none), "rate_of", "rate_of", defArgs st_rate_of, defBody st_rate_of, defScope st_rate_of, [], []⟩
def d_some_ring : He.DefD := ⟨("some_ring", none), "some_ring", "some_ring", defArgs st_some_ring, defBody st_some_ring, defScope st_some_ring, [], []⟩
def d_ring_through : He.DefD := ⟨("ring_through", none), "ring_through", "ring_through", defArgs st_ring_through, defBody st_ring_through, defScope st_ring_through, [], []⟩
def d_cheapest_ring : He.DefD := ⟨("cheapest_ring", none), "cheapest_ring", "cheapest_ring", defArgs st_cheapest_ring, defBody st_cheapest_ring, defScope st_cheapest_ring, [], []⟩
def d_best_ring : He.DefD := ⟨("best_ring", none), "best_ring", "best_ring", defArgs st_best_ring, defBody st_best_ring, defScope st_best_ring, [], []⟩
def d_least_rate : He.DefD := ⟨("least_rate", none), "least_rate", "least_rate", defArgs st_least_rate, defBody st_least_rate, defScope st_least_rate, [], []⟩
def d_rate_at : He.DefD := ⟨("rate_at", none), "rate_at", "rate_at", defArgs st_rate_at, defBody st_rate_at, defScope st_rate_at, [], []⟩
def d_heights : He.DefD := ⟨("heights", none), "heights", "heights", defArgs st_heights, defBody st_heights, defScope st_heights, [], []⟩
def d_credit : He.DefD := ⟨("credit", none), "credit", "credit", defArgs st_credit, defBody st_credit, defScope st_credit, [], []⟩
def d_law_stream : He.DefD := ⟨("_law_stream", none), "_law_stream", "_law_stream", defArgs st_law_stream, defBody st_law_stream, defScope st_law_stream, [], []⟩
def d_law_draw : He.DefD := ⟨("_law_draw", none), "_law_draw", "_law_draw", defArgs st_law_draw, defBody st_law_draw, defScope st_law_draw, [], []⟩
def d_law_pick : He.DefD := ⟨("_law_pick", none), "_law_pick", "_law_pick", defArgs st_law_pick, defBody st_law_pick, defScope st_law_pick, [], []⟩
def d_law_mixed : He.DefD := ⟨("_law_mixed", none), "_law_mixed", "_law_mixed", defArgs st_law_mixed, defBody st_law_mixed, defScope st_law_mixed, [], []⟩
def d_law_same : He.DefD := ⟨("_law_same", none), "_law_same", "_law_same", defArgs st_law_same, defBody st_law_same, defScope st_law_same, [], []⟩
def d_law_amounts : He.DefD := ⟨("_law_amounts", none), "_law_amounts", "_law_amounts", defArgs st_law_amounts, defBody st_law_amounts, defScope st_law_amounts, [], []⟩
def d_law_step : He.DefD := ⟨("_law_step", none), "_law_step", "_law_step", defArgs st_law_step, defBody st_law_step, defScope st_law_step, [], []⟩
def d_law_web : He.DefD := ⟨("_law_web", none), "_law_web", "_law_web", defArgs st_law_web, defBody st_law_web, defScope st_law_web, [], []⟩
def d_law_reached : He.DefD := ⟨("_law_reached", none), "_law_reached", "_law_reached", defArgs st_law_reached, defBody st_law_reached, defScope st_law_reached, [], []⟩
def d_law_ahead : He.DefD := ⟨("_law_ahead", none), "_law_ahead", "_law_ahead", defArgs st_law_ahead, defBody st_law_ahead, defScope st_law_ahead, [], []⟩
def d_law_sum : He.DefD := ⟨("_law_sum", none), "_law_sum", "_law_sum", defArgs st_law_sum, defBody st_law_sum, defScope st_law_sum, [], []⟩
def d_law_common : He.DefD := ⟨("_law_common", none), "_law_common", "_law_common", defArgs st_law_common, defBody st_law_common, defScope st_law_common, [], []⟩
def d_law_low : He.DefD := ⟨("_law_low", none), "_law_low", "_law_low", defArgs st_law_low, defBody st_law_low, defScope st_law_low, [], []⟩
def d_law_cost : He.DefD := ⟨("_law_cost", none), "_law_cost", "_law_cost", defArgs st_law_cost, defBody st_law_cost, defScope st_law_cost, [], []⟩
def d_law_tried : He.DefD := ⟨("_law_tried", none), "_law_tried", "_law_tried", defArgs st_law_tried, defBody st_law_tried, defScope st_law_tried, [], []⟩
def d_law_simple : He.DefD := ⟨("_law_simple", none), "_law_simple", "_law_simple", defArgs st_law_simple, defBody st_law_simple, defScope st_law_simple, [], []⟩
def d_law_left : He.DefD := ⟨("_law_left", none), "_law_left", "_law_left", defArgs st_law_left, defBody st_law_left, defScope st_law_left, [], []⟩
def d_law_long_walk : He.DefD := ⟨("_law_long_walk", none), "_law_long_walk", "_law_long_walk", defArgs st_law_long_walk, defBody st_law_long_walk, defScope st_law_long_walk, [], []⟩
def d_law_place_right : He.DefD := ⟨("_law_place_right", none), "_law_place_right", "_law_place_right", defArgs st_law_place_right, defBody st_law_place_right, defScope st_law_place_right, [], []⟩
def d_law : He.DefD := ⟨("law", none), "law", "law", defArgs st_law, defBody st_law, defScope st_law, [], []⟩
def fnl : List He.DefD := [d_BadFraction_init, d_BadPrices_init, d_BadPlaces_init, d_BadSteps_init, d_BadPlace_init, d_is_list, d_is_whole, d_is_positive, d_is_pair, d_as_tuples, d_first_bad, d_lowest, d_is_fraction, d_checked_fraction, d_is_prices, d_checked_prices, d_cost_of, d_is_place, d_is_step, d_Web_init, d_Web_eq, d_sums_of, d_check_place, d_come_to, d_steps_from, d_weighed, d_lowered, d_ring_back, d_ring_under, d_rate_of, d_some_ring, d_ring_through, d_cheapest_ring, d_best_ring, d_least_rate, d_rate_at, d_heights, d_credit, d_law_stream, d_law_draw, d_law_pick, d_law_mixed, d_law_same, d_law_amounts, d_law_step, d_law_web, d_law_reached, d_law_ahead, d_law_sum, d_law_common, d_law_low, d_law_cost, d_law_tried, d_law_simple, d_law_left, d_law_long_walk, d_law_place_right, d_law]
def fal : List He.Fa := [.glo "is_list",
  .glo "is_whole",
  .glo "is_positive",
  .glo "is_pair",
  .glo "as_tuples",
  .glo "first_bad",
  .glo "lowest",
  .glo "is_fraction",
  .glo "checked_fraction",
  .glo "is_prices",
  .glo "checked_prices",
  .glo "cost_of",
  .glo "is_place",
  .glo "is_step",
  .glo "sums_of",
  .glo "check_place",
  .glo "come_to",
  .glo "steps_from",
  .glo "weighed",
  .glo "lowered",
  .glo "ring_back",
  .glo "ring_under",
  .glo "rate_of",
  .glo "some_ring",
  .glo "ring_through",
  .glo "cheapest_ring",
  .glo "best_ring",
  .glo "least_rate",
  .glo "rate_at",
  .glo "heights",
  .glo "credit",
  .glo "_law_stream",
  .glo "_law_draw",
  .glo "_law_pick",
  .glo "_law_mixed",
  .glo "_law_same",
  .glo "_law_amounts",
  .glo "_law_step",
  .glo "_law_web",
  .glo "_law_reached",
  .glo "_law_ahead",
  .glo "_law_sum",
  .glo "_law_common",
  .glo "_law_low",
  .glo "_law_cost",
  .glo "_law_tried",
  .glo "_law_simple",
  .glo "_law_left",
  .glo "_law_long_walk",
  .glo "_law_place_right",
  .glo "law",
  .glo "AroundError",
  .glo "BadFraction",
  .glo "BadPrices",
  .glo "BadPlaces",
  .glo "BadSteps",
  .glo "BadPlace",
  .glo "Web",
  .free "len",
  .free "isinstance",
  .free "list",
  .free "tuple",
  .free "int",
  .free "bool",
  .free "dict",
  .free "enumerate",
  .free "sorted",
  .free "sum",
  .free "min",
  .free "range",
  .free "all",
  .free "zip",
  .free "set",
  .free "abs",
  .cls "Web",
  .noat "Web" "own_places",
  .noat "Web" "own_steps",
  .mkr "Web",
  .meth "Web" "__eq__",
  .exm "BadPlace" "BadPlace" true,
  .exm "BadPlace" "BadPrices" false,
  .exm "BadPrices" "BadPlace" false,
  .exm "BadPrices" "BadPrices" true,
  .noat "BadPlace" "place",
  .noat "BadPrices" "thing",
  .keep "BadPlace",
  .keep "BadPrices"]
def loose0 : List PySem.Str := ["AroundError", "BadFraction", "BadPrices", "BadPlaces", "BadSteps", "BadPlace", "is_list", "is_whole", "is_positive", "is_pair", "as_tuples", "first_bad", "lowest", "is_fraction", "checked_fraction", "is_prices", "checked_prices", "cost_of", "is_place", "is_step"]
def loose1 : List PySem.Str := ["Web", "sums_of", "check_place", "come_to", "steps_from", "weighed", "lowered", "ring_back", "ring_under", "rate_of", "some_ring", "ring_through", "cheapest_ring", "best_ring", "least_rate", "rate_at", "heights", "credit", "_law_stream", "_law_draw"]
def loose2 : List PySem.Str := ["_law_pick", "_law_mixed", "_law_same", "_law_loose", "_law_amounts", "_law_step", "_law_web", "_law_reached", "_law_ahead", "_law_sum", "_law_common", "_law_low", "_law_cost", "_law_tried", "_law_simple", "_law_left", "_law_long_walk", "_law_place_right"]
def looseA : List PySem.Str := loose0 ++ loose1 ++ loose2
theorem fdOf_eq {K : PySem.W.Frag} {x qual : Str} {params : Arguments} {body : List Stmt} {scope : Scope} {dvs : List V} {kws : List (Str × V)} {f : Addr} {fd : FuncData} (F : FunD K x qual params body scope dvs kws f fd) : fdOf K f = fd := by
  obtain ⟨oc, od, dV, kV, doc, pm, an, cdv, ct, osl, rfl, lk, _⟩ := F.ex
  unfold fdOf
  rw [lk]
def oexB (K : PySem.W.Frag) (C : Addr) : Bool := (match K.lookup C with
  | some ⟨.type t, _, .cls cd, sl⟩ => (match cd.mro, sl.toList with
    | .ref C' :: bm, [_, _, _, _, some (.builtin n), _] => decide (t = "type") && (decide (C' = C) && (decide (n = "ValueError.__new__") && (!cd.hasDel && (cd.hasDict && PySem.HandSPX.refsVE bm))))
    | _, _ => false)
  | _ => false) && (He.eqO (PySem.W.findIn K (.ref C) "__setattr__") (some (some (.builtin "object.__setattr__"))) && (decide (PySem.W.subIn K (.ref C) (.type "BaseException") = some true) && (decide (PySem.W.typeIn K (.ref C) = some (.type "type")) && PySem.W.keepIn K (.ref C))))
theorem oexB_ok {K : PySem.W.Frag} {C : Addr} (h : oexB K C = true) : OexC K C := by
  obtain ⟨h1, h2⟩ := He.ba h
  obtain ⟨h3, h4⟩ := He.ba h2
  obtain ⟨h5, h6⟩ := He.ba h4
  obtain ⟨h7, h8⟩ := He.ba h6
  refine ⟨?_, He.eqO_ok h3, of_decide_eq_true h5, of_decide_eq_true h7, h8⟩
  split at h1
  · rename_i t dd cd sl ho
    split at h1
    · rename_i C' bm k0 k1 k2 k3 n k5 hm hs
      obtain ⟨g1, g⟩ := He.ba h1
      obtain ⟨g2, g⟩ := He.ba g
      obtain ⟨g3, g⟩ := He.ba g
      obtain ⟨g4, g⟩ := He.ba g
      obtain ⟨g5, g6⟩ := He.ba g
      obtain rfl := of_decide_eq_true g1
      obtain rfl := of_decide_eq_true g2
      obtain rfl := of_decide_eq_true g3
      obtain ⟨nm, bs, mro, ns, qn, hd, sn, sub, ab, col, del⟩ := cd
      have hm : mro = .ref C' :: bm := hm
      have g4 : (!del) = true := g4
      have g5 : hd = true := g5
      subst hm g5
      cases del with
      | true => cases g4
      | false =>
        obtain ⟨l⟩ := sl
        have hs : l = [k0, k1, k2, k3, some (.builtin "ValueError.__new__"), k5] := hs
        subst hs
        exact ⟨nm, qn, ns, bs, bm, sn, sub, ab, col, dd, k0, k1, k2, k3, k5, ho, g6⟩
    · cases h1
  · cases h1
def fnB (K : PySem.W.Frag) (a : Addr) : Bool := match K.lookup a with
  | some o => decide (o.cls = .type "function")
  | none => false
theorem fnB_ok {K : PySem.W.Frag} {a : Addr} (h : fnB K a = true) : ∃ o, K.lookup a = some o ∧ o.cls = .type "function" := by
  unfold fnB at h
  cases e : K.lookup a with
  | none =>
    rw [e] at h
    cases h
  | some o =>
    rw [e] at h
    exact ⟨o, rfl, of_decide_eq_true h⟩
def exl (K : PySem.W.Frag) : List Bool := [He.eqO (PySem.W.nsIn K mainGlobals "gcd") (some (some (.builtin "math.gcd"))),
  He.eqO (PySem.W.findIn K (.ref (He.ga K "Web")) "__class__") (some (some (.builtin "object.__class__"))),
  He.eqO (PySem.W.specialIn K (.builtin "object.__class__") "__get__") (some (some (.builtin "getset_descriptor.__get__"))),
  decide (PySem.W.takesIn K (.builtin "object.__class__") = some true),
  decide (PySem.W.mroIn K (He.ga K "Web") (.type "object") = some true),
  decide (PySem.W.kitOne K (.ref (He.ga K "Web")) (.type "list") = some false),
  decide (PySem.W.kitOne K (.ref (He.ga K "Web")) (.type "tuple") = some false),
  decide (PySem.W.kitOne K (.ref (He.ga K "Web")) (.type "int") = some false),
  decide (PySem.W.kitOne K (.ref (He.ga K "Web")) (.type "bool") = some false),
  decide (PySem.W.kitOne K (.ref (He.ga K "Web")) (.type "dict") = some false),
  decide (PySem.W.kitOne K (.ref (He.ga K "Web")) (.ref (He.ga K "Web")) = some true),
  decide ((He.cT K ("Web", some "__init__")).2 ≠ (He.cT K ("law", none)).2),
  PySem.W.isFn K (.ref (He.ma K (He.ga K "Web") "__eq__")),
  He.eqO (PySem.W.findIn K (.ref (He.ga K "Web")) "__eq__") (some (some (.ref (He.ma K (He.ga K "Web") "__eq__")))),
  oexB K (He.ga K "BadPlace"),
  He.eqO (PySem.W.findIn K (.ref (He.ga K "BadPlace")) "__init__") (some (some (.ref (He.ma K (He.ga K "BadPlace") "__init__")))),
  decide (PySem.W.typeIn K (.ref (He.ma K (He.ga K "BadPlace") "__init__")) = some (.type "function")),
  xfB K (He.ga K "BadPlace"),
  oexB K (He.ga K "BadPrices"),
  He.eqO (PySem.W.findIn K (.ref (He.ga K "BadPrices")) "__init__") (some (some (.ref (He.ma K (He.ga K "BadPrices") "__init__")))),
  decide (PySem.W.typeIn K (.ref (He.ma K (He.ga K "BadPrices") "__init__")) = some (.type "function")),
  xfB K (He.ga K "BadPrices"),
  fnB K (He.ga K "_law_draw")]
def ex (K : PySem.W.Frag) : Bool := (exl K).all fun b => b
theorem ex_at {K : PySem.W.Frag} (h : ex K = true) (i : Nat) {b : Bool} (e : (exl K)[i]? = some b := by rfl) : b = true := List.all_eq_true.mp h b (List.mem_of_getElem? e)
def tf : List He.Defn := [("Web", some "__init__"), ("law", none)]
abbrev hk : PySem.W.Hook := He.hookX 5 fal fnl [] tf ex
end Any
end
section
set_option Elab.async false
set_option linter.all false
set_option maxRecDepth 100000
set_option maxHeartbeats 0
namespace Any
open PySem PySem.Spec PyProof.Rows L2
abbrev R : PySem.W.OpenRow := PySem.W.OpenLaw.row PySem.Challenge.rw_anyaround_k05_whole_credits
def ob (s : PySem.W.SharedT) : He.AlX := He.obsX 5 fal fnl [] tf ex (HandSHeadRun.getT s)
theorem ob_eq (s : PySem.W.SharedT) : ob s = hk.obs s.abs := He.obsX_eq (HandSHeadRun.getT_eq s)
theorem run (w : World) : HandSHeadRun.RunEqI R (PySem.W.view R.prog [0, 64]) hk ob 60000 looseA w := by
  unfold HandSHeadRun.RunEqI
  kernel_rfl
end Any
end
section
set_option Elab.async false
set_option linter.all false
set_option maxRecDepth 100000
set_option maxHeartbeats 4000000
namespace Any
open PySem PySem.Spec PyProof.Rows L2
open PySem.W (KitX KitAt kitx_of kitAt_ty)
/-! ### functions as values: their class, == -/
theorem fnSlotEq : Slot "function" (cmpInfo .Eq).2.1 "object.__eq__" := .of (owner := "object") (n := "__eq__")
  (by rw [typeLookup_type, builtinLookup_eq_fast]; kernel_rfl) (by decide +kernel) (by decide +kernel) (by decide +kernel) (by first | exact .inl (by decide +kernel) | exact .inr (by decide +kernel)) (by rw [isSubtype_type]; kernel_rfl)
theorem fnSlotGa : Slot "function" "__getattribute__" "object.__getattribute__" := .of (owner := "object") (n := "__getattribute__")
  (by rw [typeLookup_type, builtinLookup_eq_fast]; kernel_rfl) (by decide +kernel) (by decide +kernel) (by decide +kernel) (by first | exact .inl (by decide +kernel) | exact .inr (by decide +kernel)) (by rw [isSubtype_type]; kernel_rfl)
theorem fnLk : typeLookup (.type "function") "__class__" = pure (some (.builtin "object.__class__")) := by rw [typeLookup_type, builtinLookup_eq_fast] <;> kernel_rfl
theorem fnSub : isSubtype (.type "function") (.type (".".intercalate ("object.__class__".cutAt '.').dropLast)) = pure true := by rw [F.owner_object_class, isSubtype_type] <;> kernel_rfl
section
variable {prog : Program} {w : World} {A : Around} {E : Value → Shared → Prop} {h : Heap} {g : Array GenState} {d : Drawn} {t : Nat} {os : OsState} {a : Addr} {o : Obj}
theorem fnGet {R : Result → Shared → Prop} (e : h.get? a = some o) (c : o.cls = .type "function") (q : R (.ok (.ret (.type "function"))) ⟨h, g, d, t, os⟩) :
    codeAny (model prog w) A (.call (.builtin "getset_descriptor.__get__") ⟨[.builtin "object.__class__", .ref a, .type "function"], []⟩) R ⟨h, g, d, t, os⟩ := by
  have i1 : (⟨h, g, d, t, os⟩ : Shared).TypeIs (.ref a) "function" := ⟨_, e, c⟩
  have i2 : Shared.TypeIs ⟨h, g, d, t, os⟩ (.builtin "object.__class__") "getset_descriptor" := F.typeOf_object_class
  have i3 := fnSub
  refine codeAny_call_builtin F.slot_gs_get.plain F.entry_gs_get (F.slot_gs_get.check _ _ _ _ _ _ _ _ i2 (F.args_gs_get _ _ _) ?_)
  repeat any_goals (first | assumption | wp_step)
  refine ⟨Code.quiet_builtin _ (by decide +kernel), codeAny_builtin F.entry_object_class ?_⟩
  repeat any_goals (first | assumption | wp_step)
theorem fnEntry {tk : Tok} {Q : Fin → Shared → Prop} (e : h.get? a = some o) (c : o.cls = .type "function") (q : Q (.done (.ret (.type "function"))) ⟨h, g, d, t, os⟩) :
    wpAny (model prog w) A (Builtin.«object.__getattribute__» ⟨[.ref a, .str "__class__" tk], []⟩) Q E ⟨h, g, d, t, os⟩ := by
  have i1 : (⟨h, g, d, t, os⟩ : Shared).TypeIs (.ref a) "function" := ⟨_, e, c⟩
  have i2 : Shared.TypeIs ⟨h, g, d, t, os⟩ (.builtin "object.__class__") "getset_descriptor" := F.typeOf_object_class
  have i3 := fnLk
  have i4 := F.typeOf_object_class
  have i5 := F.slot_gs_get.lookup
  have i6 := F.slot_gs_set.lookup
  repeat any_goals (first | assumption | wp_step)
  refine fnGet e c ?_
  repeat any_goals (first | assumption | wp_step)
theorem fnBy {tk : Tok} {Q : Value → Shared → Prop} (e : h.get? a = some o) (c : o.cls = .type "function") (q : Q (.type "function") ⟨h, g, d, t, os⟩) : wpAny (model prog w) A (getAttrBy (.ref a) (.str "__class__" tk) false) Q E ⟨h, g, d, t, os⟩ := by
  have i1 : (⟨h, g, d, t, os⟩ : Shared).TypeIs (.ref a) "function" := ⟨_, e, c⟩
  have i2 := fnSlotGa.lookup
  have i3 := fnSlotGa.bind (.ref a)
  repeat any_goals (first | assumption | wp_step)
  refine codeAny_call_builtin fnSlotGa.plain F.entry_object_getattribute (fnSlotGa.check _ _ _ _ _ _ _ _ i1 (F.args_object_getattribute_2 _ _) (fnEntry e c ?_))
  repeat any_goals (first | assumption | wp_step)
theorem fnAttr {Q : Option Value → Shared → Prop} (e : h.get? a = some o) (c : o.cls = .type "function") (q : Q (some (.type "function")) ⟨h, g, d, t + 1, os⟩) : wpAny (model prog w) A (getAttr? (.ref a) "__class__") Q E ⟨h, g, d, t, os⟩ := by
  unfold getAttr? getAttrBy?
  repeat any_goals (first | assumption | with_reducible apply fnBy e c | wp_step)
end
theorem kitFn {K : PySem.W.Frag} {a : Addr} : KitX K (.ref a) (.type "function") (KitAt a "function") := kitx_of kitAt_ty fun {_ _ _ _ _ s} p k => by
  obtain ⟨h, g, d, t, os⟩ := s
  obtain ⟨o, e, c⟩ := p
  exact fnAttr e c k
/-- a value's type: TyX's, or a def's that stands in the text -/
inductive TyY (K : PySem.W.Frag) (H : Hp) : V → Value → Prop where
  | base {x : V} {t : Value} (h : TyOf K H x t) : TyY K H x t
  | x {x : V} {t : Value} (h : TyX K H x t) : TyY K H x t
  | fn {a : Addr} {o : Obj} (e : K.lookup a = some o) (c : o.cls = .type "function") : TyY K H (.ref a) (.type "function")
def rIsiY (K : PySem.W.Frag) : List V → Hp → VK → Prop := fun xs H Q => ∃ (x c : V) (t u : Value) (b : Bool), xs = [x, c] ∧ ClsV c u ∧ TyY K H x t ∧ PySem.W.kitOne K t u = some b ∧ Q (.bl b) H
def rIsiTY (K : PySem.W.Frag) : List V → Hp → VK → Prop := fun xs H Q => ∃ (x : V) (tp : Addr) (cs : List V) (t : Value) (us : List Value) (b : Bool), xs = [x, .ref tp] ∧ H tp = some (.tup cs) ∧ Paired ClsV cs us ∧ TyY K H x t ∧ PySem.W.kitAny K t us = some b ∧ Q (.bl b) H
section
variable {X : Cx}
theorem call_isiY : CallR X (.builtin "isinstance") (rIsiY X.K) := by
  intro pins s σ H xs us Q I r h
  obtain ⟨x, c, t, u, b, rfl, k, ty, e, q⟩ := h
  cases ty with
  | base h => exact call_isi pins s σ H _ us Q I r ⟨x, c, t, u, b, rfl, k, .base h, e, q⟩
  | x h => exact call_isi pins s σ H _ us Q I r ⟨x, c, t, u, b, rfl, k, h, e, q⟩
  | @fn a o l cl =>
    obtain ⟨u1, u2, rfl, r1, r2⟩ := vals2 r
    cases k.eq r2
    cases (show u1 = Value.ref a from r1)
    exact PySem.W.kia_one kitFn I.kIn ⟨o, I.kIn a o l, cl⟩ e (fun z => nomatch z) fun tk => ⟨.bl b, H, I.tok tk, rfl, q⟩
theorem call_isiTY : CallR X (.builtin "isinstance") (rIsiTY X.K) := by
  intro pins s σ H xs us Q I r h
  obtain ⟨x, tp, cs, t, ws, b, rfl, hT, k, ty, e, q⟩ := h
  cases ty with
  | base h => exact call_isiT pins s σ H _ us Q I r ⟨x, tp, cs, t, ws, b, rfl, hT, k, .base h, e, q⟩
  | x h => exact call_isiT pins s σ H _ us Q I r ⟨x, tp, cs, t, ws, b, rfl, hT, k, h, e, q⟩
  | @fn a o l cl =>
    obtain ⟨u1, u2, rfl, r1, r2⟩ := vals2 r
    cases (show u1 = Value.ref a from r1)
    cases (show u2 = Value.ref tp from r2)
    have ⟨_, its, rv, ⟨oc, od, dt, sl⟩, h1, h2, n, h3⟩ := (show ObjOk X.prog X.w H s.heap tp (.tup cs) from I.hok tp _ hT)
    cases ClsV.all k rv
    cases (show oc = _ from h2)
    cases (show dt = _ from h3)
    exact PySem.W.kia_tup kitFn I.kIn ⟨o, I.kIn a o l, cl⟩ h1 e (fun z => nomatch z) fun tk => ⟨.bl b, H, I.tok tk, rfl, q⟩
/-- f == f, a def that stands in the text -/
theorem fn_eq {a : Addr} {o : Obj} {pins : List (Addr × Obj)} {σ : L2.St} {H : Hp} {s : Shared} {Q : VK} (hu : X.A.units < cLine) (I : Inv X pins σ H s) (l : X.K.lookup a = some o) (cl : o.cls = .type "function") (q : Q (.bl true) H) :
    wpAny (model X.prog X.w) X.A (compareOp .Eq (.ref a) (.ref a)) (EP X pins σ Q) X.xe s := by
  have g := I.kIn a o l
  refine wpAny_richCompare_same_room (op := .Eq) ⟨_, g, cl⟩ ⟨_, g, cl⟩ fnSlotEq (GQ.call_here fnSlotEq ⟨_, g, cl⟩ F.cmpEntry_eq (F.cmpArgs_eq _ _) (objEq_entry_same ?_)) hu
  exact ⟨(fun z => nomatch z), .bl true, H, I, rfl, q⟩
end
end Any
end
section
set_option Elab.async false
set_option linter.all false
set_option maxRecDepth 100000
set_option maxHeartbeats 4000000
namespace Any
open PySem PySem.Spec PyProof.Rows L2
section
variable {X : Cx} {CX : CXT} {k : Nat} {f : Addr} {fd : FuncData} {ps ks : List Str} {sp : Sp} {E : XK} {x : Str} {p pos : Pos} {kws : List Keyword} {tk : TA} {g : List Value → List Value → List Value} {gV : List V → List V → List V}
/-- f(k = v, ..), no other arguments -/
theorem pe_kw (F : FnOk X.prog X.w X.K X.mg X.base CX k f fd ps sp) (hr : Room k X.A) (hg : Gl X x) (hm : X.mg x = some (.ref f)) (kp : PySem.W.keepIn X.K (.ref f) = true) (hb : KBinds X.K fd ps ks g gV) (hx : Passes CX X E) (hk : PK X kws tk)
    (h1 : (backToKw pos (keywordEach kws X.env)).all (·.1.isSome) = true := by rfl) (h2 : (backToKw pos (keywordEach kws X.env)).filterMap (·.1) = ks := by rfl) (h3 : (x == ("__debug__" : Str)) = false := by decide)
    (h4 : ((backTo pos (starEach [] X.env)).any (·.1) || (backToKw pos (keywordEach kws X.env)).any (·.1.isNone)) = false := by rfl) : PE X (.Call (.Name x p) [] kws pos) (tCallK sp gV E tNil tk) := by
  constructor
  intro pins s σ H Q I h
  refine wpAny_Call_Name_kw (ld_glob I hg hm (PySem.W.callWith_KW0 (h₀ := X.base) I.ok.mod.kin kp h1 (thn (hk.run pos pins s σ H _ I h) fun ws s2 ⟨zs, H2, I2, rz, q2⟩ => ⟨I2.kIn, ?_⟩) h4) h3)
  rw [h2]
  exact run_fnk (us := []) (vs := []) F hr hb hx I2 .nil rz q2
end
def rev0 {α : Type} (us ws : List α) : List α := match us with
  | [] => ws.reverse
  | _ => []
theorem credit_kb {K : PySem.W.Frag} {mg : Str → Option Value} (T : Txt K mg) : KBinds K (fdOf K (He.ga K "credit")) ["web", "place", "prices"] ["prices", "place", "web"] rev0 rev0 := by
  refine ⟨fun s us ws X hl => ?_, fun {vs us zs ws} r z => ?_⟩
  · obtain ⟨oc, od, dV, kV, doc, pm, an, cdv, ct, osl, e, lk, hcd, hD, hK⟩ := T.credit.F.ex
    rw [e]
    rcases hD with ⟨_, rfl⟩ | ⟨e, _⟩
    · refine BindsTo.of_eq ?_
      cases us with
      | nil =>
        have h3 : ws.length = 3 := by simpa [rev0] using hl
        match ws, h3 with
        | [a, b, c], _ => rfl
      | cons u us => cases hl
    · exact absurd rfl e
  · cases r with
    | nil =>
      have rev : ∀ {zs : List V} {ws : List Value}, Vals zs ws → Vals zs.reverse ws.reverse := by
        intro zs ws h
        induction h with
        | nil => exact .nil
        | cons h _ ih =>
          rw [List.reverse_cons, List.reverse_cons]
          exact ih.append (.cons h .nil)
      exact rev z
    | cons _ _ => exact .nil
end Any
end
section
set_option Elab.async false
set_option linter.all false
set_option maxRecDepth 100000
set_option maxHeartbeats 4000000
namespace Any
open PySem PySem.Spec PyProof.Rows L2
open LamX (lamEnv lamCx CodeO Tabs ExtN TabB TabS lam_make2 run_ofS)
/-! ### a lambda of one parameter, handed to a def of two -/
/-- one parameter y, no other name of its own -/
structure LamP (sc scope : Scope) (y : Str) : Prop where
  kind : scope.kind = .function
  co : scope.isCoroutine = false
  gen : scope.isGenerator = false
  own : ∀ z ∈ scope.names, z.2 ≠ .cell ∧ (z.2 = .local → z.1 = y)
  par : scope.names.lookup y = some .local
  fre : ∀ z ∈ scope.names, z.2 = .free → sc.names.lookup z.1 = some .cell ∨ sc.names.lookup z.1 = some .free
theorem LamP.has {X : Cx} {scope : Scope} {y : Str} (L : LamP X.env.scope scope y) (ok : X.Ok) : ∀ z ∈ scope.names, z.2 = .free → ∃ c, X.env.cells.lookup z.1 = some c := fun z hz e => by
  cases L.fre z hz e with
  | inl k => exact ok.has _ (.inl k)
  | inr k => exact ok.has _ (.inr k)
def lamCx1 (X : Cx) (A : Around) (outer : List Env) (s : Shared) (H : Hp) (E : XK) (scope : Scope) (f c' : Addr) (y : Str) : Cx := { lamCx X A outer s H E scope f c' with N := X.N ++ [y] }
section
variable {X : Cx} {pins : List (Addr × Obj)} {σ : L2.St} {H HZ : Hp} {s s1 : Shared}
theorem lam_start1 {A : Around} {outer : List Env} {E : XK} {scope : Scope} {f c' : Addr} {h₁ : Heap} {tk : Nat} {y : Str} {v : V} {u : Value} (I : Inv X pins σ H s) (L : LamP X.env.scope scope y) (hy : y ∉ X.N) (rv : RelV v u)
    (e0 : Env0 X.prog X.w X.K X.mg X.base A outer s1 HZ) (hd : A.handled = none)
    (un : Un (frs X.stack) [] H HZ s.heap s1.heap) (ns : h₁.Ns s1.heap.objs.size fun z => ([(y, u)] : List (Str × Value)).reverse.lookup z) (kp : ∀ b o, s1.heap.get? b = some o → h₁.get? b = some o) :
    Inv (lamCx1 X A outer s1 HZ E scope f c' y) [] (σ ++ [some v]) HZ { s1 with heap := h₁, toks := tk } := by
  have fre := L.has I.ok
  have cm : ∀ {z c}, (cloFrom X.env.cells scope.names []).lookup z = some c → X.env.cells.lookup z = some c := fun {z c} e => by
    cases cloFrom_mem (PySem.mem_of_lookup e) with
    | inl hm => cases hm
    | inr hm =>
      obtain ⟨c1, hc⟩ := fre _ hm.1 rfl
      have hc : X.env.cells.lookup z = some c1 := hc
      have e2 : c = c1 := by
        rw [hm.2, hc]
        rfl
      rw [e2, hc]
  have lk : ∀ {z}, scope.names.lookup z = some .free → ∃ c, (cloFrom X.env.cells scope.names []).lookup z = some c := fun {z} hl =>
    mem_lookup (cloFrom_has (cells := X.env.cells) (acc := []) (PySem.mem_of_lookup hl))
  have ck : ∀ {c : Addr} {v : Option Value}, H c = none → s.heap.IsCell c v → h₁.IsCell c v := fun {c v} n ⟨o, ho, hd⟩ => by
    obtain ⟨sl, q⟩ := un.any ho n (by simp)
    exact ⟨_, kp _ _ q, hd⟩
  have nox : ∀ b : Addr, b ∉ (lamCx1 X A outer s1 HZ E scope f c' y).ex := fun b z => absurd (show b ∈ ([] : List Addr) from z) (by simp)
  have okk : (lamCx1 X A outer s1 HZ E scope f c' y).Ok := {
    mod := e0.mod
    kind := L.kind
    glob := rfl
    blt := rfl
    above := Nat.le_refl _
    inj := fun a b c h1 h2 => I.ok.inj a b c (cm h1) (cm h2)
    has := fun z hz => by
      have hz : scope.names.lookup z = some .cell ∨ scope.names.lookup z = some .free := hz
      cases hz with
      | inl hz => exact absurd rfl (L.own _ (PySem.mem_of_lookup hz)).1
      | inr hz => exact lk hz
    cab := fun z c h1 _ => by cases (show false = true from h1)
    hd := fun _ => hd
    frames := Around.frames_deeper e0.frames
    stk := .inr ⟨rfl, rfl⟩
    exf := fun b z => absurd z (nox b)
    bs := e0.bs
    bsz := e0.bsz
    noex := fun b _ _ => nox b
    exfs := fun b z => absurd z (nox b)
    funs := e0.funs
    frf := e0.frf }
  refine {
    ok := okk
    os := rfl
    bare := e0.bare
    base := Un.kept kp
    loc := ⟨_, ns, fun i z v' e1 e2 vis => ?_⟩
    cell := fun z c e => ?_
    free := e0.hok.fresh (Nat.le_refl _)
    freeC := fun z c e => ?_
    pin := fun q hq => absurd (show q ∈ ([] : List (Addr × Obj)) ++ [] from hq) (by simp)
    hok := e0.hok.kept kp
    len := by
      show (σ ++ [some v]).length = (X.N ++ [y]).length
      rw [List.length_append, List.length_append, I.len]
      rfl }
  · have e1 : (X.N ++ [y])[i]? = some z := e1
    have vis : Vis scope z := vis
    by_cases hi : i < X.N.length
    · rw [List.getElem?_append_left hi] at e1
      rw [List.getElem?_append_left (by rw [I.len]; exact hi)] at e2
      have ne : z ≠ y := fun e => hy (by rw [← e]; exact List.mem_of_getElem? e1)
      rcases vis with k | k | k
      · exact absurd ((L.own _ (PySem.mem_of_lookup k)).2 rfl) ne
      · exact absurd rfl (L.own _ (PySem.mem_of_lookup k)).1
      · obtain ⟨m, hn, hl⟩ := I.loc
        have hvis : Vis X.env.scope z := (L.fre _ (PySem.mem_of_lookup k) rfl).elim (fun k => .inr (.inl k)) (fun k => .inr (.inr k))
        obtain ⟨w', r, q⟩ := hl i z v' e1 e2 hvis
        obtain ⟨c2, h2⟩ := lk k
        refine ⟨w', r, .inr ⟨.inr k, c2, h2, ?_⟩⟩
        have c1 := cm h2
        cases q with
        | inl q =>
          have k' : X.env.scope.names.lookup z = some .local := q.1
          cases L.fre _ (PySem.mem_of_lookup k) rfl with
          | inl k2 => rw [show X.env.scope.names.lookup z = _ from k2] at k'; cases k'
          | inr k2 => rw [show X.env.scope.names.lookup z = _ from k2] at k'; cases k'
        | inr q =>
          obtain ⟨_, c3, e', z'⟩ := q
          rw [c1] at e'
          cases e'
          exact ck (I.freeC z _ c1) z'
    · rw [List.getElem?_append_right (Nat.le_of_not_lt hi)] at e1
      rw [List.getElem?_append_right (by rw [I.len]; exact Nat.le_of_not_lt hi)] at e2
      have h0 : i - X.N.length = 0 := by
        cases e : i - X.N.length with
        | zero => rfl
        | succ n => rw [e] at e1; simp at e1
      have h0' : i - σ.length = 0 := by rw [I.len]; exact h0
      rw [h0] at e1
      rw [h0'] at e2
      cases e1
      cases e2
      refine ⟨u, rv, .inl ⟨L.par, ?_⟩⟩
      show ([(y, u)] : List (Str × Value)).reverse.lookup y = some u
      simp [List.lookup]
  · obtain ⟨w', z'⟩ := I.cell z c (cm e)
    exact ⟨w', ck (I.freeC z c (cm e)) z'⟩
  · obtain ⟨v', o, ho, hd⟩ := I.cell z c (cm e)
    exact un.free c o ho (I.freeC z c (cm e)) (by simp)
/-- a(e), within the def that got the lambda -/
theorem pe_act1 {CXg : CXT} {Eg : XK} {Ng : List Str} {qg : Str} {sg : Scope} {g f c' : Addr} {cdg pm ctv : Value} {params : Arguments} {body : Expr} {scope : Scope} {k i : Nat} {a y : Str} {tb te : TE} {e : Expr} {p1 p2 : Pos}
    (I : Inv X pins σ H s) (L : LamP X.env.scope scope y) (hy : y ∉ X.N) (hf : s.heap.get? f = some (PySem.W.kla_obj "<lambda>" (X.env.qual ++ "<lambda>") params body scope (cloFrom X.env.cells scope.names []) pm c' ctv)) (hfn : H f = none) (hfr : f ∉ frs X.stack)
    (hbind : ∀ u, bindArgs (PySem.W.kla_fn "<lambda>" (X.env.qual ++ "<lambda>") params body scope (cloFrom X.env.cells scope.names []) pm (.ref c') ctv) ⟨[u], []⟩ = pure [(y, u)])
    (hr : Room (k + 1) (X.A.deeper (envOfC qg sg s.heap.objs.size g cdg)))
    (hbody : ∀ (A : Around) (outer : List Env) (s : Shared) (H : Hp), Room k (A.deeper (lamEnv X scope s.heap.objs.size f c')) → PE (lamCx1 X A outer s H (fun _ _ _ => False) scope f c' y) body tb)
    (hN : Ng[i]? = some a) (hv : Vis sg a) (he : PE (cxOf CXg X.prog X.w X.K X.mg X.base Ng qg sg g cdg X.A X.stack s H Eg) e te)
    (hd : (a == ("__debug__" : Str)) = false := by decide) (hcd : (a == ("__classdict__" : Str)) = false := by decide)
    (hse : starEach [e] (cxOf CXg X.prog X.w X.K X.mg X.base Ng qg sg g cdg X.A X.stack s H Eg).env = (false, eval e (cxOf CXg X.prog X.w X.K X.mg X.base Ng qg sg g cdg X.A X.stack s H Eg).env) :: starEach [] (cxOf CXg X.prog X.w X.K X.mg X.base Ng qg sg g cdg X.A X.stack s H Eg).env := by rfl) :
    PE (cxOf CXg X.prog X.w X.K X.mg X.base Ng qg sg g cdg X.A X.stack s H Eg) (.Call (.Name a p1) [e] [] p2)
      (fun σZ HZ Q => σZ[i]? = some (some (.ref f)) ∧ te σZ HZ fun v H1 => H1 c' = some (CodeO c' (X.env.qual ++ "<lambda>")) ∧ tb (σ ++ [some v]) H1 Q) := by
  constructor
  intro pinsZ sZ σZ HZ Q IZ h
  obtain ⟨hs, ht⟩ := h
  refine wpAny_Call_Name_kw (thn ((pe_var (pos := p1) (i := i) hN hv hd hcd).run pinsZ sZ σZ HZ (fun v H1 => v = .ref f ∧ H1 = HZ) IZ ⟨.ref f, hs, rfl, rfl⟩) fun u0 s0 ⟨v0, H0, I0, r0, q0⟩ => ?_)
  obtain ⟨ev, eH⟩ := q0
  subst ev
  rw [eH] at I0
  cases (show u0 = Value.ref f from r0)
  have fat : ∀ {σ' H' s'}, Inv (cxOf CXg X.prog X.w X.K X.mg X.base Ng qg sg g cdg X.A X.stack s H Eg) pinsZ σ' H' s' → s'.heap.get? f = some (PySem.W.kla_obj "<lambda>" (X.env.qual ++ "<lambda>") params body scope (cloFrom X.env.cells scope.names []) pm c' ctv) := fun J =>
    J.base.keep f _ hf hfn hfr (fun z => nomatch (show f ∈ ([] : List Addr) from z))
  refine PySem.W.callWith_F ⟨_, _, _, _, fat I0⟩ ?_ hse (by rfl)
  rw [hse]
  show wpAny _ _ (spliced ((false, eval e _) :: backTo p2 (starEach [] _))) _ _ s0
  refine Calls.spliced_cons (thn (he.run pinsZ s0 σZ HZ _ I0 ht) fun u s1 ⟨v, H1, I1, rv, hc, hb⟩ => ?_)
  refine Calls.spliced_nil ⟨⟨_, _, _, _, fat I1⟩, ?_⟩
  have of1 := fat I1
  have un : Un (frs X.stack) [] H H1 s.heap s1.heap := I1.base
  obtain ⟨⟨oc, vs, t, hoc, hdc, hvc⟩, _, _⟩ := I1.hok c' _ hc
  have rc : codeAny (model X.prog X.w) (X.A.deeper (envOfC qg sg s.heap.objs.size g cdg)) (.call (.ref f) ⟨[u], []⟩) (CR (L2.CX X.prog X.w) (envOfC qg sg s.heap.objs.size g cdg :: X.stack) X.prog X.w H1 s1 Q (fun _ _ _ => False)) s1 := by
    refine PySem.W.kla_callFunE hr.depth of1 rfl L.co L.gen rfl ⟨c', oc, vs, t, rfl, hoc, hdc, hvc⟩ ?_
    rw [hbind]
    refine wpAny_pure (wpAny_newFunctionEnv (fun z hz => (L.own z hz).1) (fun z hz => ?_) (fun h₁ hns hsb => ⟨I1.nolimit.fresh _ hsb, ?_⟩) L.kind)
    · simp at hz
      subst hz
      exact L.par
    show codeAny _ _ (.expr body (lamEnv X scope s1.heap.objs.size f c')) _ _
    have kp : ∀ b o, s1.heap.get? b = some o → h₁.get? b = some o := fun b o w => hsb.extBut b o (Nat.ne_of_lt (Heap.lt_size w)) (Heap.get?_push_of_some _ w)
    have J : Inv (lamCx1 X (X.A.deeper (envOfC qg sg s.heap.objs.size g cdg)) (envOfC qg sg s.heap.objs.size g cdg :: X.stack) s1 H1 (fun _ _ _ => False) scope f c' y) [] (σ ++ [some v]) H1 { s1 with heap := h₁, toks := s1.toks + ([(y, u)] : List (Str × Value)).length } :=
      lam_start1 I L hy rv I1.env0 hr.hd un hns kp
    refine PySem.W.kla_codeExpr (wpAny_mono ((hbody _ _ s1 H1 (hr.deeper _)).run [] _ _ H1 Q J hb) (fun v' s' hq => ?_) fun e' s' hq => hq)
    obtain ⟨w', H', J', rv', q⟩ := hq
    exact ⟨w', H', J'.os, J'.bare, J'.base, J'.hok, rv', q⟩
  refine wpAny_call (codeAny_mono rc fun r s' hq => ?_)
  cases r with
  | error e =>
    obtain ⟨_, _, _, _, _, _, _, _, _, _, _, _, no⟩ := hq
    exact no.elim
  | ok fl =>
    cases fl with
    | ret u => exact I1.after hq
    | next => exact False.elim hq
    | brk => exact False.elim hq
    | cont => exact False.elim hq
/-- x(n, lambda y: body) -/
def tLam1 (T : List (Addr × Str)) (TT : (V → Hp → VK → Prop) → V → Hp → VK → Prop) (te t : TE) : TE := fun σ H Q => te σ H fun v0 H0 => Tabs T H0 ∧ ∀ H1, ExtN H0 H1 → Tabs T H1 → TT (fun v H' Q' => t (σ ++ [some v]) H' Q') v0 H1 Q
def Gives1 (X : Cx) (Ng : List Str) (x : Str) (sg : Scope) (g : Addr) (cdg : Value) (bg : List Stmt) (a q : Str) (k : Nat) (TT : (V → Hp → VK → Prop) → V → Hp → VK → Prop) : Prop :=
  ∀ (f c' : Addr) (s : Shared) (H : Hp) (Q : VK) (v0 : V) (tl : V → Hp → VK → Prop),
    (∀ (n : Str) (te : TE) (p0 p1 p2 : Pos), PE (cxOf C8.CX0 X.prog X.w X.K X.mg X.base Ng x sg g cdg X.A X.stack s H C8.E0) (.Name n p0) te →
      PE (cxOf C8.CX0 X.prog X.w X.K X.mg X.base Ng x sg g cdg X.A X.stack s H C8.E0) (.Call (.Name a p1) [.Name n p0] [] p2) (fun σZ HZ Q => σZ[1]? = some (some (.ref f)) ∧ te σZ HZ fun v H1 => H1 c' = some (CodeO c' q) ∧ tl v H1 Q)) →
    Room k (X.A.deeper (envOfC x sg s.heap.objs.size g cdg)) → H c' = some (CodeO c' q) → TT tl v0 H Q →
    ∃ t, PSs (cxOf C8.CX0 X.prog X.w X.K X.mg X.base Ng x sg g cdg X.A X.stack s H C8.E0) bg t ∧ t { nx := fun _ H' => Q .non H', rt := Q } (L2.start Ng [v0, .ref f]) H
theorem pe_lamcall1 {X : Cx} {T : List (Addr × Str)} {TT : (V → Hp → VK → Prop) → V → Hp → VK → Prop} {x a b y n : Str} {g c P : Addr} {k : Nat} {pg : Arguments} {bg : List Stmt} {sg : Scope} {dV kV doc pm cdv ct oc : Value} {an od : Option Addr} {osl : Array (Option Value)} {Ng : List Str}
    {params : Arguments} {body : Expr} {scope : Scope} {te t : TE} {p np lpos pos : Pos} (hg : Gl X x) (hm : X.mg x = some (.ref g)) (hk : PySem.W.keepIn X.K (.ref g) = true)
    (lk : X.K.lookup g = some ⟨oc, od, .func (PySem.W.fnOf x x pg bg sg dV kV doc pm an cdv ct), osl⟩) (hcg : PySem.W.codeIn X.K cdv x = true) (hb : L2.Binds X.K (PySem.W.fnOf x x pg bg sg dV kV doc pm an cdv ct) [b, a] []) (Sg : FnScope Ng [b, a] sg) (hNg : Ng[1]? = some a) (hva : Vis sg a)
    (hG : Gives1 X Ng x sg g cdv bg a (X.env.qual ++ "<lambda>") (k + 1) TT) (TB : TabB X.base X.mg c P) (hcode : X.env.code = .ref c) (hmT : (P, X.env.qual ++ "<lambda>") ∈ T) (hu : ∀ p ∈ T, p.1 = P → p.2 = X.env.qual ++ "<lambda>")
    (hr : Room (k + 2) X.A) (L : LamP X.env.scope scope y) (hy : y ∉ X.N) (hdef : defaultsOf params X.env = ([], []))
    (hbind : ∀ (q : Str) (cl : List (Str × Addr)) (pm cv ctv u : Value), bindArgs (PySem.W.kla_fn "<lambda>" q params body scope cl pm cv ctv) ⟨[u], []⟩ = pure [(y, u)])
    (he : PE X (.Name n np) te)
    (hbody : ∀ (A : Around) (outer : List Env) (s : Shared) (H : Hp) (f c' : Addr), Room k (A.deeper (lamEnv X scope s.heap.objs.size f c')) → PE (lamCx1 X A outer s H (fun _ _ _ => False) scope f c' y) body t)
    (hdb : (x == ("__debug__" : Str)) = false := by decide) (hd : (a == ("__debug__" : Str)) = false := by decide) (hcd : (a == ("__classdict__" : Str)) = false := by decide) :
    PE X (.Call (.Name x p) [.Name n np, .Lambda params body scope lpos] [] pos) (tLam1 T TT te t) := by
  constructor
  intro pins s σ H Q I h
  refine wpAny_Call_Name_kw (ld_glob I hg hm ?_ hdb)
  refine PySem.W.callWith_K (h₀ := X.base) I.ok.mod.kin hk ?_ (by rfl) (by rfl)
  show wpAny _ _ (spliced ((false, eval (.Name n np) X.env) :: (false, eval (.Lambda params body scope lpos) X.env) :: backTo pos (starEach [] X.env))) _ _ s
  refine Calls.spliced_cons (thn (he.run pins s σ H _ I h) fun u0 s0 ⟨v0, H0, I0, r0, hT, h0⟩ => ?_)
  refine Calls.spliced_cons (lam_make2 I0 TB hcode hmT hu hT hdef (L.has I0.ok) fun f c' pm' ctv H1 s' I1 eN T1 hf hfn hfr hco => ?_)
  refine Calls.spliced_nil ⟨I1.kIn, ?_⟩
  have rc : codeAny (model X.prog X.w) X.A (.call (.ref g) ⟨[u0, .ref f], []⟩) (CR C8.CX0 X.stack X.prog X.w H1 s' Q C8.E0) s' := by
    refine run_ofS (N := Ng) (ps := [b, a]) (us := [u0, .ref f]) (vs := [v0, .ref f]) lk hcg Sg hr I1.env0 (hb s' [u0, .ref f] I1.kIn rfl) (.cons r0 (.cons rfl .nil)) rfl fun hr' => ?_
    exact hG f c' s' H1 Q v0 _ (fun n te p0 p1 p2 hn => pe_act1 (i := 1) I1 L hy hf hfn hfr (hbind _ _ _ _ _) hr' (fun A outer s H hr2 => hbody A outer s H f c' hr2) hNg hva hn hd hcd (by rfl)) hr' hco (h0 H1 eN T1)
  refine wpAny_call (codeAny_mono rc fun r s2 hq => ?_)
  cases r with
  | error e => exact (show False from hq).elim
  | ok fl =>
    cases fl with
    | ret u => exact I1.after hq
    | next => exact False.elim hq
    | brk => exact False.elim hq
    | cont => exact False.elim hq
end
end Any
end
section
set_option Elab.async false
set_option linter.all false
set_option maxRecDepth 100000
set_option maxHeartbeats 4000000
namespace Any
open PySem PySem.Spec PyProof.Rows L2
/-! ### set(xs), xs a list of ints -/
abbrev sOb (w : World) : Obj := { cls := .type "set", dict := none, data := .set #[] 0 (.fresh 0 0 (!w.params.followText "set-order")) }
abbrev sHp (w : World) (h : Heap) : Heap := h.push (sOb w)
section
variable {P : Program} {w : World} {A : Around} {E : Value → Shared → Prop} {s : Shared}
set_option maxRecDepth 100000 in
set_option maxHeartbeats 3200000 in
theorem set_of_list {l : Addr} {its : Array Value} (ns : List Int) {Q : Value → Shared → Prop} (hh : A.handled = none) (hl : s.heap.IsList l its) (hit : IntsAre its.toList ns) (hb : ns.length + 1 < scanBound)
    (h : ∀ (h' : Heap) (tk c : Nat), SetR w h' s.heap.objs.size (fun j => decide (j ∈ ns)) c → c ≤ ns.length → (∀ b o, s.heap.get? b = some o → h'.get? b = some o) → Q (.ref s.heap.objs.size) { s with heap := h', toks := tk }) :
    wpAny (model P w) A (call (.type "set") [.ref l]) Q E s := by
  have sz : its.size = ns.length := by
    rw [← Array.length_toList]
    exact IntsAre.length hit
  have ⟨c, tl, mro⟩ := F.called_set.mro
  have f1 := F.called_set.made
  have f2 := F.called_set.sub
  have f3 := F.called_set.notType
  have f4 := F.called_set.canCreate
  refine wpAny_call (codeAny_of_tree (show wpAny _ _ (callAny (.type "set") _) _ _ _ from wpAny_pure ⟨Code.quiet_builtin _ (by decide +kernel), codeAny_builtin F.entry_type_call ?_⟩))
  rw [Around.under_plain (weight_type_call_type "set" [.ref l] []) rfl]
  have f5 := F.typeCall_set_1 (.ref l)
  repeat (any_goals (first | assumption | wp_step))
  refine codeAny_mono (code_set_led1 (.ref l) (E := E) (Q₁ := fun ob s1 => ob = .ref s.heap.objs.size ∧ s1 = { s with heap := sHp w s.heap }) ⟨rfl, rfl⟩) fun r s1 hr => ?_
  rcases r with e | fl
  · exact hr
  cases fl with
  | ret ob =>
    obtain ⟨rfl, rfl⟩ := hr
    have g1 : (sHp w s.heap).get? s.heap.objs.size = some (sOb w) := Heap.get?_push_size _ rfl
    have g2 : Shared.TypeIs { s with heap := sHp w s.heap } (.ref s.heap.objs.size) "set" := ⟨_, g1, rfl⟩
    have f6 := F.called_set.init.lookup
    have f7 := F.called_set.init.bind (.ref s.heap.objs.size)
    repeat (any_goals (first | assumption | wp_step))
    refine codeAny_mono (codeAny_call_builtin (R := wants (fun r s2 => r = .none ∧ ∃ h' tk c, s2 = { s with heap := h', toks := tk } ∧ SetR w h' s.heap.objs.size (fun j => decide (j ∈ ns)) c ∧ c ≤ ns.length ∧ (∀ b o, s.heap.get? b = some o → h'.get? b = some o)) E)
      F.called_set.init.plain F.entry_set_init (check_set_init_1 g2 ?_)) fun r2 s2 hr2 => ?_
    · obtain ⟨⟨oc, od, dt, osl⟩, g3, e1, nl, e2⟩ := hl
      simp only at e1 e2
      subst e1
      subst e2
      have lS : l < s.heap.objs.size := Heap.lt_size g3
      have g4 : (sHp w s.heap).get? l = some { cls := .type "list", dict := od, data := .seq its nl, slots := osl } := Heap.get?_push_of_some _ g3
      have f8 := F.sub_list_set
      have f9 := F.sub_list_frozenset
      have f10 : (Value.type "list" == Value.type "dict") = false := by decide
      have g5 : (sHp w s.heap).IsList l its := ⟨_, g4, rfl, nl, rfl⟩
      unfold Builtin.«set.__init__» noKeywords Builtin.Frozenset.updateFrom
      generalize eI : pyIter = PI
      wp_walk
      subst eI
      refine wpAny_pyIter_list g5 (wpAny_bind (wpAny_runValue ?_))
      have h3 : A.in1.in1.in1.handled = none := by simp [hh]
      have ez : (sHp w s.heap).objs.size = s.heap.objs.size + 1 := Heap.size_push ..
      have n1 : l ≠ (sHp w s.heap).objs.size := by
        rw [ez]
        exact Nat.ne_of_lt (Nat.lt_succ_of_lt lS)
      have n2 : s.heap.objs.size ∉ [(sHp w s.heap).objs.size, l] := by
        rw [ez, List.mem_cons, List.mem_singleton]
        exact fun z => z.elim (Nat.ne_of_lt (Nat.lt_succ_self _)) (Nat.ne_of_gt lS)
      have hv : ∀ (i : Nat) (v : Value), its[i]? = some v → ∃ k t, ns[i]? = some k ∧ v = .int k t := fun i v hv => by
        have hi : i < ns.length := by
          rw [← sz]
          exact (Array.getElem?_eq_some_iff.mp hv).1
        have ⟨t, e⟩ := PyProof.Rows.IntsAre.int_at hit i v (by rw [Array.getElem?_toList]; exact hv)
        rw [List.getD_eq_getElem?_getD, List.getElem?_eq_getElem hi] at e
        exact ⟨_, t, List.getElem?_eq_getElem hi, e⟩
      refine set_update_ints ((Walks.list h3 _ l n1 its).toS) s.heap.objs.size n2 ns sz hb hv (its.size - 0) 0 _ (by omega) (Nat.zero_le _) ⟨⟨_, Heap.get?_push_size _ rfl, rfl, rfl⟩, g5.push _⟩ ⟨0, Nat.le_refl 0, setR_new_at (Heap.get?_push_of_some _ g1)⟩ ?_
      rintro ⟨h', gn, dr, tk', os'⟩ c' hm hc' hS'
      cases (show gn = s.gens from hm.gens)
      cases (show dr = s.drawn from hm.drawn)
      cases (show os' = s.os from hm.os)
      rw [sz] at hc'
      refine wpAny_pure (show wpAny _ _ (ret Value.none) _ _ _ from wpAny_pure ⟨rfl, h', tk', c', rfl, hS', hc', fun b o e => hm.heap b o ?_ (Heap.get?_push_of_some _ (Heap.get?_push_of_some _ e))⟩)
      have := Heap.lt_size e
      rw [ez, List.mem_cons, List.mem_singleton]
      exact fun z => z.elim (Nat.ne_of_lt this) (Nat.ne_of_lt (Nat.lt_succ_of_lt this))
    · rcases r2 with e | fl2
      · exact hr2
      cases fl2 with
      | ret r =>
        obtain ⟨rfl, h', tk, c', rfl, hS', hc', hk'⟩ := hr2
        repeat (any_goals (first | assumption | wp_step))
        exact h _ _ _ hS' hc' hk'
      | _ => exact hr2.elim
  | _ => exact hr.elim
end
def rSetI (K : PySem.W.Frag) (w : World) : List V → Hp → VK → Prop := fun vs H Q => ∃ (a : Addr) (ns : List Int), vs = [V.ref a] ∧ SqL K H a (ns.map V.int) ∧ ns.length ≤ 1000 ∧
  ∀ (p : Addr) (n : Nat), n ≤ ns.length → H p = none → Q (.ref p) (upd H p (SetO w p (fun j => decide (j ∈ ns)) n))
theorem cr_setI {X : Cx} (hc : X.calm = true) : CallR X (.type "set") (rSetI X.K X.w) := by
  intro pins s σ H xs us Q I r h
  obtain ⟨l, ns, rfl, hl, hf, q⟩ := h
  obtain ⟨its, rv, pl, hz⟩ := I.list hl
  rw [Vals.ref1 r]
  refine set_of_list ns (I.ok.hd hc) (show s.heap.IsList l its.toArray from pl.isList) (ints_of_vals rv) (by unfold scanBound; omega) fun h' tk c R hcn k => ?_
  exact ⟨.ref _, _, I.laid (t' := tk) (o := SetO X.w s.heap.objs.size (fun j => decide (j ∈ ns)) c) k (Nat.le_refl _) (setO_new R), rfl, q _ c hcn (I.hok.fresh (Nat.le_refl _))⟩
end Any
end
section
set_option Elab.async false
set_option linter.all false
set_option maxRecDepth 100000
set_option maxHeartbeats 4000000
namespace Any
open PySem PySem.Spec PyProof.Rows L2
/-! ### sorted(xs), xs any data of one kind: the same things, in some order -/
def rSortedG (K : PySem.W.Frag) : List V → Hp → VK → Prop := fun vs H Q => ∃ (a : Addr) (xs : List V) (ds : List PyData), vs = [V.ref a] ∧ SqL K H a xs ∧ (∀ x ∈ xs, ∃ t, x = V.ref t) ∧ DpAll K H xs ds ∧ PySem.W.AllAlike ds ∧ PySem.W.Sortable ds ∧ (∀ d ∈ ds, d.depth ≤ 8) ∧
  ∀ ys p, ys.Perm xs → H p = none → Q (.ref p) (upd H p (.lst ys))
section
variable {X : Cx} {pins : List (Addr × Obj)} {σ : L2.St} {H : Hp} {s : Shared}
theorem each_dp (I : Inv X pins σ H s) : ∀ (ds : List PyData) (xs : List V) (us : List Value), DpAll X.K H xs ds → Vals xs us → PySem.W.EachIs (fun v (b : Value × PyData) => ∃ as, Reads s.heap v b.2 as) us (us.zip ds) ∧ PySem.W.EachIs (fun v (b : Value × PyData) => v = b.1) us (us.zip ds) ∧ (us.zip ds).map (·.2) = ds ∧ (us.zip ds).map (·.1) = us
  | [], _, _, h, r => by
    cases h
    cases r
    exact ⟨.nil, .nil, rfl, rfl⟩
  | d :: ds, _, _, h, r => by
    cases h with | cons h1 h2 =>
    cases r with | cons r1 r2 =>
    obtain ⟨a, b, c, e⟩ := each_dp I ds _ _ h2 r2
    exact ⟨.cons (Dp.reads I d _ _ h1 r1) a, .cons rfl b, by rw [List.zip_cons_cons, List.map_cons, c], by rw [List.zip_cons_cons, List.map_cons, e]⟩
theorem each_fst : ∀ {us : List Value} {bs : List (Value × PyData)}, PySem.W.EachIs (fun v (b : Value × PyData) => v = b.1) us bs → us = bs.map (·.1)
  | _, _, .nil => rfl
  | _, _, .cons h r => by rw [List.map_cons, ← each_fst r, h]
theorem cr_sortedG (hu : X.A.units + 64 < cLine) : CallR X (.builtin "sorted") (rSortedG X.K) := by
  intro pins s σ H vs us Q I r h
  obtain ⟨a, xs, ds, rfl, hs, hx, hd, hal, hso, hde, q⟩ := h
  obtain ⟨its, rv, hl, hz⟩ := I.list hs
  obtain ⟨u, rfl, ru⟩ := vals1 r
  cases (show u = Value.ref a from ru)
  obtain ⟨e1, e2⟩ := refs_back rv hx
  obtain ⟨z1, z2, z3, z4⟩ := each_dp I ds xs its hd rv
  have len : (its.zip ds).length = its.length := z2.length.symm
  refine PySem.W.sorted_data (enc := fun b : Value × PyData => b.2) hl.isList z2 z1 (by rw [z3]; exact hal) (by rw [z3]; exact hso) (by rw [len, ← rv.length]; exact hz) (fun b hb => ?_) fun out ho eo => ?_
  · have hb2 : b.2 ∈ ds := by
      rw [← z3]
      exact List.mem_map.mpr ⟨b, hb, rfl⟩
    have := hde _ hb2
    omega
  · have eout := each_fst eo
    have perm : out.Perm its := by
      have p2 := (List.mergeSort_perm (its.zip ds) (PySem.W.dataLe false fun b : Value × PyData => b.2)).map (·.1)
      rw [z4] at p2
      rw [eout]
      exact p2
    obtain ⟨c, hc⟩ := PyProof.Rows.sortedAll_at s.heap its out.toArray
    have back : ∀ u ∈ out, ∃ t, u = Value.ref t := fun u hu => e2 u (perm.mem_iff.mp hu)
    refine ⟨.ref _, _, I.laid (t' := s.toks) (o := .lst (out.map backV)) (fun _ _ => PyProof.Rows.sortedAll_old) (Nat.le_succ _) ⟨?_, out, c, vals_back back, hc⟩, rfl, q _ _ ?_ (I.hok.fresh (Nat.le_succ _))⟩
    · rw [List.length_map, perm.length_eq, ← rv.length]
      exact hz
    · rw [e1]
      exact perm.map backV
end
end Any
end
section
set_option Elab.async false
set_option linter.all false
set_option maxRecDepth 100000
set_option maxHeartbeats 4000000
namespace Any
open PySem PySem.Spec PyProof.Rows L2
/-! ### types -/
theorem tyx_same0 {K : PySem.W.Frag} {H H' : Hp} {v : V} {t : Value} (h : TyX K H v t) (s : Same H H') : TyX K H' v t := by
  cases h with
  | base h =>
    refine .base ?_
    cases h with
    | non => exact .non
    | bl x => exact .bl x
    | int x => exact .int x
    | str x => exact .str x
    | flt x => exact .flt x
    | lst e => exact .lst (s _ _ e)
    | frz e => exact .frz (s _ _ e)
    | tup e => exact .tup (s _ _ e)
    | dK e => exact .dK (s _ _ e)
    | dT e => exact .dT (s _ _ e)
    | ins e a b c d f => exact .ins (s _ _ e) a b c d f
  | byt b => exact .byt b
  | set e => exact .set (s _ _ e)
  | kList e c => exact .kList e c
  | kTuple e c => exact .kTuple e c
  | kDict e c => exact .kDict e c
  | fTuple e => exact .fTuple (s _ _ e)
  | fDict e => exact .fDict (s _ _ e)
theorem tyx_same {K : PySem.W.Frag} {H H' : Hp} {v : V} {t : Value} (h : TyY K H v t) (s : Same H H') : TyY K H' v t := by
  cases h with
  | base h => exact .x (tyx_same0 (.base h) s)
  | x h => exact .x (tyx_same0 h s)
  | fn e c => exact .fn e c
abbrev TLT : List Value := [.type "list", .type "tuple"]
theorem any2 {K : PySem.W.Frag} {t a b : Value} {x y : Bool} (h1 : PySem.W.kitOne K t a = some x) (h2 : PySem.W.kitOne K t b = some y) : PySem.W.kitAny K t [a, b] = some (x || y) :=
  kitAny_cons h1 (fun e => by rw [e]; exact kitAny_cons h2 (fun e2 => by rw [e2]; rfl) (fun e2 => by rw [e2]; rfl)) (fun e => by rw [e]; rfl)
theorem tlt_of {K : PySem.W.Frag} {n : String} {x y : Bool} (h1 : kitB n "list" = some x) (h2 : kitB n "tuple" = some y) : PySem.W.kitAny K (.type n) TLT = some (x || y) := any2 (kit_ty h1) (kit_ty h2)
theorem tlt_int {K : PySem.W.Frag} : PySem.W.kitAny K (.type "int") TLT = some false := tlt_of (x := false) (y := false) (by decide +kernel) (by decide +kernel)
theorem tlt_list {K : PySem.W.Frag} : PySem.W.kitAny K (.type "list") TLT = some true := tlt_of (x := true) (y := false) (by decide +kernel) (by decide +kernel)
theorem tlt_tup {K : PySem.W.Frag} : PySem.W.kitAny K (.type "tuple") TLT = some true := tlt_of (x := false) (y := true) (by decide +kernel) (by decide +kernel)
theorem int_int {K : PySem.W.Frag} : PySem.W.kitOne K (.type "int") (.type "int") = some true := kit_ty (by decide +kernel)
theorem int_bool {K : PySem.W.Frag} : PySem.W.kitOne K (.type "int") (.type "bool") = some false := kit_ty (by decide +kernel)
theorem bool_int {K : PySem.W.Frag} : PySem.W.kitOne K (.type "bool") (.type "int") = some true := kit_ty (by decide +kernel)
theorem bool_bool {K : PySem.W.Frag} : PySem.W.kitOne K (.type "bool") (.type "bool") = some true := kit_ty (by decide +kernel)
/-- no whole number: of another type than int, or a bool -/
def NoInt (K : PySem.W.Frag) (t : Value) : Prop := PySem.W.kitOne K t (.type "int") = some false ∨ (PySem.W.kitOne K t (.type "int") = some true ∧ PySem.W.kitOne K t (.type "bool") = some true)

def spIsList (K : PySem.W.Frag) : Sp := fun vs H Q _ => ∃ v t b, vs = [v] ∧ TyY K H v t ∧ PySem.W.kitAny K t TLT = some b ∧ ∀ H', Same H H' → Q (.bl b) H'
def spIsWhole (K : PySem.W.Frag) : Sp := fun vs H Q _ => ∃ v, vs = [v] ∧ ((∃ n, v = .int n ∧ Q (.bl true) H) ∨ (∃ t, TyY K H v t ∧ NoInt K t ∧ Q (.bl false) H))
def spIsPos : Sp := fun vs H Q _ => ∃ n : Int, vs = [.int n] ∧ Q (.bl (decide (1 ≤ n))) H
/-- a list or a tuple -/
def Sq (K : PySem.W.Frag) (H : Hp) (a : Addr) (xs : List V) : Prop := H a = some (.lst xs) ∨ H a = some (.tup xs)
theorem Sq.same {K : PySem.W.Frag} {H H' : Hp} {a : Addr} {xs : List V} (h : Sq K H a xs) (s : Same H H') : Sq K H' a xs := h.elim (fun h => .inl (s _ _ h)) (fun h => .inr (s _ _ h))
theorem Sq.ty {K : PySem.W.Frag} {H : Hp} {a : Addr} {xs : List V} (h : Sq K H a xs) : ∃ t, TyY K H (.ref a) t ∧ PySem.W.kitAny K t TLT = some true :=
  h.elim (fun h => ⟨_, .base (.lst h), tlt_list⟩) (fun h => ⟨_, .base (.tup h), tlt_tup⟩)
theorem Sq.both {K : PySem.W.Frag} {H : Hp} {a : Addr} {xs : List V} (h : Sq K H a xs) : SqL K H a xs ∨ SqT K H a xs := h.elim (fun h => .inl (SqL.of h)) (fun h => .inr (SqT.of h))
theorem Sq.ix {K : PySem.W.Frag} {H : Hp} {a : Addr} {xs : List V} {i : Int} {v : V} {Q : VK} (h : Sq K H a xs) (e : atI xs i = some v) (q : Q v H) : rIx K (.ref a) (.int i) H Q :=
  h.elim (fun h => .inl ⟨_, _, _, _, rfl, rfl, SqL.of h, e, q⟩) (fun h => .inr (.inl ⟨_, _, _, _, rfl, rfl, SqT.of h, e, q⟩))
/-- what is_pair answers -/
inductive PairV (K : PySem.W.Frag) (H : Hp) : V → Bool → Prop where
  | yes {a : Addr} {x y : Int} (h : Sq K H a [.int x, .int y]) : PairV K H (.ref a) true
  | noSeq {v : V} {t : Value} (h : TyY K H v t) (e : PySem.W.kitAny K t TLT = some false) : PairV K H v false
  | len {a : Addr} {xs : List V} (h : Sq K H a xs) (e : xs.length ≠ 2) : PairV K H (.ref a) false
  | odd {a : Addr} {x y : V} {t : Value} (h : Sq K H a [x, y]) (hx : TyY K H x t) (e : NoInt K t) : PairV K H (.ref a) false
def spIsPair (K : PySem.W.Frag) : Sp := fun vs H Q _ => ∃ v b, vs = [v] ∧ PairV K H v b ∧ ∀ H', Same H H' → Q (.bl b) H'
def spLowest : Sp := fun vs H Q _ => ∃ a b : Int, vs = [.int a, .int b] ∧ 0 < b ∧ b < 1073741824 ∧ ∀ p H', Same H H' → H p = none → H' p = some (.tup [.int (AM.low a b).1, .int (AM.low a b).2]) → Q (.ref p) H'
def spIsFraction (K : PySem.W.Frag) : Sp := fun vs H Q _ => ∃ (a : Addr) (x y : Int), vs = [.ref a] ∧ Sq K H a [.int x, .int y] ∧ 1 ≤ y ∧ ∀ H', Same H H' → Q (.bl true) H'
def spChkFraction (K : PySem.W.Frag) : Sp := fun vs H Q _ => ∃ (a : Addr) (x y : Int), vs = [.ref a] ∧ Sq K H a [.int x, .int y] ∧ 1 ≤ y ∧ y < 1073741824 ∧
  ∀ p H', Same H H' → H' p = some (.tup [.int (AM.low x y).1, .int (AM.low x y).2]) → Q (.ref p) H'
def spIsPrices (K : PySem.W.Frag) : Sp := fun vs H Q _ => ∃ v, vs = [v] ∧ ((PairV K H v false ∧ ∀ H', Same H H' → Q (.bl false) H') ∨
  (∃ (a : Addr) (x y : Int), v = .ref a ∧ Sq K H a [.int x, .int y] ∧ ∀ H', Same H H' → Q (.bl (decide (0 < x) && decide (0 < y))) H'))
def spCostOf (K : PySem.W.Frag) : Sp := fun vs H Q _ => ∃ (a b : Addr) (p q x y : Int), vs = [.ref a, .ref b] ∧ H a = some (.tup [.int p, .int q]) ∧ H b = some (.tup [.int x, .int y]) ∧
  (-(2 ^ 64) < p ∧ p < 2 ^ 64) ∧ (-(2 ^ 64) < q ∧ q < 2 ^ 64) ∧ Q (.int (p * x + q * y)) H
section
variable {P : Program} {w : World} {K : PySem.W.Frag} {mg : Str → Option Value} {base : Heap}
theorem sc_is_list : FnScope ["thing"] ["thing"] (defScope st_is_list) := ⟨rfl, rfl, rfl, by decide +kernel, rfl, by decide +kernel, by decide +kernel⟩
theorem ok_is_list (T : Txt K mg) : FnK P w K mg base CX0 1 "is_list" ["thing"] (spIsList K) := by
  refine T.is_list.ok sc_is_list (fun vs H Q E h => ?_) (fun cdv A outer s H vs Q E hr h => ?_)
  · obtain ⟨v, t, b, rfl, _⟩ := h
    rfl
  obtain ⟨v, t, b, rfl, ty, e, q⟩ := h
  refine ⟨_, (pss_one (ps_ret (pe_callB call_isiTY rfl T.n_isinstance (by decide +kernel) (pa_cons (pv 0) (pa_cons (pe_tup (pa_cons (pe_bltn (v := .ty "list") rfl T.n_list (by decide +kernel) rfl) (pa_cons (pe_bltn (v := .ty "tuple") rfl T.n_tuple (by decide +kernel) rfl) pa_nil))) pa_nil))))), ?_⟩
  refine ⟨_, rfl, (by show 2 ≤ sizeLine; decide), fun p hp => ?_⟩
  exact ⟨_, p, _, t, _, b, rfl, upd_same, .cons (.ty "list") (.cons (.ty "tuple") .nil), tyx_same ty (same_new hp _), e, q _ (same_new hp _)⟩
theorem sc_is_whole : FnScope ["thing"] ["thing"] (defScope st_is_whole) := ⟨rfl, rfl, rfl, by decide +kernel, rfl, by decide +kernel, by decide +kernel⟩
theorem ok_is_whole (T : Txt K mg) : FnK P w K mg base CX0 1 "is_whole" ["thing"] (spIsWhole K) := by
  refine T.is_whole.ok sc_is_whole (fun vs H Q E h => ?_) (fun cdv A outer s H vs Q E hr h => ?_)
  · obtain ⟨v, rfl, _⟩ := h
    rfl
  obtain ⟨v, rfl, h⟩ := h
  refine ⟨_, (pss_one (ps_ret (pe_and (pe_callB call_isiY rfl T.n_isinstance (by decide +kernel) (pa_cons (pv 0) (pa_cons (pe_bltn (v := .ty "int") rfl T.n_int (by decide +kernel) rfl) pa_nil))) (pe_one (pe_not (pe_callB call_isiY rfl T.n_isinstance (by decide +kernel) (pa_cons (pv 0) (pa_cons (pe_bltn (v := .ty "bool") rfl T.n_bool (by decide +kernel) rfl) pa_nil)))))))), ?_⟩
  rcases h with ⟨n, rfl, q⟩ | ⟨t, ty, e | ⟨e1, e2⟩, q⟩
  · refine ⟨_, rfl, _, _, _, _, _, rfl, .ty "int", .base (.int n), int_int, true, rfl, iteT ?_⟩
    exact ⟨_, rfl, _, _, _, _, _, rfl, .ty "bool", .base (.int n), int_bool, false, rfl, q⟩
  · exact ⟨_, rfl, _, _, _, _, _, rfl, .ty "int", ty, e, false, rfl, iteF q⟩
  · refine ⟨_, rfl, _, _, _, _, _, rfl, .ty "int", ty, e1, true, rfl, iteT ?_⟩
    exact ⟨_, rfl, _, _, _, _, _, rfl, .ty "bool", ty, e2, true, rfl, q⟩
theorem sc_is_positive : FnScope ["thing"] ["thing"] (defScope st_is_positive) := ⟨rfl, rfl, rfl, by decide +kernel, rfl, by decide +kernel, by decide +kernel⟩
theorem ok_is_positive (T : Txt K mg) : FnK P w K mg base CX0 2 "is_positive" ["thing"] spIsPos := by
  refine T.is_positive.ok sc_is_positive (fun vs H Q E h => ?_) (fun cdv A outer s H vs Q E hr h => ?_)
  · obtain ⟨v, rfl, _⟩ := h
    rfl
  obtain ⟨n, rfl, q⟩ := h
  refine ⟨_, (pss_one (ps_ret (pe_and (pe_f T.is_whole (ok_is_whole T) hr pass0 (pa_cons (pv 0) pa_nil)) (pe_one (pe_cmpR op_ge (pv 0) pe_int (nomark _)))))), ?_⟩
  refine ⟨_, rfl, _, rfl, .inl ⟨n, rfl, true, rfl, iteT ?_⟩⟩
  exact ⟨_, rfl, _, _, rfl, rfl, q⟩
theorem sc_is_pair : FnScope ["thing"] ["thing"] (defScope st_is_pair) := ⟨rfl, rfl, rfl, by decide +kernel, rfl, by decide +kernel, by decide +kernel⟩
theorem ok_is_pair (T : Txt K mg) : FnK P w K mg base CX0 3 "is_pair" ["thing"] (spIsPair K) := by
  refine T.is_pair.ok sc_is_pair (fun vs H Q E h => ?_) (fun cdv A outer s H vs Q E hr h => ?_)
  · obtain ⟨v, b, rfl, _⟩ := h
    rfl
  obtain ⟨v, b, rfl, h, q⟩ := h
  refine ⟨_, (pss_one (ps_ret (pe_and (pe_f T.is_list (ok_is_list T) hr pass0 (pa_cons (pv 0) pa_nil)) (pe_and (pe_cmpR op_eq (pe_callB call_len_seq rfl T.n_len PySem.boot_len (pa_cons (pv 0) pa_nil)) pe_int (nomark _)) (pe_and (pe_f T.is_whole (ok_is_whole T) hr pass0 (pa_cons (pe_ix ix_seq (pv 0) pe_int (fun _ _ => rfl)) pa_nil)) (pe_one (pe_f T.is_whole (ok_is_whole T) hr pass0 (pa_cons (pe_ix ix_seq (pv 0) pe_int (fun _ _ => rfl)) pa_nil)))))))), ?_⟩
  cases h with
  | @yes a x y h =>
    obtain ⟨t, ty, e⟩ := h.ty
    refine ⟨_, rfl, _, _, _, rfl, ty, e, fun H1 s1 => ⟨true, rfl, iteT ?_⟩⟩
    refine ⟨_, rfl, _, _, rfl, (h.same s1).both, ?_⟩
    refine ⟨rfl, true, rfl, iteT ?_⟩
    refine ⟨_, rfl, (h.same s1).ix (v := .int x) rfl ?_⟩
    refine ⟨_, rfl, .inl ⟨x, rfl, true, rfl, iteT ?_⟩⟩
    refine ⟨_, rfl, (h.same s1).ix (v := .int y) rfl ?_⟩
    exact ⟨_, rfl, .inl ⟨y, rfl, q H1 s1⟩⟩
  | @noSeq v t ty e =>
    exact ⟨_, rfl, _, _, _, rfl, ty, e, fun H1 s1 => ⟨false, rfl, iteF (q H1 s1)⟩⟩
  | @len a xs h e =>
    obtain ⟨t, ty, et⟩ := h.ty
    refine ⟨_, rfl, _, _, _, rfl, ty, et, fun H1 s1 => ⟨true, rfl, iteT ?_⟩⟩
    refine ⟨_, rfl, _, _, rfl, (h.same s1).both, ?_⟩
    refine ⟨rfl, false, ?_, iteF (q H1 s1)⟩
    have : decide (V.int (xs.length : Int) = V.int 2) = false := decide_eq_false fun z => by
      have := V.int.inj z
      omega
    exact congrArg V.bl this
  | @odd a x y t h hx e =>
    obtain ⟨t', ty, et⟩ := h.ty
    refine ⟨_, rfl, _, _, _, rfl, ty, et, fun H1 s1 => ⟨true, rfl, iteT ?_⟩⟩
    refine ⟨_, rfl, _, _, rfl, (h.same s1).both, ?_⟩
    refine ⟨rfl, true, rfl, iteT ?_⟩
    refine ⟨_, rfl, (h.same s1).ix (v := x) rfl ?_⟩
    exact ⟨_, rfl, .inr ⟨t, tyx_same hx s1, e, false, rfl, iteF (q H1 s1)⟩⟩
theorem sc_lowest : FnScope ["top", "bottom", "common"] ["top", "bottom"] (defScope st_lowest) := ⟨rfl, rfl, rfl, by decide +kernel, rfl, by decide +kernel, by decide +kernel⟩
theorem ok_lowest (T : Txt K mg) : FnK P w K mg base CX0 1 "lowest" ["top", "bottom"] spLowest := by
  refine T.lowest.ok sc_lowest (fun vs H Q E h => ?_) (fun cdv A outer s H vs Q E hr h => ?_)
  · obtain ⟨a, b, rfl, _⟩ := h
    rfl
  obtain ⟨a, b, rfl, h1, h2, q⟩ := h
  refine ⟨_, (pss_cons (ps_set (i := 2) sc_lowest.nd rfl (Or.inl rfl) (pe_callBfun cr_gcd rfl T.n_gcd (pa_cons (pv 0) (pa_cons (pv 1) pa_nil))))
    (pss_one (ps_ret (pe_tup (pa_cons (pe_op op_fdiv (pv 0) (pv 2)) (pa_cons (pe_op op_fdiv (pv 1) (pv 2)) pa_nil)))))), ?_⟩
  have g1 := AM.gcd_pos (a := a) h1
  have g2 : ((Int.gcd a b : Nat) : Int) ≤ b := Int.gcd_le_right a h1
  refine ⟨_, rfl, _, rfl, a, b, rfl, ?_⟩
  refine ⟨_, rfl, _, rfl, _, _, rfl, rfl, ⟨g1, Int.lt_of_le_of_lt g2 h2⟩, ?_⟩
  refine ⟨_, rfl, _, rfl, _, _, rfl, rfl, ⟨g1, Int.lt_of_le_of_lt g2 h2⟩, ?_⟩
  exact ⟨(by show 2 ≤ sizeLine; decide), fun p hp => q p _ (same_new hp _) hp upd_same⟩
theorem sc_is_fraction : FnScope ["thing"] ["thing"] (defScope st_is_fraction) := ⟨rfl, rfl, rfl, by decide +kernel, rfl, by decide +kernel, by decide +kernel⟩
theorem ok_is_fraction (T : Txt K mg) : FnK P w K mg base CX0 4 "is_fraction" ["thing"] (spIsFraction K) := by
  refine T.is_fraction.ok sc_is_fraction (fun vs H Q E h => ?_) (fun cdv A outer s H vs Q E hr h => ?_)
  · obtain ⟨a, x, y, rfl, _⟩ := h
    rfl
  obtain ⟨a, x, y, rfl, h, hy, q⟩ := h
  refine ⟨_, (pss_one (ps_ret (pe_and (pe_f T.is_pair (ok_is_pair T) hr pass0 (pa_cons (pv 0) pa_nil)) (pe_one (pe_cmpR op_ge (pe_ix ix_seq (pv 0) pe_int (fun _ _ => rfl)) pe_int (nomark _)))))), ?_⟩
  refine ⟨_, rfl, _, _, rfl, .yes h, fun H1 s1 => ⟨true, rfl, iteT ?_⟩⟩
  refine ⟨_, rfl, (h.same s1).ix (v := .int y) rfl ?_⟩
  refine ⟨_, _, rfl, rfl, ?_⟩
  show Q (.bl (decide (1 ≤ y))) H1
  rw [decide_eq_true hy]
  exact q H1 s1
theorem sc_is_prices : FnScope ["thing"] ["thing"] (defScope st_is_prices) := ⟨rfl, rfl, rfl, by decide +kernel, rfl, by decide +kernel, by decide +kernel⟩
theorem ok_is_prices (T : Txt K mg) : FnK P w K mg base CX0 4 "is_prices" ["thing"] (spIsPrices K) := by
  refine T.is_prices.ok sc_is_prices (fun vs H Q E h => ?_) (fun cdv A outer s H vs Q E hr h => ?_)
  · obtain ⟨v, rfl, _⟩ := h
    rfl
  obtain ⟨v, rfl, h⟩ := h
  refine ⟨_, (pss_one (ps_ret (pe_and (pe_f T.is_pair (ok_is_pair T) hr pass0 (pa_cons (pv 0) pa_nil)) (pe_and (pe_cmpR op_gt (pe_ix ix_seq (pv 0) pe_int (fun _ _ => rfl)) pe_int (nomark _)) (pe_one (pe_cmpR op_gt (pe_ix ix_seq (pv 0) pe_int (fun _ _ => rfl)) pe_int (nomark _))))))), ?_⟩
  rcases h with ⟨h, q⟩ | ⟨a, x, y, rfl, h, q⟩
  · exact ⟨_, rfl, _, _, rfl, h, fun H1 s1 => ⟨false, rfl, iteF (q H1 s1)⟩⟩
  · refine ⟨_, rfl, _, _, rfl, .yes h, fun H1 s1 => ⟨true, rfl, iteT ?_⟩⟩
    refine ⟨_, rfl, (h.same s1).ix (v := .int x) rfl ?_⟩
    refine ⟨_, _, rfl, rfl, _, rfl, ?_⟩
    refine ite2 (fun c => ?_) (fun c => ?_)
    · refine ⟨_, rfl, (h.same s1).ix (v := .int y) rfl ?_⟩
      refine ⟨_, _, rfl, rfl, ?_⟩
      have := q H1 s1
      rw [c, Bool.true_and] at this
      exact this
    · have := q H1 s1
      rw [Bool.eq_false_iff.mpr c, Bool.false_and] at this
      exact this
theorem sc_cost_of : FnScope ["prices", "amounts"] ["prices", "amounts"] (defScope st_cost_of) := ⟨rfl, rfl, rfl, by decide +kernel, rfl, by decide +kernel, by decide +kernel⟩
theorem ok_cost_of (T : Txt K mg) : FnK P w K mg base CX0 1 "cost_of" ["prices", "amounts"] (spCostOf K) := by
  refine T.cost_of.ok sc_cost_of (fun vs H Q E h => ?_) (fun cdv A outer s H vs Q E hr h => ?_)
  · obtain ⟨a, b, p, q, x, y, rfl, _⟩ := h
    rfl
  obtain ⟨a, b, p, q, x, y, rfl, h1, h2, hp, hq, k⟩ := h
  refine ⟨_, (pss_one (ps_ret (pe_op op_add (pe_op op_mul (pe_ix ix_tup (pv 0) pe_int (fun _ _ => rfl)) (pe_ix ix_tup (pv 1) pe_int (fun _ _ => rfl))) (pe_op op_mul (pe_ix ix_tup (pv 0) pe_int (fun _ _ => rfl)) (pe_ix ix_tup (pv 1) pe_int (fun _ _ => rfl)))))), ?_⟩
  refine ⟨_, rfl, _, _, _, _, rfl, rfl, SqT.of h1, rfl, _, rfl, _, _, _, _, rfl, rfl, SqT.of h2, rfl, _, _, rfl, rfl, .inl hp, ?_⟩
  refine ⟨_, rfl, _, _, _, _, rfl, rfl, SqT.of h1, rfl, _, rfl, _, _, _, _, rfl, rfl, SqT.of h2, rfl, _, _, rfl, rfl, .inl hq, ?_⟩
  exact ⟨_, _, rfl, rfl, k⟩
end
end Any
end
section
set_option Elab.async false
set_option linter.all false
set_option maxRecDepth 100000
set_option maxHeartbeats 4000000
namespace Any
open PySem PySem.Spec PyProof.Rows L2
/-- the tuples stay -/
def Tups (H H' : Hp) : Prop := ∀ a xs, H a = some (.tup xs) → H' a = some (.tup xs)
theorem Tups.refl (H : Hp) : Tups H H := fun _ _ h => h
theorem Tups.trans {H H1 H2 : Hp} (a : Tups H H1) (b : Tups H1 H2) : Tups H H2 := fun c xs h => b c xs (a c xs h)
theorem Tups.of {H H' : Hp} (s : Same H H') : Tups H H' := fun a xs h => s a _ h
theorem Tups.upd {H : Hp} {p : Addr} {o : HO} (h : ∀ xs, H p ≠ some (.tup xs)) : Tups H (upd H p o) := fun a xs e => by
  rw [upd_ne fun z => h xs (by rw [← z]; exact e)]
  exact e
theorem Tups.updL {H : Hp} {p : Addr} {o : HO} {ys : List V} (h : H p = some (.lst ys)) : Tups H (L2.upd H p o) := .upd fun xs z => by rw [h] at z; cases z
theorem Tups.updK {H : Hp} {p : Addr} {o : HO} {kvs : List (Key × V)} (h : H p = some (.dK kvs)) : Tups H (L2.upd H p o) := .upd fun xs z => by rw [h] at z; cases z
theorem Tups.updN {H : Hp} {p : Addr} {o : HO} (h : H p = none) : Tups H (L2.upd H p o) := .upd fun xs z => by rw [h] at z; cases z
/-! ### rules whose reading names the text itself -/
theorem ixT (K : PySem.W.Frag) {X : Cx} (h : X.K = K := by rfl) : IxR X (rIxT K) := h ▸ ix_tup
theorem ixL (K : PySem.W.Frag) {X : Cx} (h : X.K = K := by rfl) : IxR X (rIxL K) := h ▸ ix_list
theorem inS (K : PySem.W.Frag) {X : Cx} (h : X.K = K := by rfl) : OpR X (compareOp .In) (rIn K false) := h ▸ op_in_seq
theorem notInS (K : PySem.W.Frag) {X : Cx} (h : X.K = K := by rfl) : OpR X (compareOp .NotIn) (rIn K true) := h ▸ op_notIn_seq
/-! ### comprehensions over a list -/
section
variable {K : PySem.W.Frag} {a : Addr} {xs : List V} {te : TE} {vs : List Nat} {σ : L2.St} {H : Hp} {D : Addr} {Qd : Hp → Prop} {i : Nat}
/-- each item gives one thing, told by a word (of its place) that stays while the tuples stay -/
theorem lc_rel (R : Nat → V → Hp → Prop) (hR : ∀ n y H H', Tups H H' → R n y H → R n y H') (hD : H D = none) (ha : SqL K H a xs) (hw : ∀ x, wipe ((wipe σ vs).set i (some x)) vs = wipe σ vs) (hz : xs.length ≤ sizeLine)
    (he : ∀ (n : Nat) x H', xs[n]? = some x → Same H H' → ∀ Q : VK, (∀ y H2, Same H' H2 → R n y H2 → Q y H2) → te ((wipe σ vs).set i (some x)) H' Q)
    (hd : ∀ (ys : List V) H', Same H H' → H' D = some (.lst ys) → ys.length = xs.length → (∀ (n : Nat) y, ys[n]? = some y → R n y H') → Qd H') :
    ∃ W : Nat → Nat → Hp → Prop, (∃ m, W 0 m (upd H D (.lst []))) ∧ ∀ i_1 m H_1, W i_1 m H_1 →
      ((Itl K a).stop i_1 H_1 ∧ Qd H_1) ∨ ((Itl K a).go i_1 H_1 ∧ ∃ Nx : Hp → Prop, (∀ H', Nx H' → ∃ m', m' < m ∧ W (i_1 + 1) m' H') ∧ ∀ x H', (Itl K a).yld i_1 H_1 x H' → gName i x (wipe σ vs) H' fun σ2 H2 => wipe σ2 vs = wipe σ vs ∧ tYes σ2 H2 fun b H3 =>
        if b = true then te σ2 H3 fun y H4 => ∃ acc, H4 D = some (.lst acc) ∧ acc.length < sizeLine ∧ Nx (upd H4 D (.lst (acc ++ [y]))) else Nx H3) := by
  refine lc_list (K := K) (a := a) (xs := xs) (fun n H' => Same H H' ∧ ∃ ys : List V, H' D = some (.lst ys) ∧ ys.length = n ∧ n ≤ xs.length ∧ ∀ (m : Nat) y, ys[m]? = some y → R m y H')
    ⟨same_new hD _, [], upd_same, rfl, Nat.zero_le _, fun m y h => by simp at h⟩ (fun n H' _ p => p.1.seq ha) ?_ ?_
  · rintro n x H' hx ⟨s1, ys, h1, h2, h3, h4⟩
    refine ⟨hw x, ?_⟩
    refine he n x H' hx s1 _ fun y H2 s2 hy => ?_
    have hlt : n < xs.length := (List.getElem?_eq_some_iff.mp hx).1
    have tu : Tups H2 (upd H2 D (.lst (ys ++ [y]))) := .updL (s2 _ _ h1)
    refine ⟨ys, s2 _ _ h1, by omega, Same.mut (Same.trans s1 s2) hD, ys ++ [y], upd_same, by simp [h2], hlt, fun m y' e2 => ?_⟩
    by_cases hm : m < ys.length
    · rw [List.getElem?_append_left hm] at e2
      exact hR _ _ _ _ ((Tups.of s2).trans tu) (h4 m y' e2)
    · have hm2 : m = ys.length := by
        have := (List.getElem?_eq_some_iff.mp e2).1
        simp at this
        omega
      subst hm2
      rw [List.getElem?_append_right (Nat.le_refl _)] at e2
      simp at e2
      subst e2
      rw [h2]
      exact hR _ _ _ _ tu hy
  · rintro H' ⟨s1, ys, h1, h2, h3, h4⟩
    exact hd ys H' s1 h1 h2 h4
/-- the items are g of some data, each gives f of its datum -/
theorem lc_map {β : Type} {bs : List β} {g : β → V} (f : β → V) (hD : H D = none) (ha : SqL K H a (bs.map g)) (hw : ∀ x, wipe ((wipe σ vs).set i (some x)) vs = wipe σ vs) (hz : bs.length ≤ sizeLine)
    (he : ∀ b H', b ∈ bs → Same H H' → ∀ Q : VK, (∀ H2, Same H' H2 → Q (f b) H2) → te ((wipe σ vs).set i (some (g b))) H' Q)
    (hd : ∀ H', Same H H' → H' D = some (.lst (bs.map f)) → Qd H') :
    ∃ W : Nat → Nat → Hp → Prop, (∃ m, W 0 m (upd H D (.lst []))) ∧ ∀ i_1 m H_1, W i_1 m H_1 →
      ((Itl K a).stop i_1 H_1 ∧ Qd H_1) ∨ ((Itl K a).go i_1 H_1 ∧ ∃ Nx : Hp → Prop, (∀ H', Nx H' → ∃ m', m' < m ∧ W (i_1 + 1) m' H') ∧ ∀ x H', (Itl K a).yld i_1 H_1 x H' → gName i x (wipe σ vs) H' fun σ2 H2 => wipe σ2 vs = wipe σ vs ∧ tYes σ2 H2 fun b H3 =>
        if b = true then te σ2 H3 fun y H4 => ∃ acc, H4 D = some (.lst acc) ∧ acc.length < sizeLine ∧ Nx (upd H4 D (.lst (acc ++ [y]))) else Nx H3) := by
  refine lc_rel (xs := bs.map g) (fun n y _ => ∃ b, bs[n]? = some b ∧ y = f b) (fun n y _ _ _ h => h) hD ha hw (by rw [List.length_map]; exact hz) (fun n x H' hx s1 Q q => ?_) fun ys H' s1 h1 h2 h3 => ?_
  · rw [List.getElem?_map] at hx
    cases hb : bs[n]? with
    | none => rw [hb] at hx; cases hx
    | some b =>
      rw [hb] at hx
      cases hx
      exact he b H' (List.mem_of_getElem? hb) s1 Q fun H2 s2 => q _ H2 s2 ⟨b, hb, rfl⟩
  · have e : ys = bs.map f := by
      refine List.ext_getElem? fun n => ?_
      rw [List.getElem?_map]
      rw [List.length_map] at h2
      by_cases hn : n < ys.length
      · obtain ⟨b, hb, e⟩ := h3 n _ (List.getElem?_eq_getElem hn)
        rw [List.getElem?_eq_getElem hn, hb, e]
        rfl
      · rw [List.getElem?_eq_none (by omega), List.getElem?_eq_none (by omega)]
        rfl
    rw [e] at h1
    exact hd H' s1 h1
/-- the data that pass a test, f of each -/
theorem lc_filter {β : Type} {bs : List β} {g : β → V} {tt : TT} (t : β → Bool) (f : β → V) (hD : H D = none) (ha : SqL K H a (bs.map g)) (hw : ∀ x, wipe ((wipe σ vs).set i (some x)) vs = wipe σ vs) (hz : bs.length ≤ sizeLine)
    (ht : ∀ b H', b ∈ bs → Same H H' → ∀ Q : Bool → Hp → Prop, (∀ H2, Same H' H2 → Q (t b) H2) → tt ((wipe σ vs).set i (some (g b))) H' Q)
    (he : ∀ b H', b ∈ bs → t b = true → Same H H' → ∀ Q : VK, (∀ H2, Same H' H2 → Q (f b) H2) → te ((wipe σ vs).set i (some (g b))) H' Q)
    (hd : ∀ H', Same H H' → H' D = some (.lst ((bs.filter t).map f)) → Qd H') :
    ∃ W : Nat → Nat → Hp → Prop, (∃ m, W 0 m (upd H D (.lst []))) ∧ ∀ i_1 m H_1, W i_1 m H_1 →
      ((Itl K a).stop i_1 H_1 ∧ Qd H_1) ∨ ((Itl K a).go i_1 H_1 ∧ ∃ Nx : Hp → Prop, (∀ H', Nx H' → ∃ m', m' < m ∧ W (i_1 + 1) m' H') ∧ ∀ x H', (Itl K a).yld i_1 H_1 x H' → gName i x (wipe σ vs) H' fun σ2 H2 => wipe σ2 vs = wipe σ vs ∧ tt σ2 H2 fun b H3 =>
        if b = true then te σ2 H3 fun y H4 => ∃ acc, H4 D = some (.lst acc) ∧ acc.length < sizeLine ∧ Nx (upd H4 D (.lst (acc ++ [y]))) else Nx H3) := by
  refine lc_list (K := K) (a := a) (xs := bs.map g) (fun n H' => Same H H' ∧ n ≤ bs.length ∧ H' D = some (.lst (((bs.take n).filter t).map f)))
    ⟨same_new hD _, Nat.zero_le _, upd_same⟩ (fun n H' _ p => p.1.seq ha) ?_ ?_
  · rintro n x H' hx ⟨s1, h3, h1⟩
    refine ⟨hw x, ?_⟩
    rw [List.getElem?_map] at hx
    cases hb : bs[n]? with
    | none => rw [hb] at hx; cases hx
    | some b =>
    rw [hb] at hx
    cases hx
    have hlt : n < bs.length := (List.getElem?_eq_some_iff.mp hb).1
    have etake : bs.take (n + 1) = bs.take n ++ [b] := by
      rw [List.take_add_one, hb]
      rfl
    refine ht b H' (List.mem_of_getElem? hb) s1 _ fun H2 s2 => ?_
    refine ite2 (fun c => ?_) (fun c => ?_)
    · refine he b H2 (List.mem_of_getElem? hb) c (s1.trans s2) _ fun H3 s3 => ?_
      refine ⟨_, s3 _ _ (s2 _ _ h1), ?_, Same.mut (Same.trans (Same.trans s1 s2) s3) hD, hlt, ?_⟩
      · have : (((bs.take n).filter t).map f).length ≤ n := by
          rw [List.length_map]
          have := List.length_filter_le t (bs.take n)
          rw [List.length_take] at this
          omega
        omega
      · rw [upd_same, etake, List.filter_append, List.map_append]
        simp [c]
    · refine ⟨s1.trans s2, hlt, ?_⟩
      rw [s2 _ _ h1, etake, List.filter_append, List.map_append]
      simp [c]
  · rintro H' ⟨s1, _, h1⟩
    rw [List.length_map, List.take_length] at h1
    exact hd H' s1 h1
end
/-! ### dicts of whole numbers -/
def kd (d : List (Int × V)) : List (Key × V) := d.map fun p => (Sum.inl p.1, p.2)
theorem kd_get : ∀ (d : List (Int × V)) (k : Int), valV (kd d) (Sum.inl k) = AM.dget d k
  | [], k => rfl
  | p :: r, k => by
    rw [AM.dget_cons]
    by_cases h : p.1 = k
    · rw [if_pos h]
      exact valV_pos (congrArg Sum.inl h)
    · rw [if_neg h]
      have e : valV (kd (p :: r)) (Sum.inl k) = valV (kd r) (Sum.inl k) := valV_neg fun z => h (Sum.inl.inj z)
      rw [e]
      exact kd_get r k
theorem kd_any (d : List (Int × V)) (k : Int) : ((kd d).any fun kv => decide (kv.1 = (Sum.inl k : Key))) = d.any fun p => decide (p.1 = k) := by
  unfold kd
  rw [List.any_map]
  congr 1
  funext p
  show decide ((Sum.inl p.1 : Key) = Sum.inl k) = decide (p.1 = k)
  by_cases h : p.1 = k
  · rw [decide_eq_true h, decide_eq_true (congrArg Sum.inl h)]
  · rw [decide_eq_false h, decide_eq_false fun z => h (Sum.inl.inj z)]
theorem kd_put (d : List (Int × V)) (k : Int) (v : V) : putK (kd d) (Sum.inl k) v = kd (AM.dput d k v) := by
  unfold putK AM.dput
  rw [kd_any]
  split
  · unfold kd
    rw [List.map_map, List.map_map]
    apply List.map_congr_left
    intro p _
    show (if (Sum.inl p.1 : Key) = Sum.inl k then ((Sum.inl p.1 : Key), v) else (Sum.inl p.1, p.2)) = (Sum.inl (if p.1 = k then (p.1, v) else p).1, (if p.1 = k then (p.1, v) else p).2)
    by_cases h : p.1 = k
    · rw [if_pos (congrArg Sum.inl h), if_pos h]
    · rw [if_neg (fun z => h (Sum.inl.inj z)), if_neg h]
  · unfold kd
    rw [List.map_append]
    rfl
theorem kd_len (d : List (Int × V)) : (kd d).length = d.length := List.length_map _
/-- the dict at a -/
theorem dg {H : Hp} {a : Addr} {d : List (Int × V)} (h : H a = some (.dK (kd d))) (k : Int) : DGet H a (.int k) (AM.dget d k) := by
  have := DGet.k (k := Sum.inl k) h
  rw [kd_get] at this
  exact this
theorem dp {H : Hp} {a : Addr} {d : List (Int × V)} (h : H a = some (.dK (kd d))) (k : Int) (v : V) (hl : d.length < sizeLine) : DPut H a (.int k) v (upd H a (.dK (kd (AM.dput d k v)))) := by
  have := DPut.k (k := Sum.inl k) (v := v) h (by rw [kd_len]; exact hl)
  rw [kd_put] at this
  exact this
end Any
end
section
set_option Elab.async false
set_option linter.all false
set_option maxRecDepth 100000
set_option maxHeartbeats 4000000
namespace Any
open PySem PySem.Spec PyProof.Rows L2
/-! ### steps and webs in the heap -/
abbrev SL := List (Addr × AM.Stp)
def refs (ss : SL) : List V := ss.map fun p => V.ref p.1
def stps (ss : SL) : List AM.Stp := ss.map (·.2)
/-- at a: a step's tuple -/
def StpAt (H : Hp) (a : Addr) (e : AM.Stp) : Prop := ∃ b, H a = some (.tup [.int e.s, .int e.t, .ref b, .int e.k, .int e.c]) ∧ H b = some (.tup [.int e.x, .int e.y])
theorem StpAt.up {H H' : Hp} {a : Addr} {e : AM.Stp} (h : StpAt H a e) (s : Tups H H') : StpAt H' a e := let ⟨b, h1, h2⟩ := h; ⟨b, s _ _ h1, s _ _ h2⟩
theorem StpAt.uniq {H : Hp} {a : Addr} {e f : AM.Stp} (h : StpAt H a e) (g : StpAt H a f) : e = f := by
  obtain ⟨b, h1, h2⟩ := h
  obtain ⟨c, g1, g2⟩ := g
  rw [h1] at g1
  injection g1 with g1
  injection g1 with g1
  simp only [List.cons.injEq, V.int.injEq, V.ref.injEq] at g1
  obtain ⟨q1, q2, q3, q4, q5, _⟩ := g1
  subst q3
  rw [h2] at g2
  injection g2 with g2
  injection g2 with g2
  simp only [List.cons.injEq, V.int.injEq] at g2
  obtain ⟨q6, q7, _⟩ := g2
  cases e
  cases f
  simp_all
def StepsOk (H : Hp) (ss : SL) : Prop := ∀ p ∈ ss, StpAt H p.1 p.2
theorem StepsOk.up {H H' : Hp} {ss : SL} (h : StepsOk H ss) (s : Tups H H') : StepsOk H' ss := fun p hp => (h p hp).up s
/-- the sizes that the law draws -/
structure Bd (N : Nat) (e : AM.Stp) : Prop where
  s : 0 ≤ e.s ∧ e.s < (N : Int)
  t : 0 ≤ e.t ∧ e.t < (N : Int)
  x : -9 ≤ e.x ∧ e.x ≤ 9
  y : -9 ≤ e.y ∧ e.y ≤ 9
  k : 1 ≤ e.k ∧ e.k ≤ 6
  c : -9 ≤ e.c ∧ e.c ≤ 9
def BdS (N : Nat) (ss : SL) : Prop := ∀ p ∈ ss, Bd N p.2
/-- a web: N places, the steps ss -/
structure WebAt (K : PySem.W.Frag) (H : Hp) (wb : Addr) (N : Nat) (ss : SL) : Prop where
  ins : ∃ dx fs l, H wb = some (.ins (He.ga K "Web") dx fs) ∧ fs.lookup ("own_places" : Str) = some (.int (N : Int)) ∧ fs.lookup ("own_steps" : Str) = some (.ref l) ∧ H l = some (.lst (refs ss))
  ok : StepsOk H ss
  bd : BdS N ss
  few : ss.length ≤ 14
  n1 : 1 ≤ N
  n6 : N ≤ 6
theorem WebAt.up {K : PySem.W.Frag} {H H' : Hp} {wb : Addr} {N : Nat} {ss : SL} (h : WebAt K H wb N ss) (s : Same H H') : WebAt K H' wb N ss := by
  obtain ⟨⟨dx, fs, l, h1, h2, h3, h4⟩, h5, h6, h7, h8, h9⟩ := h
  exact ⟨⟨dx, fs, l, s _ _ h1, h2, h3, s _ _ h4⟩, h5.up (Tups.of s), h6, h7, h8, h9⟩
def spIsPlace (K : PySem.W.Frag) : Sp := fun vs H Q _ => ∃ (v : V) (N : Int), vs = [v, .int N] ∧ ((∃ n : Int, v = .int n ∧ Q (.bl (decide (0 ≤ n) && decide (n < N))) H) ∨ (∃ t, TyY K H v t ∧ NoInt K t ∧ Q (.bl false) H))
def spIsStep : Sp := fun vs H Q _ => ∃ (a : Addr) (e : AM.Stp) (N : Int), vs = [.ref a, .int N] ∧ StpAt H a e ∧ (0 ≤ e.s ∧ e.s < N) ∧ (0 ≤ e.t ∧ e.t < N) ∧ 1 ≤ e.k ∧ ∀ H', Same H H' → Q (.bl true) H'
def spSums : Sp := fun vs H Q _ => ∃ (l : Addr) (ss : SL), vs = [.ref l] ∧ H l = some (.lst (refs ss)) ∧ StepsOk H ss ∧ ss.length ≤ 1000 ∧
  ∀ p q H', Same H H' → H' p = some (.tup [.ref q, .int (AM.wsum (·.k) (stps ss)), .int (AM.wsum (·.c) (stps ss))]) → H' q = some (.tup [.int (AM.wsum (·.x) (stps ss)), .int (AM.wsum (·.y) (stps ss))]) → Q (.ref p) H'
/-- an exception that a def raises: its class, its one field -/
def Raised (E : XK) (H : Hp) (C : Addr) (f : Str) (v : V) : Prop := ∀ d H', Same H H' → H' d = some (.xd [(f, v)]) → E (.ref C) (some d) H'
def spInitX (K : PySem.W.Frag) (C : Addr) (f : Str) : Sp := fun vs H Q _ => ∃ (a : Addr) (v : V), vs = [.ref a, v] ∧ H a = some (exo a C none) ∧ ∀ dx, H dx = none → dx ≠ a → Q .non (upd (upd H dx (exd dx [(f, v)])) a (exo a C (some dx)))
/-- no place of N -/
def BadP (K : PySem.W.Frag) (H : Hp) (v : V) (N : Nat) : Prop := (∃ n : Int, v = .int n ∧ ¬ (0 ≤ n ∧ n < (N : Int))) ∨ ∃ t, TyY K H v t ∧ NoInt K t
def spCheckPlace (K : PySem.W.Frag) : Sp := fun vs H Q E => ∃ (wb : Addr) (v : V) (N : Nat) (ss : SL), vs = [.ref wb, v] ∧ WebAt K H wb N ss ∧
  ((∃ n : Int, v = .int n ∧ 0 ≤ n ∧ n < (N : Int) ∧ Q .non H) ∨ (BadP K H v N ∧ Raised E H (He.ga K "BadPlace") "place" v))
def spChkPrices (K : PySem.W.Frag) : Sp := fun vs H Q E => ∃ v, vs = [v] ∧
  ((∃ (a : Addr) (x y : Int), v = .ref a ∧ Sq K H a [.int x, .int y] ∧ 0 < x ∧ 0 < y ∧ ∀ p H', Same H H' → H' p = some (.tup [.int x, .int y]) → Q (.ref p) H') ∨
   ((PairV K H v false ∨ ∃ (a : Addr) (x y : Int), v = .ref a ∧ Sq K H a [.int x, .int y] ∧ ¬ (0 < x ∧ 0 < y)) ∧ Raised E H (He.ga K "BadPrices") "thing" v))
section
variable {P : Program} {w : World} {K : PySem.W.Frag} {mg : Str → Option Value} {base : Heap}
theorem sc_is_place : FnScope ["thing", "places"] ["thing", "places"] (defScope st_is_place) := ⟨rfl, rfl, rfl, by decide +kernel, rfl, by decide +kernel, by decide +kernel⟩
theorem ok_is_place (T : Txt K mg) : FnK P w K mg base CX0 2 "is_place" ["thing", "places"] (spIsPlace K) := by
  refine T.is_place.ok sc_is_place (fun vs H Q E h => ?_) (fun cdv A outer s H vs Q E hr h => ?_)
  · obtain ⟨v, N, rfl, _⟩ := h
    rfl
  obtain ⟨v, N, rfl, h⟩ := h
  refine ⟨_, (pss_one (ps_ret (pe_and (pe_f T.is_whole (ok_is_whole T) hr pass0 (pa_cons (pv 0) pa_nil)) (pe_one (pe_chain op_le op_lt pe_int (pv 0) (pv 1)))))), ?_⟩
  rcases h with ⟨n, rfl, q⟩ | ⟨t, ty, e, q⟩
  · refine ⟨_, rfl, _, rfl, .inl ⟨n, rfl, true, rfl, iteT ?_⟩⟩
    refine ⟨_, rfl, _, _, rfl, rfl, _, rfl, ?_⟩
    refine ite2 (fun c => ?_) (fun c => ?_)
    · refine ⟨_, rfl, _, _, rfl, rfl, ?_⟩
      rw [c, Bool.true_and] at q
      exact q
    · rw [Bool.eq_false_iff.mpr c, Bool.false_and] at q
      exact q
  · exact ⟨_, rfl, _, rfl, .inr ⟨t, ty, e, false, rfl, iteF q⟩⟩
theorem sc_is_step : FnScope ["thing", "places"] ["thing", "places"] (defScope st_is_step) := ⟨rfl, rfl, rfl, by decide +kernel, rfl, by decide +kernel, by decide +kernel⟩
theorem ok_is_step (T : Txt K mg) : FnK P w K mg base CX0 4 "is_step" ["thing", "places"] spIsStep := by
  refine T.is_step.ok sc_is_step (fun vs H Q E h => ?_) (fun cdv A outer s H vs Q E hr h => ?_)
  · obtain ⟨a, e, N, rfl, _⟩ := h
    rfl
  obtain ⟨a, e, N, rfl, ⟨b, ha, hb⟩, hs, ht, hk, q⟩ := h
  refine ⟨_, (pss_cons (ps_if (PW.pt (pw_or (pt_not (pt_val (pe_f T.is_list (ok_is_list T) hr pass0 (pa_cons (pv 0) pa_nil)))) (pw_or (pt_cmpR op_ne (pe_callB call_len_seq rfl T.n_len PySem.boot_len (pa_cons (pv 0) pa_nil)) pe_int (nomark _)) (pw_or (pt_not (pt_val (pe_f T.is_place (ok_is_place T) hr pass0 (pa_cons (pe_ix ix_tup (pv 0) pe_int (fun _ _ => rfl)) (pa_cons (pv 1) pa_nil))))) (pw_or1 (pt_not (pt_val (pe_f T.is_place (ok_is_place T) hr pass0 (pa_cons (pe_ix ix_tup (pv 0) pe_int (fun _ _ => rfl)) (pa_cons (pv 1) pa_nil)))))))))) (pss_one (ps_ret pe_bl)) pss_nil)
    (pss_one (ps_ret (pe_and (pe_f T.is_pair (ok_is_pair T) hr pass0 (pa_cons (pe_ix ix_tup (pv 0) pe_int (fun _ _ => rfl)) pa_nil)) (pe_and (pe_f T.is_positive (ok_is_positive T) hr pass0 (pa_cons (pe_ix ix_tup (pv 0) pe_int (fun _ _ => rfl)) pa_nil)) (pe_one (pe_f T.is_whole (ok_is_whole T) hr pass0 (pa_cons (pe_ix ix_tup (pv 0) pe_int (fun _ _ => rfl)) pa_nil)))))))), ?_⟩
  refine ⟨_, rfl, _, _, _, rfl, .base (.tup ha), tlt_tup, fun H1 s1 => ⟨true, rfl, ?_⟩⟩
  refine iteF ⟨_, rfl, _, _, rfl, .inr (SqT.of (s1 _ _ ha)), rfl, _, rfl, ?_⟩
  refine iteF ⟨_, rfl, _, _, _, _, rfl, rfl, SqT.of (s1 _ _ ha), rfl, _, rfl, _, _, rfl, .inl ⟨e.s, rfl, ?_⟩⟩
  rw [decide_eq_true hs.1, decide_eq_true hs.2]
  refine ⟨_, rfl, iteF ⟨_, rfl, _, _, _, _, rfl, rfl, SqT.of (s1 _ _ ha), rfl, _, rfl, _, _, rfl, .inl ⟨e.t, rfl, ?_⟩⟩⟩
  rw [decide_eq_true ht.1, decide_eq_true ht.2]
  refine ⟨_, rfl, iteF ?_⟩
  refine ⟨_, rfl, _, _, _, _, rfl, rfl, SqT.of (s1 _ _ ha), rfl, _, _, rfl, .yes (.inr (s1 _ _ hb)), fun H2 s2 => ⟨true, rfl, iteT ?_⟩⟩
  have s12 := s1.trans s2
  refine ⟨_, rfl, _, _, _, _, rfl, rfl, SqT.of (s12 _ _ ha), rfl, e.k, rfl, ?_⟩
  rw [decide_eq_true hk]
  refine ⟨true, rfl, iteT ?_⟩
  exact ⟨_, rfl, _, _, _, _, rfl, rfl, SqT.of (s12 _ _ ha), rfl, _, rfl, .inl ⟨e.c, rfl, q H2 s12⟩⟩
theorem sc_sums_of : FnScope ["steps", "first", "second", "step"] ["steps"] (defScope st_sums_of) := ⟨rfl, rfl, rfl, by decide +kernel, rfl, by decide +kernel, by decide +kernel⟩
theorem refs_len (ss : SL) : (refs ss).length = ss.length := List.length_map _
theorem sum_map (f : AM.Stp → Int) (ss : SL) : (ss.map fun p => f p.2).sum = AM.wsum f (stps ss) := by
  unfold AM.wsum stps
  rw [List.map_map]
  rfl
theorem ok_sums_of (T : Txt K mg) : FnK P w K mg base CX0 1 "sums_of" ["steps"] spSums := by
  refine T.sums_of.ok sc_sums_of (fun vs H Q E h => ?_) (fun cdv A outer s H vs Q E hr h => ?_)
  · obtain ⟨l, ss, rfl, _⟩ := h
    rfl
  obtain ⟨l, ss, rfl, hl, ok, few, q⟩ := h
  refine ⟨_, (pss_cons (ps_par (i := 1) (j := 2) (by rfl) sc_sums_of.nd rfl rfl (by decide) rfl rfl (pa_cons (pe_callB (cr_sum rfl) rfl T.n_sum (by decide +kernel) (pa_cons (pe_lc (own := [("step", 3)]) (g := gName 3) rfl sc_sums_of.nd (pi_list (pv 0)) (blkOk_by (own := [("step", 3)]) (N := ["steps", "first", "second", "step"]) (sc := defScope st_sums_of) (by decide +kernel)) (fun _ _ _ _ _ => (pg_name (i := 3) sc_sums_of.nd rfl (Or.inl rfl))) (fun _ _ _ _ _ => pts_nil) (fun _ _ _ _ _ => (pe_ix (ixT K) (pe_ix (ixT K) (pv 3) pe_int (fun _ _ => rfl)) pe_int (fun _ _ => rfl)))) pa_nil)) (pa_cons (pe_callB (cr_sum rfl) rfl T.n_sum (by decide +kernel) (pa_cons (pe_lc (own := [("step", 3)]) (g := gName 3) rfl sc_sums_of.nd (pi_list (pv 0)) (blkOk_by (own := [("step", 3)]) (N := ["steps", "first", "second", "step"]) (sc := defScope st_sums_of) (by decide +kernel)) (fun _ _ _ _ _ => (pg_name (i := 3) sc_sums_of.nd rfl (Or.inl rfl))) (fun _ _ _ _ _ => pts_nil) (fun _ _ _ _ _ => (pe_ix (ixT K) (pe_ix (ixT K) (pv 3) pe_int (fun _ _ => rfl)) pe_int (fun _ _ => rfl)))) pa_nil)) pa_nil)) (by rfl))
    (pss_one (ps_ret (pe_tup (pa_cons (pe_tup (pa_cons (pv 1) (pa_cons (pv 2) pa_nil))) (pa_cons (pe_callB (cr_sum rfl) rfl T.n_sum (by decide +kernel) (pa_cons (pe_lc (own := [("step", 3)]) (g := gName 3) rfl sc_sums_of.nd (pi_list (pv 0)) (blkOk_by (own := [("step", 3)]) (N := ["steps", "first", "second", "step"]) (sc := defScope st_sums_of) (by decide +kernel)) (fun _ _ _ _ _ => (pg_name (i := 3) sc_sums_of.nd rfl (Or.inl rfl))) (fun _ _ _ _ _ => pts_nil) (fun _ _ _ _ _ => (pe_ix (ixT K) (pv 3) pe_int (fun _ _ => rfl)))) pa_nil)) (pa_cons (pe_callB (cr_sum rfl) rfl T.n_sum (by decide +kernel) (pa_cons (pe_lc (own := [("step", 3)]) (g := gName 3) rfl sc_sums_of.nd (pi_list (pv 0)) (blkOk_by (own := [("step", 3)]) (N := ["steps", "first", "second", "step"]) (sc := defScope st_sums_of) (by decide +kernel)) (fun _ _ _ _ _ => (pg_name (i := 3) sc_sums_of.nd rfl (Or.inl rfl))) (fun _ _ _ _ _ => pts_nil) (fun _ _ _ _ _ => (pe_ix (ixT K) (pv 3) pe_int (fun _ _ => rfl)))) pa_nil)) pa_nil))))))), ?_⟩
  have few' := small_line (show ss.length ≤ 1000000 by omega)
  have mm : ∀ f : AM.Stp → Int, (ss.map fun p => V.int (f p.2)) = (ss.map fun p => f p.2).map V.int := fun f => by rw [List.map_map]; rfl
  -- first, second
  refine ⟨_, rfl, _, rfl, ⟨_, SqL.of hl⟩, fun D1 n1 => lc_map (bs := ss) (fun p => .int p.2.x) n1 (SqL.of hl) (fun _ => rfl) few' (fun p H' hp s1 Q' q' => ?_) fun H1 s1 e1 => ?_⟩
  · obtain ⟨b, h1, h2⟩ := ok p hp
    exact ⟨_, rfl, _, _, _, _, rfl, rfl, SqT.of (s1 _ _ h1), rfl, _, _, _, _, rfl, rfl, SqT.of (s1 _ _ h2), rfl, q' H' (Same.refl _)⟩
  rw [mm] at e1
  refine ⟨D1, _, rfl, SqL.of e1, ?_⟩
  refine ⟨_, rfl, _, rfl, ⟨_, SqL.of (s1 _ _ hl)⟩, fun D2 n2 => lc_map (bs := ss) (fun p => .int p.2.y) n2 (SqL.of (s1 _ _ hl)) (fun _ => rfl) few' (fun p H' hp s2 Q' q' => ?_) fun H2 s2 e2 => ?_⟩
  · obtain ⟨b, h1, h2⟩ := ok p hp
    have s12 := s1.trans s2
    exact ⟨_, rfl, _, _, _, _, rfl, rfl, SqT.of (s12 _ _ h1), rfl, _, _, _, _, rfl, rfl, SqT.of (s12 _ _ h2), rfl, q' H' (Same.refl _)⟩
  have s12 := s1.trans s2
  rw [mm] at e2
  refine ⟨D2, _, rfl, SqL.of e2, _, _, rfl, ?_⟩
  -- the pair
  refine ⟨_, rfl, _, rfl, (by show 2 ≤ sizeLine; decide), fun q1 nq1 => ?_⟩
  have s13 := s12.trans (same_new nq1 (.tup [.int (ss.map fun p => p.2.x).sum, .int (ss.map fun p => p.2.y).sum]))
  refine ⟨_, rfl, _, rfl, ⟨_, SqL.of (s13 _ _ hl)⟩, fun D3 n3 => lc_map (bs := ss) (fun p => .int p.2.k) n3 (SqL.of (s13 _ _ hl)) (fun _ => rfl) few' (fun p H' hp s4 Q' q' => ?_) fun H4 s4 e4 => ?_⟩
  · obtain ⟨b, h1, h2⟩ := ok p hp
    have s14 := s13.trans s4
    exact ⟨_, rfl, _, _, _, _, rfl, rfl, SqT.of (s14 _ _ h1), rfl, q' H' (Same.refl _)⟩
  have s14 := s13.trans s4
  rw [mm] at e4
  refine ⟨D3, _, rfl, SqL.of e4, ?_⟩
  refine ⟨_, rfl, _, rfl, ⟨_, SqL.of (s14 _ _ hl)⟩, fun D4 n4 => lc_map (bs := ss) (fun p => .int p.2.c) n4 (SqL.of (s14 _ _ hl)) (fun _ => rfl) few' (fun p H' hp s5 Q' q' => ?_) fun H5 s5 e5 => ?_⟩
  · obtain ⟨b, h1, h2⟩ := ok p hp
    have s15 := s14.trans s5
    exact ⟨_, rfl, _, _, _, _, rfl, rfl, SqT.of (s15 _ _ h1), rfl, q' H' (Same.refl _)⟩
  have s15 := s14.trans s5
  rw [mm] at e5
  refine ⟨D4, _, rfl, SqL.of e5, ?_⟩
  refine ⟨(by show 3 ≤ sizeLine; decide), fun p1 np1 => ?_⟩
  have s16 := s15.trans (same_new np1 (.tup [.ref q1, .int (ss.map fun p => p.2.k).sum, .int (ss.map fun p => p.2.c).sum]))
  refine q p1 q1 _ s16 ?_ ?_
  · rw [← sum_map, ← sum_map]
    exact upd_same
  · rw [← sum_map, ← sum_map, upd_ne (ne_of_none (s5 _ _ (s4 _ _ upd_same)) np1)]
    exact s5 _ _ (s4 _ _ upd_same)
end
end Any
end
section
set_option Elab.async false
set_option linter.all false
set_option maxRecDepth 100000
set_option maxHeartbeats 4000000
namespace Any
open PySem PySem.Spec PyProof.Rows L2
/-! ### what raises -/
abbrev CXw (P : Program) (w : World) : CXT := L2.CX P w
section
variable {P : Program} {w : World} {K : PySem.W.Frag} {mg : Str → Option Value} {base : Heap}
theorem DefM.ok {CX : CXT} {C m q : Str} {st : Stmt} {ps N : List Str} {k : Nat} {sp : Sp} (D : DefM K C m q st ps) (S : FnScope N ps (defScope st)) (len : ∀ vs H Q E, sp vs H Q E → vs.length = ps.length)
    (hbody : ∀ (cdv : Value) (A : Around) (outer : List Env) (s : Shared) (H : Hp) (vs : List V) (Q : VK) (E : XK), Room k (A.deeper (envOfC q (defScope st) s.heap.objs.size (He.ma K (He.ga K C) m) cdv)) → sp vs H Q E →
      ∃ t, PSs (cxOf CX P w K mg base N q (defScope st) (He.ma K (He.ga K C) m) cdv A outer s H E) (defBody st) t ∧ t { nx := fun _ H' => Q .non H', rt := Q } (start N vs) H) : FnOk P w K mg base CX (k + 1) (He.ma K (He.ga K C) m) (fdOf K (He.ma K (He.ga K C) m)) ps sp := D.F.ok S len hbody
theorem sc_BadPlace_init : FnScope ["self", "place"] ["self", "place"] (defScope st_BadPlace_init) := ⟨rfl, rfl, rfl, by decide +kernel, rfl, by decide +kernel, by decide +kernel⟩
theorem ok_BadPlace_init (T : Txt K mg) : FnOk P w K mg base CX0 1 (He.ma K (He.ga K "BadPlace") "__init__") (fdOf K (He.ma K (He.ga K "BadPlace") "__init__")) ["self", "place"] (spInitX K (He.ga K "BadPlace") "place") := by
  refine T.d_BadPlace.ok sc_BadPlace_init (fun vs H Q E h => ?_) (fun cdv A outer s H vs Q E hr h => ?_)
  · obtain ⟨a, v, rfl, _⟩ := h
    rfl
  obtain ⟨a, v, rfl, h, q⟩ := h
  refine ⟨_, (pss_one (ps_ost (pv 0) (pv 1))), ?_⟩
  exact ⟨_, rfl, _, rfl, a, _, rfl, T.o_BadPlace, T.a_BadPlace, .inl ⟨h, fun dx h1 h2 => q dx h1 h2⟩⟩
theorem sc_BadPrices_init : FnScope ["self", "thing"] ["self", "thing"] (defScope st_BadPrices_init) := ⟨rfl, rfl, rfl, by decide +kernel, rfl, by decide +kernel, by decide +kernel⟩
theorem ok_BadPrices_init (T : Txt K mg) : FnOk P w K mg base CX0 1 (He.ma K (He.ga K "BadPrices") "__init__") (fdOf K (He.ma K (He.ga K "BadPrices") "__init__")) ["self", "thing"] (spInitX K (He.ga K "BadPrices") "thing") := by
  refine T.d_BadPrices.ok sc_BadPrices_init (fun vs H Q E h => ?_) (fun cdv A outer s H vs Q E hr h => ?_)
  · obtain ⟨a, v, rfl, _⟩ := h
    rfl
  obtain ⟨a, v, rfl, h, q⟩ := h
  refine ⟨_, (pss_one (ps_ost (pv 0) (pv 1))), ?_⟩
  exact ⟨_, rfl, _, rfl, a, _, rfl, T.o_BadPrices, T.a_BadPrices, .inl ⟨h, fun dx h1 h2 => q dx h1 h2⟩⟩
/-- the making of an exception, read -/
theorem raised {E : XK} {H H1 : Hp} {C : Addr} {f : Str} {v : V} (R : Raised E H C f v) (s : Same H H1) : ∀ a, H1 a = none → spInitX K C f (.ref a :: ([v] ++ [])) (upd H1 a (exo a C none))
  (fun u H2 => u = .non ∧ ∃ (d : Addr) (fs : List (Str × V)), H2 a = some (exo a C (some d)) ∧ H2 d = some (exd d fs) ∧ H1 d = none ∧ E (.ref C) (some d) (upd (del H2 a) d (.xd fs))) (fun _ _ _ => False) := by
  refine fun a ha => ⟨a, v, rfl, upd_same, fun dx h1 h2 => ⟨rfl, dx, _, upd_same, ?_, ?_, R dx _ ?_ upd_same⟩⟩
  · rw [upd_ne h2]
    exact upd_same
  · rw [← upd_ne (H := H1) (o := exo a C none) h2]
    exact h1
  · refine Same.trans s fun b o hb => ?_
    have n1 : b ≠ dx := fun z => by
      rw [z, ← upd_ne (H := H1) (o := exo a C none) h2, h1] at hb
      cases hb
    have n2 : b ≠ a := ne_of_none hb ha
    rw [upd_ne n1, del_ne n2, upd_ne n2, upd_ne n1, upd_ne n2]
    exact hb
theorem sc_check_place : FnScope ["web", "thing"] ["web", "thing"] (defScope st_check_place) := ⟨rfl, rfl, rfl, by decide +kernel, rfl, by decide +kernel, by decide +kernel⟩
theorem ok_check_place (T : Txt K mg) : FnK P w K mg base (CXw P w) 4 "check_place" ["web", "thing"] (spCheckPlace K) := by
  refine T.check_place.ok sc_check_place (fun vs H Q E h => ?_) (fun cdv A outer s H vs Q E hr h => ?_)
  · obtain ⟨wb, v, N, ss, rfl, _⟩ := h
    rfl
  obtain ⟨wb, v, N, ss, rfl, ⟨⟨dx, fs, l, h1, h2, h3, h4⟩, _⟩, h⟩ := h
  refine ⟨_, (pss_one (ps_if (pt_not (pt_val (pe_f T.is_place (ok_is_place T) hr pass0 (pa_cons (pv 1) (pa_cons (pe_fld (pv 0) rfl) pa_nil))))) (pss_one (ps_raise rfl (takes_of rfl rfl rfl rfl) (pmk_oex T.o_BadPlace T.i_BadPlace T.t_BadPlace (ok_BadPlace_init T) (hr.mono (by decide)) T.d_BadPlace.b .nil pass0 rfl T.c_BadPlace (pa_cons (pv 1) pa_nil)))) pss_nil)), ?_⟩
  refine ⟨_, rfl, _, rfl, wb, _, dx, fs, _, rfl, h1, T.webC, T.webP, h2, ?_⟩
  rcases h with ⟨n, rfl, a, b, q⟩ | ⟨⟨n, rfl, nn⟩ | ⟨t, ty, e⟩, R⟩
  · refine ⟨_, _, rfl, .inl ⟨n, rfl, ?_⟩⟩
    rw [decide_eq_true a, decide_eq_true b]
    exact ⟨_, rfl, iteF q⟩
  · refine ⟨_, _, rfl, .inl ⟨n, rfl, ?_⟩⟩
    have : (decide (0 ≤ n) && decide (n < (N : Int))) = false := Bool.eq_false_iff.mpr fun z => nn (by simpa using z)
    rw [this]
    exact ⟨_, rfl, iteT ⟨_, rfl, (by show 1 ≤ 1000; decide), raised R (Same.refl _)⟩⟩
  · exact ⟨_, _, rfl, .inr ⟨t, ty, e, _, rfl, iteT ⟨_, rfl, (by show 1 ≤ 1000; decide), raised R (Same.refl _)⟩⟩⟩
theorem sc_checked_prices : FnScope ["thing"] ["thing"] (defScope st_checked_prices) := ⟨rfl, rfl, rfl, by decide +kernel, rfl, by decide +kernel, by decide +kernel⟩
theorem ok_checked_prices (T : Txt K mg) : FnK P w K mg base (CXw P w) 5 "checked_prices" ["thing"] (spChkPrices K) := by
  refine T.checked_prices.ok sc_checked_prices (fun vs H Q E h => ?_) (fun cdv A outer s H vs Q E hr h => ?_)
  · obtain ⟨v, rfl, _⟩ := h
    rfl
  obtain ⟨v, rfl, h⟩ := h
  refine ⟨_, (pss_cons (ps_if (pt_not (pt_val (pe_f T.is_prices (ok_is_prices T) hr pass0 (pa_cons (pv 0) pa_nil)))) (pss_one (ps_raise rfl (takes_of rfl rfl rfl rfl) (pmk_oex T.o_BadPrices T.i_BadPrices T.t_BadPrices (ok_BadPrices_init T) (hr.mono (by decide)) T.d_BadPrices.b .nil pass0 rfl T.c_BadPrices (pa_cons (pv 0) pa_nil)))) pss_nil)
    (pss_one (ps_ret (pe_callTy call_tuple_of rfl T.n_tuple (by decide +kernel) (pa_cons (pv 0) pa_nil))))), ?_⟩
  refine ⟨_, rfl, v, rfl, ?_⟩
  rcases h with ⟨a, x, y, rfl, h, hx, hy, q⟩ | ⟨h, R⟩
  · refine .inr ⟨a, x, y, rfl, h, fun H1 s1 => ?_⟩
    rw [decide_eq_true hx, decide_eq_true hy]
    refine ⟨_, rfl, iteF ⟨_, rfl, _, [.int x, .int y], rfl, ?_⟩⟩
    rcases h with h | h
    · exact .inl ⟨SqL.of (s1 _ _ h), fun p hp => q p _ (s1.trans (same_new hp _)) upd_same⟩
    · exact .inr ⟨SqT.of (s1 _ _ h), q a _ s1 (s1 _ _ h)⟩
  · rcases h with h | ⟨a, x, y, rfl, h, n⟩
    · exact .inl ⟨h, fun H1 s1 => ⟨_, rfl, iteT ⟨_, rfl, (by show 1 ≤ 1000; decide), raised R s1⟩⟩⟩
    · refine .inr ⟨a, x, y, rfl, h, fun H1 s1 => ?_⟩
      have : (decide (0 < x) && decide (0 < y)) = false := Bool.eq_false_iff.mpr fun z => n (by simpa using z)
      rw [this]
      exact ⟨_, rfl, iteT ⟨_, rfl, (by show 1 ≤ 1000; decide), raised R s1⟩⟩
theorem sc_checked_fraction : FnScope ["thing"] ["thing"] (defScope st_checked_fraction) := ⟨rfl, rfl, rfl, by decide +kernel, rfl, by decide +kernel, by decide +kernel⟩
theorem ok_checked_fraction (T : Txt K mg) : FnK P w K mg base CX0 5 "checked_fraction" ["thing"] (spChkFraction K) := by
  refine T.checked_fraction.ok sc_checked_fraction (fun vs H Q E h => ?_) (fun cdv A outer s H vs Q E hr h => ?_)
  · obtain ⟨a, x, y, rfl, _⟩ := h
    rfl
  obtain ⟨a, x, y, rfl, h, h1, h2, q⟩ := h
  refine ⟨_, (pss_cons (ps_if (pt_not (pt_val (pe_f T.is_fraction (ok_is_fraction T) hr pass0 (pa_cons (pv 0) pa_nil)))) (pss_one ps_never) pss_nil)
    (pss_one (ps_ret (pe_f T.lowest (ok_lowest T) hr pass0 (pa_cons (pe_ix ix_seq (pv 0) pe_int (fun _ _ => rfl)) (pa_cons (pe_ix ix_seq (pv 0) pe_int (fun _ _ => rfl)) pa_nil)))))), ?_⟩
  refine ⟨_, rfl, a, x, y, rfl, h, h1, fun H1 s1 => ⟨_, rfl, iteF ?_⟩⟩
  refine ⟨_, rfl, (h.same s1).ix (v := .int x) rfl ?_⟩
  refine ⟨_, rfl, (h.same s1).ix (v := .int y) rfl ?_⟩
  exact ⟨x, y, rfl, by omega, h2, fun p H' s2 _ e => q p H' (s1.trans s2) e⟩
end
end Any
end
section
set_option Elab.async false
set_option linter.all false
set_option maxRecDepth 100000
set_option maxHeartbeats 4000000
namespace Any
open PySem PySem.Spec PyProof.Rows L2
/-! ### a dict whose keys are steps -/
def nk (e : AM.Stp) : NestedKey := .tup [.num e.s, .num e.t, .tup [.num e.x, .num e.y], .num e.k, .num e.c]
theorem nk_inj {e f : AM.Stp} (h : nk e = nk f) : e = f := by
  unfold nk at h
  simp only [NestedKey.tup.injEq, List.cons.injEq, NestedKey.num.injEq, and_true] at h
  cases e
  cases f
  simp_all
def rows (P : Program) (w : World) (xs : SL) : List DictEntry := xs.map fun z => entryOfKey (nestedKind P w) (nk z.2, z.1, Value.bool true)
/-- at d: a dict, its keys the tuples xs, each value True -/
def NDic (P : Program) (w : World) (d : Addr) (xs : SL) : HO := .ext fun h => (d == sysModules) = false ∧ ∃ (o : Obj) (es : Array DictEntry) (ep : Nat), h.get? d = some o ∧ o.ExactDict ∧ o.data = .dict es ep ∧ es.toList = rows P w xs
section
variable {P : Program} {w : World} {H : Hp} {h : Heap} {d a : Addr} {e : AM.Stp} {xs : SL}
theorem nest_of (ok : HOk P w H h) (hs : StpAt H a e) : (nestedKind P w).is h (nk e) a := by
  obtain ⟨b, h1, h2⟩ := hs
  obtain ⟨_, us, r, o, ho, hc, n, hd⟩ := ok a _ h1
  obtain ⟨_, vs, r2, o2, ho2, hc2, n2, hd2⟩ := ok b _ h2
  cases r with | cons a1 r =>
  cases r with | cons a2 r =>
  cases r with | cons a3 r =>
  cases r with | cons a4 r =>
  cases r with | cons a5 r =>
  cases r
  cases r2 with | cons b1 r2 =>
  cases r2 with | cons b2 r2 =>
  cases r2
  obtain ⟨t1, rfl⟩ := a1
  obtain ⟨t2, rfl⟩ := a2
  cases a3
  obtain ⟨t4, rfl⟩ := a4
  obtain ⟨t5, rfl⟩ := a5
  obtain ⟨t6, rfl⟩ := b1
  obtain ⟨t7, rfl⟩ := b2
  refine ⟨.tup ho hc hd ?_, ?_⟩
  · exact .cons (.int _ _) (.cons (.int _ _) (.cons (.tup ho2 hc2 hd2 (.cons (.int _ _) (.cons (.int _ _) .nil))) (.cons (.int _ _) (.cons (.int _ _) .nil))))
  · exact (by decide : (2 : Nat) ≤ 8)
theorem ndic_ok {o : Obj} {es : Array DictEntry} {ep : Nat} (hm : (d == sysModules) = false) (ho : h.get? d = some o) (hx : o.ExactDict) (hd : o.data = .dict es ep) (he : es.toList = rows P w xs) : ObjOk P w H h d (NDic P w d xs) :=
  ⟨⟨hm, o, es, ep, ho, hx, hd, he⟩, ⟨o, ho⟩, fun h1 h2 ⟨z, o', es', ep', h3, h4⟩ k => ⟨z, o', es', ep', k _ h3, h4⟩⟩
theorem ndic_at (ok : HOk P w H h) (hd : H d = some (NDic P w d xs)) (hs : StepsOk H xs) (nd : (stps xs).Nodup) : (d == sysModules) = false ∧ h.DictOfH (nestedKind P w) d (xs.map fun z => (nk z.2, z.1, Value.bool true)) := by
  obtain ⟨⟨z, o, es, ep, h1, h2, h3, h4⟩, _, _⟩ := ok d _ hd
  refine ⟨z, o, es, ep, h1, h2, h3, ?_, fun x hx => ?_, ?_⟩
  · rw [h4, List.map_map]
    rfl
  · obtain ⟨y, hy, rfl⟩ := List.mem_map.mp hx
    exact nest_of ok (hs y hy)
  · rw [List.map_map]
    have : ((fun x : NestedKey × Addr × Value => x.1) ∘ fun z : Addr × AM.Stp => (nk z.2, z.1, Value.bool true)) = nk ∘ (·.2) := rfl
    rw [this, ← List.map_map]
    exact List.Pairwise.map _ (fun a b (n : a ≠ b) z => n (nk_inj z)) nd
theorem nval (e : AM.Stp) : ∀ xs : SL, (atKey (xs.map fun z => (nk z.2, z.1, Value.bool true)) (nk e)).isSome = decide (e ∈ stps xs)
  | [] => by simp [stps, atKey]
  | z :: r => by
    have ih := nval e r
    unfold atKey at ih ⊢
    rw [List.map_cons, List.find?_cons]
    by_cases h : nk z.2 = nk e
    · have h2 := nk_inj h
      simp [h, stps, h2]
    · have h2 : e ≠ z.2 := fun q => h (by rw [q])
      have h3 : decide ((nk z.2, z.1, Value.bool true).1 = nk e) = false := decide_eq_false h
      rw [h3]
      show (Option.map _ (List.find? _ _)).isSome = _
      rw [ih]
      show decide (e ∈ stps r) = decide (e ∈ z.2 :: stps r)
      rw [decide_eq_decide, List.mem_cons]
      exact ⟨.inr, fun q => q.resolve_left h2⟩
end
section
variable {X : Cx} {pos pos' : Pos} {o i value : Expr} {td ty tv : TE}
theorem pe_nnew : PE X (.Dict [] [] pos) (fun _ H Q => ∀ p, H p = none → Q (.ref p) (upd H p (NDic X.prog X.w p []))) := by
  constructor
  intro pins s σ H Q I h
  refine wpAny_Dict_empty ⟨.ref s.heap.objs.size, _, I.laid (a := s.heap.objs.size) (o := NDic X.prog X.w s.heap.objs.size []) (t' := s.toks) (fun _ _ q => Heap.get?_push_of_some _ q) (Nat.le_refl _) ?_, rfl, h _ (I.hok.fresh (Nat.le_refl _))⟩
  exact ndic_ok (beq_eq_false_iff_ne.mpr (Nat.ne_of_gt I.big)) (Heap.get?_push_size _ rfl) ⟨rfl, rfl, rfl⟩ rfl rfl
def tNIn (X : Cx) (ty td : TE) : TE := fun σ H Q => ty σ H fun y H1 => td σ H1 fun x H2 => ∃ (a d : Addr) (e : AM.Stp) (xs : SL), y = .ref a ∧ x = .ref d ∧ H2 d = some (NDic X.prog X.w d xs) ∧ StpAt H2 a e ∧ StepsOk H2 xs ∧ (stps xs).Nodup ∧ Q (.bl (decide (e ∈ stps xs))) H2
theorem pc_nin (hu : X.A.in1.units + 64 < cLine) (hi : PE X i ty) (ho : PE X o td) : PC X .In i o (tNIn X ty td) := by
  constructor
  intro pins s σ H Q I h
  refine thn (hi.run pins s σ H _ I h) fun iv s1 ⟨y, H1, I1, ry, q1⟩ => thn (ho.run pins s1 σ H1 _ I1 q1) fun u s2 ⟨x, H2, I2, rx, a, d, e, xs, ey, ex, hd, hs, hx, nd, q2⟩ => ?_
  subst ey ex
  cases (show u = Value.ref d from rx)
  cases (show iv = Value.ref a from ry)
  obtain ⟨hm, hk⟩ := ndic_at I2.hok hd hx nd
  refine wpAny_in_heap (knd := nestedKind X.prog X.w) (k := nk e) ?_ (nest_of I2.hok hs) hm hk ?_
  · show X.A.in1.units + 8 < cLine
    omega
  · rw [nval]
    exact ⟨.bl _, H2, I2.tok _, rfl, q2⟩
def sNPut (X : Cx) (td ty tv : TE) : TS := fun D σ H => tv σ H fun v H1 => td σ H1 fun x H2 => ty σ H2 fun y H3 => ∃ (a d : Addr) (e : AM.Stp) (xs : SL), v = .bl true ∧ y = .ref a ∧ x = .ref d ∧ H3 d = some (NDic X.prog X.w d xs) ∧ StpAt H3 a e ∧ StepsOk H3 xs ∧ (stps xs).Nodup ∧ e ∉ stps xs ∧ xs.length ≤ 1000 ∧ D.nx σ (upd H3 d (NDic X.prog X.w d (xs ++ [(a, e)])))
theorem ps_nput (hu : X.A.in1.units + 64 < cLine) (ho : PE X o td) (hi : PE X i ty) (hv : PE X value tv) (hs : swapsWith value (some (.Subscript o i pos')) pos.line X.env = pure false) :
    PS X (.Assign [.Subscript o i pos'] value pos) (sNPut X td ty tv) := by
  constructor
  intro pins s σ H D I h
  refine wpAny_Assign_Subscript (thn (hv.run pins s σ H _ I h) fun r s1 ⟨v, H1, I1, rv, q1⟩ => thn (ho.run pins s1 σ H1 _ I1 q1) fun u s2 ⟨x, H2, I2, rx, q2⟩ => thn (hi.run pins s2 σ H2 _ I2 q2) fun iv s3 ⟨y, H3, I3, ry, a, d, e, xs, ev, ey, ex, hd, hse, hx, nd, nin, hl, q3⟩ => ?_) hs
  subst ev ey ex
  cases (show u = Value.ref d from rx)
  cases (show iv = Value.ref a from ry)
  cases (show r = Value.bool true from rv)
  obtain ⟨hm, hk⟩ := ndic_at I3.hok hd hx nd
  have hno : atKey (xs.map fun z => (nk z.2, z.1, Value.bool true)) (nk e) = none := by
    have := nval e xs
    rw [decide_eq_false nin] at this
    cases ek : atKey (xs.map fun z => (nk z.2, z.1, Value.bool true)) (nk e) with
    | none => rfl
    | some q => rw [ek] at this; cases this
  refine wpAny_setItem_heap (knd := nestedKind X.prog X.w) (k := nk e) (v := Value.bool true) (hsz := small_line (by rw [List.length_map]; omega)) ?_ (nest_of I3.hok hse) hk fun h' hm' same => ?_
  · show X.A.in1.units + 8 < cLine
    omega
  · rw [storedH_new hno] at hm'
    obtain ⟨o', es', ep', g1, g2, g3, g4, _, _⟩ := hm'
    refine ⟨σ, _, d_write (a := d) (ob := NDic X.prog X.w d (xs ++ [(a, e)])) I3 (by rw [hd]; exact True.intro) same ⟨o', g1⟩ (ndic_ok hm g1 g2 g3 ?_), q3⟩
    rw [g4]
    simp [rows]
end
end Any
end
section
set_option Elab.async false
set_option linter.all false
set_option maxRecDepth 100000
set_option maxHeartbeats 4000000
namespace Any
open PySem PySem.Spec PyProof.Rows L2
theorem len_sub : ∀ {l m : List Int}, l.Nodup → (∀ x ∈ l, x ∈ m) → l.length ≤ m.length
  | [], _, _, _ => Nat.zero_le _
  | a :: l, m, hn, h => by
    have ha := h a (List.mem_cons_self ..)
    have hn' := List.nodup_cons.mp hn
    have := len_sub (l := l) (m := m.erase a) hn'.2 fun x hx => (List.mem_erase_of_ne fun z => hn'.1 (by rw [← z]; exact hx)).mpr (h x (List.mem_cons_of_mem _ hx))
    rw [List.length_erase_of_mem ha] at this
    have := List.length_pos_of_mem ha
    simp
    omega
abbrev tds (ks : List Int) : List (Int × V) := ks.map fun k => (k, V.bl true)
theorem tds_get : ∀ (ks : List Int) (y : Int), (AM.dget (tds ks) y).isSome = decide (y ∈ ks)
  | [], y => by simp [AM.dget_nil]
  | k :: r, y => by
    show (AM.dget ((k, V.bl true) :: tds r) y).isSome = _
    rw [AM.dget_cons]
    by_cases h : k = y
    · simp [h]
    · rw [if_neg h, tds_get r y]
      simp [Ne.symm h]
/-- links: for each place the places that its steps lead to -/
structure Lk (H0 H : Hp) (D : Addr) (es : List AM.Stp) (d : List (Int × V)) : Prop where
  at_ : H D = some (.dK (kd d))
  few : d.length ≤ es.length
  all : ∀ k : Int, (AM.dget d k = none ∧ ∀ e ∈ es, e.s ≠ k) ∨ ∃ (l : Addr) (ys : List Int), AM.dget d k = some (.ref l) ∧ l ≠ D ∧ H0 l = none ∧ H l = some (.lst (ys.map V.int)) ∧ ys.length ≤ es.length ∧ ∀ y : Int, y ∈ ys ↔ ∃ e ∈ es, e.s = k ∧ e.t = y
  inj : ∀ (k k' : Int) (l : Addr), AM.dget d k = some (.ref l) → AM.dget d k' = some (.ref l) → k = k'
theorem Lk.up {H0 H H' : Hp} {D : Addr} {es : List AM.Stp} {d : List (Int × V)} (L : Lk H0 H D es d) (s : Same H H') : Lk H0 H' D es d :=
  ⟨s _ _ L.at_, L.few, fun k => (L.all k).imp id fun ⟨l, ys, h1, h2, h3, h4, h5⟩ => ⟨l, ys, h1, h2, h3, s _ _ h4, h5⟩, L.inj⟩
theorem Lk.old {H0 H : Hp} {D l : Addr} {es : List AM.Stp} {d : List (Int × V)} {e : AM.Stp} (L : Lk H0 H D es d) (g : AM.dget d e.s = some (.ref l)) :
    ∃ ys : List Int, H l = some (.lst (ys.map V.int)) ∧ ys.length ≤ es.length ∧ H0 l = none ∧ Lk H0 (upd H l (.lst (ys.map V.int ++ [.int e.t]))) D (es ++ [e]) d := by
  rcases L.all e.s with ⟨h, _⟩ | ⟨l', ys, h1, h2, h3, h4, h5, h6⟩
  · rw [g] at h
    cases h
  rw [g] at h1
  cases h1
  refine ⟨ys, h4, h5, h3, by rw [upd_ne h2.symm]; exact L.at_, by have := L.few; simp; omega, fun k => ?_, L.inj⟩
  by_cases hk : k = e.s
  · subst hk
    refine .inr ⟨l, ys ++ [e.t], g, h2, h3, by rw [upd_same]; simp, by simp; omega, fun y => ?_⟩
    rw [List.mem_append, h6]
    constructor
    · rintro (⟨f, hf, a, b⟩ | h)
      · exact ⟨f, List.mem_append_left _ hf, a, b⟩
      · exact ⟨e, by simp, rfl, by simpa [eq_comm] using h⟩
    · rintro ⟨f, hf, a, b⟩
      rcases List.mem_append.mp hf with hf | hf
      · exact .inl ⟨f, hf, a, b⟩
      · simp at hf
        subst hf
        exact .inr (by simp [b])
  · rcases L.all k with ⟨h7, h8⟩ | ⟨l', ys', g1, g2, g3, g4, g5, g6⟩
    · refine .inl ⟨h7, fun f hf => ?_⟩
      rcases List.mem_append.mp hf with hf | hf
      · exact h8 f hf
      · simp at hf
        subst hf
        exact Ne.symm hk
    · have : l' ≠ l := fun z => hk (L.inj k e.s l (by rw [← z]; exact g1) g)
      refine .inr ⟨l', ys', g1, g2, g3, by rw [upd_ne this]; exact g4, by simp; omega, fun y => ?_⟩
      rw [g6]
      constructor
      · rintro ⟨f, hf, a, b⟩
        exact ⟨f, List.mem_append_left _ hf, a, b⟩
      · rintro ⟨f, hf, a, b⟩
        rcases List.mem_append.mp hf with hf | hf
        · exact ⟨f, hf, a, b⟩
        · simp at hf
          subst hf
          exact absurd a.symm hk
theorem Lk.new {H0 H : Hp} {D p : Addr} {es : List AM.Stp} {d : List (Int × V)} {e : AM.Stp} (L : Lk H0 H D es d) (g : AM.dget d e.s = none) (hp : H p = none) (hp0 : H0 p = none) :
    Lk H0 (upd (upd (upd H p (.lst [])) D (.dK (kd (AM.dput d e.s (.ref p))))) p (.lst ([] ++ [.int e.t]))) D (es ++ [e]) (AM.dput d e.s (.ref p)) := by
  have nD : D ≠ p := ne_of_none L.at_ hp
  have nov : ∀ f ∈ es, f.s ≠ e.s := by
    rcases L.all e.s with ⟨_, h⟩ | ⟨l, ys, h1, _⟩
    · exact h
    · rw [g] at h1
      cases h1
  refine ⟨by rw [upd_ne nD]; exact upd_same, ?_, fun k => ?_, fun k k' l h1 h2 => ?_⟩
  · have := AM.dput_length_le d e.s (.ref p)
    have := L.few
    simp
    omega
  · rw [AM.dget_dput]
    by_cases hk : k = e.s
    · rw [if_pos hk]
      refine .inr ⟨p, [e.t], rfl, nD.symm, hp0, by rw [upd_same]; rfl, by simp, fun y => ?_⟩
      constructor
      · intro h
        exact ⟨e, by simp, hk.symm, by simpa [eq_comm] using h⟩
      · rintro ⟨f, hf, a, b⟩
        rcases List.mem_append.mp hf with hf | hf
        · exact absurd (a.trans hk) (nov f hf)
        · simp at hf
          subst hf
          simp [b]
    · rw [if_neg hk]
      rcases L.all k with ⟨h7, h8⟩ | ⟨l', ys', g1, g2, g3, g4, g5, g6⟩
      · refine .inl ⟨h7, fun f hf => ?_⟩
        rcases List.mem_append.mp hf with hf | hf
        · exact h8 f hf
        · simp at hf
          subst hf
          exact Ne.symm hk
      · have n1 : l' ≠ p := ne_of_none g4 hp
        refine .inr ⟨l', ys', g1, g2, g3, by rw [upd_ne n1, upd_ne g2, upd_ne n1]; exact g4, by simp; omega, fun y => ?_⟩
        rw [g6]
        constructor
        · rintro ⟨f, hf, a, b⟩
          exact ⟨f, List.mem_append_left _ hf, a, b⟩
        · rintro ⟨f, hf, a, b⟩
          rcases List.mem_append.mp hf with hf | hf
          · exact ⟨f, hf, a, b⟩
          · simp at hf
            subst hf
            exact absurd a.symm hk
  · have fresh : ∀ j, AM.dget d j ≠ some (.ref p) := fun j hj => by
      rcases L.all j with ⟨h7, _⟩ | ⟨l', ys', g1, g2, g3, g4, _⟩
      · rw [h7] at hj
        cases hj
      · rw [hj] at g1
        cases g1
        rw [hp] at g4
        cases g4
    rw [AM.dget_dput] at h1 h2
    by_cases a : k = e.s <;> by_cases b : k' = e.s
    · rw [a, b]
    · rw [if_pos a] at h1
      rw [if_neg b] at h2
      cases h1
      exact absurd h2 (fresh _)
    · rw [if_neg a] at h1
      rw [if_pos b] at h2
      cases h2
      exact absurd h1 (fresh _)
    · rw [if_neg a] at h1
      rw [if_neg b] at h2
      exact L.inj _ _ _ h1 h2
def spComeTo : Sp := fun vs H Q _ => ∃ (l : Addr) (ss : SL) (first : Int), vs = [.ref l, .int first] ∧ H l = some (.lst (refs ss)) ∧ StepsOk H ss ∧ ss.length ≤ 1000 ∧
  ∀ F H' ks, Same H H' → H' F = some (.dK (kd (tds ks))) → (∀ k, k ∈ ks ↔ AM.Reach (stps ss) first k) → Q (.ref F) H'
/-- the search: found ks, waiting ws -/
structure Sr (es : List AM.Stp) (first : Int) (ks ws : List Int) (x : Int → Prop) : Prop where
  nd : ks.Nodup
  sub : ∀ k ∈ ws, k ∈ ks
  fst : first ∈ ks
  rch : ∀ k ∈ ks, AM.Reach es first k
  cl : ∀ k ∈ ks, k ∈ ws ∨ x k ∨ ∀ e ∈ es, e.s = k → e.t ∈ ks
  le : ws.length ≤ ks.length
theorem Sr.few {es : List AM.Stp} {first : Int} {ks ws : List Int} {x : Int → Prop} (S : Sr es first ks ws x) : ks.length ≤ es.length + 1 := by
  have := len_sub (m := first :: es.map (·.t)) S.nd fun k hk => (S.rch k hk).ind (P := fun v => v ∈ first :: es.map (·.t)) (List.mem_cons_self ..) fun e he _ => List.mem_cons_of_mem _ (List.mem_map.mpr ⟨e, he, rfl⟩)
  simpa using this
theorem not_none_same {H H' : Hp} {p : Addr} (s : Same H H') (h : H' p = none) : H p = none := by
  cases e : H p with
  | none => rfl
  | some o =>
    rw [s _ _ e] at h
    cases h
section
variable {P : Program} {w : World} {K : PySem.W.Frag} {mg : Str → Option Value} {base : Heap}
theorem sc_come_to : FnScope ["steps", "first", "links", "step", "found", "waiting", "other"] ["steps", "first"] (defScope st_come_to) := ⟨rfl, rfl, rfl, by decide +kernel, rfl, by decide +kernel, by decide +kernel⟩
theorem ok_come_to (T : Txt K mg) : FnK P w K mg base CX0 1 "come_to" ["steps", "first"] spComeTo := by
  refine T.come_to.ok sc_come_to (fun vs H Q E h => ?_) (fun cdv A outer s H vs Q E hr h => ?_)
  · obtain ⟨l, ss, first, rfl, _⟩ := h
    rfl
  obtain ⟨l, ss, first, rfl, hl, ok, few, q⟩ := h
  have hu := hu_of hr
  refine ⟨_, (pss_cons (ps_set (i := 2) sc_come_to.nd rfl (Or.inl rfl) pe_dnewK)
    (pss_cons (ps_for (passes_of rfl) rfl (pi_list (pv 0)) (pg_name (i := 3) sc_come_to.nd rfl (Or.inl rfl)) (pss_one (ps_expr (pe_bm PySem.F.plainAttrs_list PySem.F.slot_list_append PySem.F.type_list_append mt_append (pe_dsetd (pv 2) (pe_ix ix_tup (pv 3) pe_int (fun _ _ => rfl)) (pe_lst pa_nil) ⟨rfl, rfl, rfl, rfl⟩) (pa_cons (pe_ix ix_tup (pv 3) pe_int (fun _ _ => rfl)) pa_nil)))))
    (pss_cons (ps_par (i := 4) (j := 5) (by rfl) sc_come_to.nd rfl rfl (by decide) rfl rfl (pa_cons (pe_disp (pps_cons (pv 1) pe_bl pps_nil) (by rfl) (by rfl) (fun z => by cases z) (by decide)) (pa_cons (pe_lst (pa_cons (pv 1) pa_nil)) pa_nil)) (by rfl))
    (pss_cons (ps_while (passes_of rfl) (pt_truth (pv 5) (by intro _; rfl)) (pss_one (ps_for (passes_of rfl) rfl (pi_list (pe_dget2 hu (pv 2) (pe_bm0 PySem.F.plainAttrs_list PySem.F.slot_list_pop PySem.F.type_list_pop mt_pop (pv 5)) (pe_lst pa_nil) ⟨rfl, rfl, rfl, rfl⟩)) (pg_name (i := 6) sc_come_to.nd rfl (Or.inl rfl)) (pss_one (ps_if (pt_cmp (pc_dnotin hu (pv 6) (pv 4))) (pss_cons (ps_dput hu (pv 4) (pv 6) pe_bl rfl)
    (pss_one (ps_expr (pe_bm PySem.F.plainAttrs_list PySem.F.slot_list_append PySem.F.type_list_append mt_append (pv 5) (pa_cons (pv 6) pa_nil))))) pss_nil)))))
    (pss_one (ps_ret (pv 4))))))), ?_⟩
  refine fun D nD => ?_
  refine ⟨_, rfl, l, rfl, ⟨_, SqL.of (same_new nD _ _ _ hl)⟩, ?_⟩
  refine for_list (xs := refs ss) (fun i σ H1 => Same H H1 ∧ (∃ x3, σ = [some (.ref l), some (.int first), some (.ref D), x3, none, none, none]) ∧ ∃ d, Lk H H1 D ((stps ss).take i) d)
    ⟨same_new nD _, ⟨none, rfl⟩, [], upd_same, Nat.le_refl _, fun k => .inl ⟨rfl, fun e he => by simp at he⟩, fun _ _ _ h => by cases h⟩ (fun i σ H1 _ p => SqL.of (p.1 _ _ hl)) ?_ ?_
  · rintro i x σ H1 hx ⟨s1, ⟨x3, rfl⟩, d, L⟩
    rw [refs, List.getElem?_map] at hx
    cases hb : ss[i]? with
    | none => rw [hb] at hx; cases hx
    | some b =>
    rw [hb] at hx
    cases hx
    have hlt : i < ss.length := (List.getElem?_eq_some_iff.mp hb).1
    have et : (stps ss).take (i + 1) = (stps ss).take i ++ [b.2] := by
      rw [List.take_add_one, stps, List.getElem?_map, hb]
      rfl
    have lt : ((stps ss).take i).length ≤ 1000 := by
      rw [List.length_take]
      omega
    obtain ⟨bb, h1, h2⟩ := ok b (List.mem_of_getElem? hb)
    refine ⟨_, rfl, D, rfl, .inl ⟨_, .inl L.at_⟩, _, rfl, _, _, _, _, rfl, rfl, SqT.of (s1 _ _ h1), rfl, ?_⟩
    refine ⟨(by show 0 ≤ sizeLine; decide), fun p np => ?_⟩
    have sp := same_new np (.lst [])
    have L2 := L.up sp
    have s2 := Same.trans s1 sp
    refine ⟨_, .inl b.2.s, L2.at_, rfl, small_lt (by rw [kd_len]; have := L.few; omega), fun v hv => ?_, fun hv => ?_⟩
    · rw [kd_get] at hv
      rcases L.all b.2.s with ⟨h7, _⟩ | ⟨l', ys', g1, g2, g3, g4, g5, g6⟩
      · rw [h7] at hv
        cases hv
      rw [hv] at g1
      cases g1
      obtain ⟨ys, e1, e2, e3, e4⟩ := L2.old (e := b.2) hv
      refine ⟨.inl ⟨rfl, _, SqL.of e1⟩, ?_⟩
      have nl : H l' = none := e3
      refine ⟨_, rfl, _, _, _, _, rfl, rfl, SqT.of (s2 _ _ h1), rfl, ?_⟩
      refine ⟨l', _, _, rfl, rfl, e1, small_lt (by rw [List.length_map]; omega), ?_⟩
      refine ⟨Same.mut s2 nl, ⟨_, rfl⟩, d, ?_⟩
      rw [et]
      exact e4
    · rw [kd_get] at hv
      have np0 : H p = none := (not_none_same s1 np)
      have L3 := L.new (e := b.2) hv np np0
      have nDp : D ≠ p := ne_of_none L.at_ np
      have s3 : Same H (upd (upd H1 p (.lst [])) D (.dK (kd (AM.dput d b.2.s (.ref p))))) := Same.mut s2 nD
      have ep : (upd (upd H1 p (.lst [])) D (.dK (kd (AM.dput d b.2.s (.ref p))))) p = some (.lst []) := by
        rw [upd_ne nDp.symm]
        exact upd_same
      rw [kd_put]
      refine ⟨.inl ⟨rfl, _, SqL.of ep⟩, ?_⟩
      refine ⟨_, rfl, _, _, _, _, rfl, rfl, SqT.of (s3 _ _ h1), rfl, ?_⟩
      refine ⟨p, [], _, rfl, rfl, ep, by decide, ?_⟩
      refine ⟨Same.mut s3 np0, ⟨_, rfl⟩, AM.dput d b.2.s (.ref p), ?_⟩
      rw [et]
      exact L3
  · rintro σ H1 ⟨s1, ⟨x3, rfl⟩, d, L⟩
    rw [show (stps ss).take (refs ss).length = stps ss by rw [refs_len, ← List.length_map (as := ss) (f := (·.2))]; exact List.take_length] at L
    have lss : (stps ss).length ≤ 1000 := by rw [stps, List.length_map]; exact few
    refine fun F nF => ⟨_, rfl, upd_same, [(.inl first, .bl true)], rfl, (by show 1 ≤ 15; decide), ?_⟩
    refine ⟨_, rfl, (by show 1 ≤ sizeLine; decide), fun W nW => ⟨_, _, rfl, ?_⟩⟩
    have sF : Same H1 (upd (upd H1 F (.dK [])) F (.dK (mergeK [] [(.inl first, .bl true)]))) := Same.mut (same_new nF _) nF
    have nFW : F ≠ W := ne_of_none (upd_same (H := upd H1 F (.dK []))) nW
    have sF0 : Same H1 H1 := Same.refl _
    have nW1 : H1 W = none := not_none_same sF nW
    refine ⟨fun m σ H2 => ∃ ks ws, Same H1 H2 ∧ Sr (stps ss) first ks ws (fun _ => False) ∧ m = ws.length + 2 * ((stps ss).length + 1 - ks.length) ∧ H2 F = some (.dK (kd (tds ks))) ∧ H2 W = some (.lst (ws.map V.int)) ∧
      ∃ x3 x6, σ = [some (.ref l), some (.int first), some (.ref D), x3, some (.ref F), some (.ref W), x6], ⟨_, [first], [first], Same.mut sF nW1, ?_, rfl, ?_, upd_same, _, _, rfl⟩, ?_⟩
    · exact ⟨by simp, fun k h => h, by simp, fun k h => by simp at h; subst h; exact .refl _ _, fun k h => .inl h, Nat.le_refl _⟩
    · rw [upd_ne nFW]
      exact upd_same
    rintro m σ H2 ⟨ks, ws, s2, S, rfl, eF, eW, x3, x6, rfl⟩
    refine ⟨_, rfl, _, .inl ⟨_, SqL.of eW, rfl⟩, ?_⟩
    refine ite2 (fun c => ?_) (fun c => ?_)
    · have hne : ws ≠ [] := fun z => by rw [z] at c; cases c
      obtain ⟨ws0, here, rfl⟩ : ∃ ws0 here, ws = ws0 ++ [here] := ⟨ws.dropLast, ws.getLast hne, (List.dropLast_concat_getLast hne).symm⟩
      have eg := L.up s2
      have er : (ws0 ++ [here]).map V.int = ws0.map V.int ++ [.int here] := by simp
      refine ⟨fun σ' H' => ∃ m', m' < (ws0 ++ [here]).length + 2 * ((stps ss).length + 1 - ks.length) ∧ ∃ ks ws, Same H1 H' ∧ Sr (stps ss) first ks ws (fun _ => False) ∧ m' = ws.length + 2 * ((stps ss).length + 1 - ks.length) ∧ H' F = some (.dK (kd (tds ks))) ∧ H' W = some (.lst (ws.map V.int)) ∧
        ∃ x3 x6, σ' = [some (.ref l), some (.int first), some (.ref D), x3, some (.ref F), some (.ref W), x6], fun σ' H' h => h, ?_⟩
      rw [er] at eW
      refine ⟨_, rfl, D, rfl, .inl ⟨_, .inl eg.at_⟩, _, rfl, .inl ⟨rfl, _, SqL.of eW⟩, W, _, .int here, rfl, rfl, eW, by simp, ?_⟩
      rw [List.dropLast_concat]
      have s3 : Same H1 (upd H2 W (.lst (ws0.map V.int))) := Same.mut s2 nW1
      have eF3 : (upd H2 W (.lst (ws0.map V.int))) F = some (.dK (kd (tds ks))) := by
        rw [upd_ne nFW]
        exact eF
      have eW3 : (upd H2 W (.lst (ws0.map V.int))) W = some (.lst (ws0.map V.int)) := upd_same
      generalize (upd H2 W (.lst (ws0.map V.int))) = H3 at s3 eF3 eW3 ⊢
      refine ⟨(by show 0 ≤ sizeLine; decide), fun p np => ?_⟩
      have s4 : Same H1 (upd H3 p (.lst [])) := s3.trans (same_new np _)
      have eF4 : (upd H3 p (.lst [])) F = some (.dK (kd (tds ks))) := same_new np _ _ _ eF3
      have eW4 : (upd H3 p (.lst [])) W = some (.lst (ws0.map V.int)) := same_new np _ _ _ eW3
      refine ⟨_, dg (L.up s4).at_ here, ?_⟩
      obtain ⟨a, ys, ea, eA, naW, mem⟩ : ∃ (a : Addr) (ys : List Int), (AM.dget d here).getD (.ref p) = .ref a ∧ (upd H3 p (.lst [])) a = some (.lst (ys.map V.int)) ∧ a ≠ W ∧ ∀ y, y ∈ ys ↔ ∃ e ∈ stps ss, e.s = here ∧ e.t = y := by
        rcases L.all here with ⟨h7, h8⟩ | ⟨l', ys', g1, g2, g3, g4, g5, g6⟩
        · refine ⟨p, [], by rw [h7]; rfl, upd_same, (ne_of_none eW3 np).symm, fun y => ⟨fun h => (by cases h), fun ⟨e, he, h9, _⟩ => absurd h9 (h8 e he)⟩⟩
        · exact ⟨l', ys', by rw [g1]; rfl, s4 _ _ g4, ne_of_none g4 nW1, g6⟩
      rw [ea]
      generalize (upd H3 p (.lst [])) = H4 at s4 eF4 eW4 eA ⊢
      refine ⟨a, rfl, ⟨_, SqL.of eA⟩, ?_⟩
      refine for_list (xs := ys.map V.int) (fun i σ' H' => ∃ ks' ws', Same H1 H' ∧ H' a = some (.lst (ys.map V.int)) ∧ Sr (stps ss) first ks' ws' (fun k => k = here) ∧ (∀ y ∈ ys.take i, y ∈ ks') ∧ here ∈ ks' ∧
          ws'.length + 2 * ((stps ss).length + 1 - ks'.length) < (ws0 ++ [here]).length + 2 * ((stps ss).length + 1 - ks.length) ∧ H' F = some (.dK (kd (tds ks'))) ∧ H' W = some (.lst (ws'.map V.int)) ∧
          ∃ x3 x6, σ' = [some (.ref l), some (.int first), some (.ref D), x3, some (.ref F), some (.ref W), x6])
        ⟨ks, ws0, s4, eA, ⟨S.nd, fun k hk => S.sub k (List.mem_append_left _ hk), S.fst, S.rch, fun k hk => ?_, ?_⟩, fun y hy => by simp at hy, S.sub _ (by simp), by simp, eF4, eW4, _, _, rfl⟩ (fun i σ' H' _ p => ?_) ?_ ?_
      · rcases S.cl k hk with h | h | h
        · rcases List.mem_append.mp h with h | h
          · exact .inl h
          · exact .inr (.inl (by simpa using h))
        · exact h.elim
        · exact .inr (.inr h)
      · have := S.le
        simp at this
        omega
      · obtain ⟨_, _, _, p, _⟩ := p
        exact SqL.of p
      · rintro i x σ' H' hx ⟨ks', ws', s5, eA5, S5, tk, hh, ml, eF5, eW5, x3', x6', rfl⟩
        rw [List.getElem?_map] at hx
        cases hb : ys[i]? with
        | none => rw [hb] at hx; cases hx
        | some y =>
        rw [hb] at hx
        cases hx
        have et : ys.take (i + 1) = ys.take i ++ [y] := by
          rw [List.take_add_one, hb]
          rfl
        have naF : a ≠ F := fun z => by
          rw [z, eF5] at eA5
          cases eA5
        have lks := S5.few
        have lss : (stps ss).length ≤ 1000 := by rw [stps, List.length_map]; exact few
        refine ⟨_, rfl, _, rfl, F, _, rfl, dg eF5 y, _, rfl, ?_⟩
        rw [tds_get]
        by_cases hy : y ∈ ks'
        · rw [decide_eq_true hy]
          refine iteF ⟨ks', ws', s5, eA5, S5, fun z hz => ?_, hh, ml, eF5, eW5, _, _, rfl⟩
          rw [et] at hz
          rcases List.mem_append.mp hz with hz | hz
          · exact tk z hz
          · simp at hz
            rw [hz]
            exact hy
        · rw [decide_eq_false hy]
          refine iteT ?_
          have gn : AM.dget (tds ks') y = none := by
            have := tds_get ks' y
            rw [decide_eq_false hy] at this
            cases e : AM.dget (tds ks') y with
            | none => rfl
            | some v => rw [e] at this; cases this
          have ep : AM.dput (tds ks') y (.bl true) = tds (ks' ++ [y]) := by
            rw [AM.dkeys_dput_new gn]
            simp
          refine ⟨_, rfl, _, rfl, F, _, rfl, dp eF5 y (.bl true) (small_lt (by rw [List.length_map]; omega)), ?_⟩
          rw [ep]
          have s6 : Same H1 (upd H' F (.dK (kd (tds (ks' ++ [y]))))) := Same.mut s5 (not_none_same sF0 nF)
          have eW6 : (upd H' F (.dK (kd (tds (ks' ++ [y]))))) W = some (.lst (ws'.map V.int)) := by
            rw [upd_ne nFW.symm]
            exact eW5
          refine ⟨_, rfl, .inl ⟨rfl, _, SqL.of eW6⟩, _, rfl, W, _, _, rfl, rfl, eW6, small_lt (by rw [List.length_map]; have := S5.le; omega), ?_⟩
          have nd' : (ks' ++ [y]).Nodup := AM.nodup_snoc S5.nd hy
          have hry : AM.Reach (stps ss) first y := by
            obtain ⟨e, he, h1, h2⟩ := (mem y).mp (List.mem_of_getElem? hb)
            rw [← h2]
            exact (h1 ▸ S5.rch _ hh : AM.Reach (stps ss) first e.s).step he
          have S7 : Sr (stps ss) first (ks' ++ [y]) (ws' ++ [y]) (fun k => k = here) := by
            refine ⟨nd', fun k hk => ?_, List.mem_append_left _ S5.fst, fun k hk => ?_, fun k hk => ?_, ?_⟩
            · rcases List.mem_append.mp hk with h | h
              · exact List.mem_append_left _ (S5.sub k h)
              · exact List.mem_append_right _ h
            · rcases List.mem_append.mp hk with h | h
              · exact S5.rch k h
              · simp at h
                rw [h]
                exact hry
            · rcases List.mem_append.mp hk with h | h
              · rcases S5.cl k h with h | h | h
                · exact .inl (List.mem_append_left _ h)
                · exact .inr (.inl h)
                · exact .inr (.inr fun e he z => List.mem_append_left _ (h e he z))
              · exact .inl (List.mem_append_right _ h)
            · have := S5.le
              simp
              omega
          have l7 := S7.few
          refine ⟨ks' ++ [y], ws' ++ [y], Same.mut s6 nW1, ?_, S7, fun z hz => ?_, List.mem_append_left _ hh, ?_, ?_, ?_, _, _, rfl⟩
          · rw [upd_ne naW, upd_ne naF]
            exact eA5
          · rw [et] at hz
            rcases List.mem_append.mp hz with hz | hz
            · exact List.mem_append_left _ (tk z hz)
            · exact List.mem_append_right _ hz
          · simp at l7 ml ⊢
            omega
          · rw [upd_ne nFW]
            exact upd_same
          · rw [upd_same]
            simp
      · rintro σ' H' ⟨ks', ws', s5, eA5, S5, tk, hh, ml, eF5, eW5, x3', x6', rfl⟩
        refine ⟨_, ml, ks', ws', s5, ⟨S5.nd, S5.sub, S5.fst, S5.rch, fun k hk => ?_, S5.le⟩, rfl, eF5, eW5, _, _, rfl⟩
        rcases S5.cl k hk with h | h | h
        · exact .inl h
        · refine .inr (.inr fun e he z => tk _ ?_)
          rw [List.length_map, List.take_length]
          exact (mem _).mpr ⟨e, he, by rw [z, h], rfl⟩
        · exact .inr (.inr h)
    · have hnil : ws = [] := by
        cases ws with
        | nil => rfl
        | cons a r => exact absurd rfl c
      subst hnil
      refine ⟨_, rfl, ?_⟩
      refine q F H2 ks (s1.trans s2) eF fun k => ⟨S.rch k, fun r => r.ind (P := fun v => v ∈ ks) S.fst fun e he hs => ?_⟩
      rcases S.cl _ hs with h | h | h
      · cases h
      · exact h.elim
      · exact h e he rfl
end
end Any
end
section
set_option Elab.async false
set_option linter.all false
set_option maxRecDepth 100000
set_option maxHeartbeats 4000000
namespace Any
open PySem PySem.Spec PyProof.Rows L2
def spStepsFrom (K : PySem.W.Frag) : Sp := fun vs H Q _ => ∃ (wb : Addr) (place : Int) (N : Nat) (ss : SL), vs = [.ref wb, .int place] ∧ WebAt K H wb N ss ∧
  ∀ l t H', Same H H' → (∀ p ∈ ss, t p = true ↔ AM.Reach (stps ss) place p.2.s) → H' l = some (.lst (refs (ss.filter t))) → Q (.ref l) H'
/-- a weighed step: the step, its number -/
abbrev El := (Addr × AM.Stp) × Int
abbrev PL := List (Addr × El)
def prefs (ps : PL) : List V := ps.map fun z => V.ref z.1
def els (ps : PL) : List El := ps.map (·.2)
def PairsOk (H : Hp) (ps : PL) : Prop := ∀ z ∈ ps, H z.1 = some (.tup [.ref z.2.1.1, .int z.2.2])
theorem PairsOk.up {H H' : Hp} {ps : PL} (h : PairsOk H ps) (s : Tups H H') : PairsOk H' ps := fun p hp => s _ _ (h p hp)
def small64 (n : Int) : Prop := -(2 ^ 64) < n ∧ n < 2 ^ 64
def spWeighed : Sp := fun vs H Q _ => ∃ (l pa ra : Addr) (ss : SL) (p r : Int × Int), vs = [.ref l, .ref pa, .ref ra] ∧ H l = some (.lst (refs ss)) ∧ StepsOk H ss ∧ ss.length ≤ 1000 ∧ H pa = some (.tup [.int p.1, .int p.2]) ∧ H ra = some (.tup [.int r.1, .int r.2]) ∧
  small64 p.1 ∧ small64 p.2 ∧ small64 r.1 ∧ small64 r.2 ∧
  ∀ l' ps H', Same H H' → H' l' = some (.lst (prefs ps)) → PairsOk H' ps → els ps = ss.map (fun z => (z, AM.wt p r z.2)) → Q (.ref l') H'
theorem weighs_of {H : Hp} {f : Addr × AM.Stp → Int} : ∀ (ys : List V) (ss : SL), ys.length = ss.length → (∀ (n : Nat) (y : V), ys[n]? = some y → ∃ (a : Addr) (z : Addr × AM.Stp), y = V.ref a ∧ ss[n]? = some z ∧ H a = some (.tup [.ref z.1, .int (f z)])) →
    ∃ ps : PL, ys = prefs ps ∧ PairsOk H ps ∧ els ps = ss.map (fun z => (z, f z))
  | [], [], _, _ => ⟨[], rfl, fun _ hz => (by cases hz), rfl⟩
  | [], _ :: _, h, _ => by cases h
  | _ :: _, [], h, _ => by cases h
  | y :: ys, z :: ss, h, g => by
    obtain ⟨ps, h1, h2, h3⟩ := weighs_of ys ss (Nat.succ.inj h) fun n y' hy => g (n + 1) y' hy
    obtain ⟨a, z', e1, e2, e3⟩ := g 0 y rfl
    cases e2
    refine ⟨(a, (z, f z)) :: ps, ?_, fun x hx => ?_, ?_⟩
    · rw [e1, h1]
      rfl
    · rcases List.mem_cons.mp hx with hx | hx
      · subst hx
        exact e3
      · exact h2 x hx
    · show (z, f z) :: els ps = _
      rw [h3]
      rfl
section
variable {P : Program} {w : World} {K : PySem.W.Frag} {mg : Str → Option Value} {base : Heap}
theorem sc_steps_from : FnScope ["web", "place", "known", "step"] ["web", "place"] (defScope st_steps_from) := ⟨rfl, rfl, rfl, by decide +kernel, rfl, by decide +kernel, by decide +kernel⟩
theorem ok_steps_from (T : Txt K mg) : FnK P w K mg base CX0 2 "steps_from" ["web", "place"] (spStepsFrom K) := by
  refine T.steps_from.ok sc_steps_from (fun vs H Q E h => ?_) (fun cdv A outer s H vs Q E hr h => ?_)
  · obtain ⟨wb, place, N, ss, rfl, _⟩ := h
    rfl
  obtain ⟨wb, place, N, ss, rfl, ⟨⟨dx, fs, l, h1, h2, h3, h4⟩, h5, h6, h7, _⟩, q⟩ := h
  have hu := hu_of hr
  refine ⟨_, (pss_cons (ps_set (i := 2) sc_steps_from.nd rfl (Or.inr rfl) (pe_f T.come_to (ok_come_to T) hr pass0 (pa_cons (pe_fld (pv 0) rfl) (pa_cons (pv 1) pa_nil))))
    (pss_one (ps_ret (pe_lc (own := [("step", 3)]) (g := gName 3) rfl sc_steps_from.nd (pi_list (pe_fld (pv 0) rfl)) (blkOk_by (own := [("step", 3)]) (N := ["web", "place", "known", "step"]) (sc := defScope st_steps_from) (by decide +kernel)) (fun _ _ _ _ _ => (pg_name (i := 3) sc_steps_from.nd rfl (Or.inl rfl))) (fun _ _ _ _ _ => (pts_one (pt_cmp (pc_din hu (pe_ix (ixT K) (pv 3) pe_int (fun _ _ => rfl)) (pv 2))))) (fun _ _ _ _ _ => (pv 3)))))), ?_⟩
  refine ⟨_, rfl, wb, _, dx, fs, _, rfl, h1, T.webC, T.webS, h3, _, rfl, l, ss, place, rfl, h4, h5, by omega, fun F H1 ks s1 eF hks => ?_⟩
  refine ⟨_, rfl, wb, _, dx, fs, _, rfl, s1 _ _ h1, T.webC, T.webS, h3, l, rfl, ⟨_, SqL.of (s1 _ _ h4)⟩, fun D nD => ?_⟩
  refine lc_filter (bs := ss) (fun p => decide (p.2.s ∈ ks)) (fun p => .ref p.1) nD (SqL.of (s1 _ _ h4)) (fun _ => rfl) (small_line (by omega)) (fun p H2 hp s2 Q' q' => ?_) (fun p H2 hp hc s2 Q' q' => ?_) fun H2 s2 e2 => ?_
  · obtain ⟨b, g1, g2⟩ := h5 p hp
    refine ⟨_, rfl, _, _, _, _, rfl, rfl, SqT.of (s2 _ _ (s1 _ _ g1)), rfl, _, rfl, F, _, rfl, dg (s2 _ _ eF) _, _, rfl, ?_⟩
    rw [tds_get]
    exact q' H2 (Same.refl _)
  · exact ⟨_, rfl, q' H2 (Same.refl _)⟩
  · exact q D _ H2 (s1.trans s2) (fun p hp => by rw [decide_eq_true_eq]; exact hks _) e2
theorem sc_weighed : FnScope ["steps", "prices", "rate", "step"] ["steps", "prices", "rate"] (defScope st_weighed) := ⟨rfl, rfl, rfl, by decide +kernel, rfl, by decide +kernel, by decide +kernel⟩
theorem ok_weighed (T : Txt K mg) : FnK P w K mg base CX0 2 "weighed" ["steps", "prices", "rate"] spWeighed := by
  refine T.weighed.ok sc_weighed (fun vs H Q E h => ?_) (fun cdv A outer s H vs Q E hr h => ?_)
  · obtain ⟨l, pa, ra, ss, p, r, rfl, _⟩ := h
    rfl
  obtain ⟨l, pa, ra, ss, p, r, rfl, hl, ok, few, hp, hra, p1, p2, r1, r2, q⟩ := h
  refine ⟨_, (pss_one (ps_ret (pe_lc (own := [("step", 3)]) (g := gName 3) rfl sc_weighed.nd (pi_list (pv 0)) (blkOk_by (own := [("step", 3)]) (N := ["steps", "prices", "rate", "step"]) (sc := defScope st_weighed) (by decide +kernel)) (fun _ _ _ _ _ => (pg_name (i := 3) sc_weighed.nd rfl (Or.inl rfl))) (fun _ _ _ _ _ => pts_nil) (fun _ _ _ _ _ => (pe_tup (pa_cons (pv 3) (pa_cons (pe_op op_sub (pe_op op_mul (pe_ix (ixT K) (pv 2) pe_int (fun _ _ => rfl)) (pe_f T.cost_of (ok_cost_of T) hr pass0 (pa_cons (pv 1) (pa_cons (pe_ix (ixT K) (pv 3) pe_int (fun _ _ => rfl)) pa_nil)))) (pe_op op_mul (pe_ix (ixT K) (pv 2) pe_int (fun _ _ => rfl)) (pe_ix (ixT K) (pv 3) pe_int (fun _ _ => rfl)))) pa_nil))))))), ?_⟩
  refine ⟨_, rfl, l, rfl, ⟨_, SqL.of hl⟩, fun D nD => ?_⟩
  refine lc_rel (xs := refs ss) (fun n y H' => ∃ a z, y = V.ref a ∧ ss[n]? = some z ∧ H' a = some (.tup [.ref z.1, .int (AM.wt p r z.2)])) (fun n y H1 H2 t ⟨a, z, h1, h2, h3⟩ => ⟨a, z, h1, h2, t _ _ h3⟩) nD (SqL.of hl) (fun _ => rfl)
    (small_line (by rw [refs_len]; omega)) (fun n x H1 hx s1 Q' q' => ?_) fun ys H1 s1 e1 len hy => ?_
  · rw [refs, List.getElem?_map] at hx
    cases hb : ss[n]? with
    | none => rw [hb] at hx; cases hx
    | some z =>
    rw [hb] at hx
    cases hx
    obtain ⟨b, g1, g2⟩ := ok z (List.mem_of_getElem? hb)
    refine ⟨_, rfl, _, rfl, _, _, _, _, rfl, rfl, SqT.of (s1 _ _ hra), rfl, ?_⟩
    refine ⟨_, rfl, _, rfl, _, _, _, _, rfl, rfl, SqT.of (s1 _ _ g1), rfl, ?_⟩
    refine ⟨_, _, _, _, _, _, rfl, s1 _ _ hp, s1 _ _ g2, p1, p2, ?_⟩
    refine ⟨_, _, rfl, rfl, .inl r2, ?_⟩
    refine ⟨_, rfl, _, _, _, _, rfl, rfl, SqT.of (s1 _ _ hra), rfl, ?_⟩
    refine ⟨_, rfl, _, _, _, _, rfl, rfl, SqT.of (s1 _ _ g1), rfl, ?_⟩
    refine ⟨_, _, rfl, rfl, .inl r1, ?_⟩
    refine ⟨_, _, rfl, rfl, ?_⟩
    refine ⟨(by show 2 ≤ sizeLine; decide), fun a na => ?_⟩
    exact q' _ _ (same_new na _) ⟨a, z, rfl, hb, upd_same⟩
  · have : ∃ ps : PL, ys = prefs ps ∧ PairsOk H1 ps ∧ els ps = ss.map (fun z => (z, AM.wt p r z.2)) := by
      exact weighs_of ys ss (by rw [len, refs_len]) hy
    obtain ⟨ps, rfl, ho, he⟩ := this
    exact q D ps H1 s1 e1 ho he
end
end Any
end
section
set_option Elab.async false
set_option linter.all false
set_option maxRecDepth 100000
set_option maxHeartbeats 4000000
namespace Any
open PySem PySem.Spec PyProof.Rows L2
abbrev esrc (e : El) : Int := e.1.2.s
abbrev etgt (e : El) : Int := e.1.2.t
abbrev ew (e : El) : Int := e.2
abbrev estp (e : El) : AM.Stp := e.1.2
abbrev BFE := AM.BF El
def sd (S : List (Int × Int)) : List (Int × V) := S.map fun p => (p.1, V.int p.2)
def ld (L : List (Int × El)) : List (Int × V) := L.map fun p => (p.1, V.ref p.2.1.1)
theorem map_get {β : Type} (f : β → V) : ∀ (d : List (Int × β)) (k : Int), AM.dget (d.map fun p => (p.1, f p.2)) k = (AM.dget d k).map f
  | [], k => rfl
  | p :: r, k => by
    show AM.dget ((p.1, f p.2) :: r.map fun p => (p.1, f p.2)) k = _
    rw [AM.dget_cons, AM.dget_cons, map_get f r k]
    split <;> rfl
theorem map_put {β : Type} (f : β → V) (d : List (Int × β)) (k : Int) (v : β) : AM.dput (d.map fun p => (p.1, f p.2)) k (f v) = (AM.dput d k v).map fun p => (p.1, f p.2) := by
  unfold AM.dput
  rw [List.any_map]
  have : ((fun p : Int × V => decide (p.1 = k)) ∘ fun p : Int × β => (p.1, f p.2)) = fun p => decide (p.1 = k) := rfl
  rw [this]
  split
  · rw [List.map_map, List.map_map]
    apply List.map_congr_left
    intro p _
    show (if p.1 = k then (p.1, f v) else (p.1, f p.2)) = ((if p.1 = k then (p.1, v) else p).1, f (if p.1 = k then (p.1, v) else p).2)
    split <;> rfl
  · rw [List.map_append]
    rfl
theorem sd_get (S : List (Int × Int)) (k : Int) : AM.dget (sd S) k = (AM.dget S k).map V.int := map_get V.int S k
theorem sd_put (S : List (Int × Int)) (k v : Int) : AM.dput (sd S) k (.int v) = sd (AM.dput S k v) := map_put V.int S k v
theorem ld_get (L : List (Int × El)) (k : Int) : AM.dget (ld L) k = (AM.dget L k).map fun e => V.ref e.1.1 := map_get (fun e : El => V.ref e.1.1) L k
theorem ld_put (L : List (Int × El)) (k : Int) (e : El) : AM.dput (ld L) k (.ref e.1.1) = ld (AM.dput L k e) := map_put (fun e : El => V.ref e.1.1) L k e
def oi : Option Int → V
  | none => .non
  | some n => .int n
abbrev bf0 (b : Int) : BFE := ⟨[(b, 0)], [], none⟩
abbrev bfAll (ps : PL) (N : Nat) (b : Int) : BFE := AM.rounds esrc etgt ew (els ps) (N + 1) (bf0 b)
def spLowered : Sp := fun vs H Q _ => ∃ (l : Addr) (ps : PL) (N : Nat) (b : Int), vs = [.ref l, .int (N : Int), .int b] ∧ H l = some (.lst (prefs ps)) ∧ PairsOk H ps ∧ (∀ z ∈ ps, StpAt H z.2.1.1 z.2.1.2) ∧ ps.length ≤ 1000 ∧ N ≤ 100 ∧
  ∀ q S L H', Same H H' → H' q = some (.tup [.ref S, .ref L, oi (bfAll ps N b).ch]) → H' S = some (.dK (kd (sd (bfAll ps N b).S))) → H' L = some (.dK (kd (ld (bfAll ps N b).L))) → Q (.ref q) H'
/-- the sizes of the two dicts: no more places than pairs and one -/
structure BfS (ps : PL) (b : Int) (st : BFE) : Prop where
  s : ∀ k ∈ AM.dkeys st.S, k ∈ b :: (els ps).map etgt
  sn : (AM.dkeys st.S).Nodup
  l : ∀ k ∈ AM.dkeys st.L, k ∈ b :: (els ps).map etgt
  ln : (AM.dkeys st.L).Nodup
theorem BfS.few {ps : PL} {b : Int} {st : BFE} (h : BfS ps b st) : st.S.length ≤ ps.length + 1 ∧ st.L.length ≤ ps.length + 1 := by
  have h1 := len_sub h.sn h.s
  have h2 := len_sub h.ln h.l
  simp [AM.dkeys, els] at h1 h2
  exact ⟨h1, h2⟩
theorem dkeys_put {β : Type} {d : List (Int × β)} {k j : Int} {v : β} (h : j ∈ AM.dkeys (AM.dput d k v)) : j = k ∨ j ∈ AM.dkeys d := by
  rw [AM.mem_dkeys, AM.dget_dput] at h
  by_cases e : j = k
  · exact .inl e
  · rw [if_neg e] at h
    exact .inr (AM.mem_dkeys.mpr h)
theorem BfS.relax {ps : PL} {b : Int} {st : BFE} (h : BfS ps b st) {e : El} (he : e ∈ els ps) (n : Int) : BfS ps b ⟨AM.dput st.S (etgt e) n, AM.dput st.L (etgt e) e, some (etgt e)⟩ := by
  have hm : etgt e ∈ b :: (els ps).map etgt := List.mem_cons_of_mem _ (List.mem_map.mpr ⟨e, he, rfl⟩)
  refine ⟨fun k hk => ?_, AM.dput_nodup h.sn, fun k hk => ?_, AM.dput_nodup h.ln⟩
  · rcases dkeys_put hk with z | z
    · rw [z]
      exact hm
    · exact h.s k z
  · rcases dkeys_put hk with z | z
    · rw [z]
      exact hm
    · exact h.l k z
section
variable {P : Program} {w : World} {K : PySem.W.Frag} {mg : Str → Option Value} {base : Heap}
theorem sc_lowered : FnScope ["pairs", "places", "begin", "sums", "last", "changed", "_", "step", "number"] ["pairs", "places", "begin"] (defScope st_lowered) := ⟨rfl, rfl, rfl, by decide +kernel, rfl, by decide +kernel, by decide +kernel⟩
theorem ok_lowered (T : Txt K mg) : FnK P w K mg base CX0 1 "lowered" ["pairs", "places", "begin"] spLowered := by
  refine T.lowered.ok sc_lowered (fun vs H Q E h => ?_) (fun cdv A outer s H vs Q E hr h => ?_)
  · obtain ⟨l, ps, N, b, rfl, _⟩ := h
    rfl
  obtain ⟨l, ps, N, b, rfl, hl, hp, hs, few, hN, q⟩ := h
  have hu := hu_of hr
  refine ⟨_, (pss_cons (ps_par3 (i := 3) (j := 4) (l := 5) (by rfl) sc_lowered.nd rfl rfl rfl (by decide) (by decide) (by decide) rfl rfl rfl (pa_cons (pe_disp (pps_cons (pv 2) pe_int pps_nil) (by rfl) (by rfl) (fun z => by cases z) (by decide)) (pa_cons pe_dnewK (pa_cons pe_non pa_nil))) (by rfl))
    (pss_cons (ps_for (passes_of rfl) rfl (pi_range1 (by rfl) T.n_range (pa_cons (pe_op op_add (pv 1) pe_int) pa_nil)) (pg_name (i := 6) sc_lowered.nd rfl (Or.inl rfl)) (pss_cons (ps_set (i := 5) sc_lowered.nd rfl (Or.inl rfl) pe_non)
    (pss_cons (ps_for (passes_of rfl) rfl (pi_list (pv 0)) (pg_tup rfl (pgs_cons (pg_name (i := 7) sc_lowered.nd rfl (Or.inl rfl)) (pgs_cons (pg_name (i := 8) sc_lowered.nd rfl (Or.inl rfl)) pgs_nil))) (pss_one (ps_if (PW.pt (pw_and (pt_cmp (pc_din hu (pe_ix ix_tup (pv 7) pe_int (fun _ _ => rfl)) (pv 3))) (pw_and1 (PW.pt (pw_or (pt_cmp (pc_dnotin hu (pe_ix ix_tup (pv 7) pe_int (fun _ _ => rfl)) (pv 3))) (pw_or1 (pt_cmpR op_lt (pe_op op_add (pe_dget hu (pv 3) (pe_ix ix_tup (pv 7) pe_int (fun _ _ => rfl)) (fun _ _ => rfl)) (pv 8)) (pe_dget hu (pv 3) (pe_ix ix_tup (pv 7) pe_int (fun _ _ => rfl)) (fun _ _ => rfl)) (nomark _)))))))) (pss_cons (ps_dput hu (pv 3) (pe_ix ix_tup (pv 7) pe_int (fun _ _ => rfl)) (pe_op op_add (pe_dget hu (pv 3) (pe_ix ix_tup (pv 7) pe_int (fun _ _ => rfl)) (fun _ _ => rfl)) (pv 8)) rfl)
    (pss_cons (ps_dput hu (pv 4) (pe_ix ix_tup (pv 7) pe_int (fun _ _ => rfl)) (pv 7) rfl)
    (pss_one (ps_set (i := 5) sc_lowered.nd rfl (Or.inl rfl) (pe_ix ix_tup (pv 7) pe_int (fun _ _ => rfl)))))) pss_nil)))
    (pss_one (ps_if (pt_cmpR op_isN (pv 5) pe_non (nomark _)) (pss_one (ps_ret (pe_tup (pa_cons (pv 3) (pa_cons (pv 4) (pa_cons pe_non pa_nil)))))) pss_nil)))))
    (pss_one (ps_ret (pe_tup (pa_cons (pv 3) (pa_cons (pv 4) (pa_cons (pv 5) pa_nil)))))))), ?_⟩
  refine fun S nS => ⟨_, rfl, upd_same, [(.inl b, .int 0)], rfl, (by show 1 ≤ 15; decide), ?_⟩
  refine fun L nL => ⟨_, _, _, rfl, ?_⟩
  have sS : Same H (upd (upd H S (.dK [])) S (.dK (mergeK [] [(.inl b, .int 0)]))) := Same.mut (same_new nS _) nS
  have nSL : S ≠ L := ne_of_none (upd_same (H := upd H S (.dK []))) nL
  have nL1 : H L = none := not_none_same sS nL
  refine ⟨_, rfl, _, _, rfl, rfl, (N : Int) + 1, rfl, by omega, by omega, ?_⟩
  have hn : ((N : Int) + 1).toNat = N + 1 := by omega
  rw [hn]
  refine for_range (fun i σ H1 => ∃ st : BFE, Same H H1 ∧ H1 S = some (.dK (kd (sd st.S))) ∧ H1 L = some (.dK (kd (ld st.L))) ∧ BfS ps b st ∧ bfAll ps N b = AM.rounds esrc etgt ew (els ps) (N + 1 - i) st ∧
      ∃ x6 x7 x8, σ = [some (.ref l), some (.int N), some (.int b), some (.ref S), some (.ref L), some (oi st.ch), x6, x7, x8])
    ⟨bf0 b, sS.trans (same_new nL _), same_new nL _ _ _ upd_same, upd_same, ⟨fun k hk => ?_, by simp [AM.dkeys], fun k hk => ?_, by simp [AM.dkeys]⟩, rfl, _, _, _, rfl⟩ ?_ ?_
  · simp [AM.dkeys] at hk
    rw [hk]
    exact List.mem_cons_self ..
  · simp [AM.dkeys] at hk
  · rintro i σ H1 hi ⟨st, s1, eS, eL, B, er, x6, x7, x8, rfl⟩
    refine ⟨_, rfl, l, rfl, ⟨_, SqL.of (s1 _ _ hl)⟩, ?_⟩
    refine for_list (xs := prefs ps) (fun j σ H1 => ∃ st' : BFE, Same H H1 ∧ H1 S = some (.dK (kd (sd st'.S))) ∧ H1 L = some (.dK (kd (ld st'.L))) ∧ BfS ps b st' ∧ st' = ((els ps).take j).foldl (AM.relax esrc etgt ew) { st with ch := none } ∧
        ∃ x6 x7 x8, σ = [some (.ref l), some (.int N), some (.int b), some (.ref S), some (.ref L), some (oi st'.ch), x6, x7, x8])
      ⟨{ st with ch := none }, s1, eS, eL, ⟨B.s, B.sn, B.l, B.ln⟩, rfl, _, _, _, rfl⟩ (fun j σ H1 _ p => ?_) ?_ ?_
    · obtain ⟨_, p, _⟩ := p
      exact SqL.of (p _ _ hl)
    · rintro j x σ H1 hx ⟨st', s1, eS, eL, B, es, x6, x7, x8, rfl⟩
      rw [prefs, List.getElem?_map] at hx
      cases hb : ps[j]? with
      | none => rw [hb] at hx; cases hx
      | some z =>
      rw [hb] at hx
      cases hx
      have hz := List.mem_of_getElem? hb
      have he : z.2 ∈ els ps := List.mem_map.mpr ⟨z, hz, rfl⟩
      have et : (els ps).take (j + 1) = (els ps).take j ++ [z.2] := by
        rw [List.take_add_one, els, List.getElem?_map, hb]
        rfl
      obtain ⟨sb, g1, g2⟩ := hs z hz
      refine ⟨_, _, rfl, SqT.of (s1 _ _ (hp z hz)), rfl, _, _, rfl, _, _, rfl, rfl, ?_⟩
      refine ⟨_, rfl, _, _, _, _, rfl, rfl, SqT.of (s1 _ _ g1), rfl, _, rfl, S, _, rfl, dg eS _, _, rfl, ?_⟩
      have ef : ((els ps).take (j + 1)).foldl (AM.relax esrc etgt ew) { st with ch := none } = AM.relax esrc etgt ew st' z.2 := by
        rw [et, List.foldl_append, ← es]
        rfl
      have stay : AM.lowers esrc etgt ew st'.S z.2 = none → ∃ st'' : BFE, Same H H1 ∧ H1 S = some (.dK (kd (sd st''.S))) ∧ H1 L = some (.dK (kd (ld st''.L))) ∧ BfS ps b st'' ∧ st'' = ((els ps).take (j + 1)).foldl (AM.relax esrc etgt ew) { st with ch := none } ∧
        ∃ x6' x7' x8', [some (V.ref l), some (V.int N), some (V.int b), some (.ref S), some (.ref L), some (oi st'.ch), x6, some (.ref z.2.1.1), some (.int z.2.2)] = [some (.ref l), some (.int N), some (.int b), some (.ref S), some (.ref L), some (oi st''.ch), x6', x7', x8'] := fun hl0 => by
        refine ⟨st', s1, eS, eL, B, ?_, _, _, _, rfl⟩
        rw [ef]
        unfold AM.relax
        rw [hl0]
      rw [sd_get]
      cases hd : AM.dget st'.S z.2.1.2.s with
      | none =>
        refine iteF ?_
        refine iteF (stay ?_)
        unfold AM.lowers
        rw [hd]
      | some d =>
      have gS : DGet H1 S (.int z.2.1.2.s) (some (.int d)) := by
        have := dg eS z.2.1.2.s
        rw [sd_get, hd] at this
        exact this
      have fw := B.few
      refine iteT ?_
      refine ⟨_, rfl, _, _, _, _, rfl, rfl, SqT.of (s1 _ _ g1), rfl, _, rfl, S, _, rfl, dg eS _, _, rfl, ?_⟩
      rw [sd_get]
      cases ht : AM.dget st'.S z.2.1.2.t with
      | none =>
        refine iteT ?_
        have el : AM.lowers esrc etgt ew st'.S z.2 = some (d + z.2.2) := by
          unfold AM.lowers
          rw [hd]
          show (match AM.dget st'.S z.2.1.2.t with | none => _ | some _ => _) = _
          rw [ht]
        refine ⟨_, rfl, _, rfl, _, _, _, _, rfl, rfl, SqT.of (s1 _ _ g1), rfl, S, _, rfl, gS, _, rfl, _, _, rfl, rfl, _, rfl, _, rfl, _, _, _, _, rfl, rfl, SqT.of (s1 _ _ g1), rfl, S, _, rfl, dp eS _ _ (small_lt (by rw [sd, List.length_map]; omega)), ?_⟩
        rw [sd_put]
        have s2 : Same H (upd H1 S (.dK (kd (sd (AM.dput st'.S (etgt z.2) (d + z.2.2)))))) := Same.mut s1 nS
        have eL2 : (upd H1 S (.dK (kd (sd (AM.dput st'.S (etgt z.2) (d + z.2.2)))))) L = some (.dK (kd (ld st'.L))) := by
          rw [upd_ne nSL.symm]
          exact eL
        refine ⟨_, rfl, _, rfl, _, rfl, _, _, _, _, rfl, rfl, SqT.of (s2 _ _ g1), rfl, L, _, rfl, dp eL2 _ _ (small_lt (by rw [ld, List.length_map]; omega)), ?_⟩
        rw [ld_put]
        have s3 : Same H (upd (upd H1 S (.dK (kd (sd (AM.dput st'.S (etgt z.2) (d + z.2.2)))))) L (.dK (kd (ld (AM.dput st'.L (etgt z.2) z.2))))) := Same.mut s2 nL1
        refine ⟨_, rfl, _, _, _, _, rfl, rfl, SqT.of (s3 _ _ g1), rfl, ?_⟩
        refine ⟨⟨AM.dput st'.S (etgt z.2) (d + z.2.2), AM.dput st'.L (etgt z.2) z.2, some (etgt z.2)⟩, s3, ?_, upd_same, B.relax he _, ?_, _, _, _, rfl⟩
        · rw [upd_ne nSL]
          exact upd_same
        · rw [ef]
          unfold AM.relax
          rw [el]
      | some dt =>
      have gT : DGet H1 S (.int z.2.1.2.t) (some (.int dt)) := by
        have := dg eS z.2.1.2.t
        rw [sd_get, ht] at this
        exact this
      refine iteF ?_
      refine ⟨_, rfl, _, rfl, _, _, _, _, rfl, rfl, SqT.of (s1 _ _ g1), rfl, S, _, rfl, gS, _, rfl, _, _, rfl, rfl, _, rfl, _, rfl, _, _, _, _, rfl, rfl, SqT.of (s1 _ _ g1), rfl, S, _, rfl, gT, _, _, rfl, rfl, _, rfl, ?_⟩
      by_cases hc : d + z.2.2 < dt
      · rw [decide_eq_true hc]
        refine iteT ?_
        have el : AM.lowers esrc etgt ew st'.S z.2 = some (d + z.2.2) := by
          unfold AM.lowers
          rw [hd]
          show (match AM.dget st'.S z.2.1.2.t with | none => _ | some _ => _) = _
          rw [ht]
          exact if_pos hc
        refine ⟨_, rfl, _, rfl, _, _, _, _, rfl, rfl, SqT.of (s1 _ _ g1), rfl, S, _, rfl, gS, _, rfl, _, _, rfl, rfl, _, rfl, _, rfl, _, _, _, _, rfl, rfl, SqT.of (s1 _ _ g1), rfl, S, _, rfl, dp eS _ _ (small_lt (by rw [sd, List.length_map]; omega)), ?_⟩
        rw [sd_put]
        have s2 : Same H (upd H1 S (.dK (kd (sd (AM.dput st'.S (etgt z.2) (d + z.2.2)))))) := Same.mut s1 nS
        have eL2 : (upd H1 S (.dK (kd (sd (AM.dput st'.S (etgt z.2) (d + z.2.2)))))) L = some (.dK (kd (ld st'.L))) := by
          rw [upd_ne nSL.symm]
          exact eL
        refine ⟨_, rfl, _, rfl, _, rfl, _, _, _, _, rfl, rfl, SqT.of (s2 _ _ g1), rfl, L, _, rfl, dp eL2 _ _ (small_lt (by rw [ld, List.length_map]; omega)), ?_⟩
        rw [ld_put]
        have s3 : Same H (upd (upd H1 S (.dK (kd (sd (AM.dput st'.S (etgt z.2) (d + z.2.2)))))) L (.dK (kd (ld (AM.dput st'.L (etgt z.2) z.2))))) := Same.mut s2 nL1
        refine ⟨_, rfl, _, _, _, _, rfl, rfl, SqT.of (s3 _ _ g1), rfl, ?_⟩
        refine ⟨⟨AM.dput st'.S (etgt z.2) (d + z.2.2), AM.dput st'.L (etgt z.2) z.2, some (etgt z.2)⟩, s3, ?_, upd_same, B.relax he _, ?_, _, _, _, rfl⟩
        · rw [upd_ne nSL]
          exact upd_same
        · rw [ef]
          unfold AM.relax
          rw [el]
      · rw [decide_eq_false hc]
        refine iteF (stay ?_)
        unfold AM.lowers
        rw [hd]
        show (match AM.dget st'.S z.2.1.2.t with | none => _ | some _ => _) = _
        rw [ht]
        exact if_neg hc
    · rintro σ H1 ⟨st', s1, eS, eL, B, es, x6, x7, x8, rfl⟩
      rw [show (els ps).take (prefs ps).length = els ps by rw [prefs, List.length_map, ← List.length_map (as := ps) (f := (·.2))]; exact List.take_length] at es
      have e2 : N + 1 - i = (N - i) + 1 := by omega
      have er' : bfAll ps N b = if st'.ch = none then st' else AM.rounds esrc etgt ew (els ps) (N - i) st' := by
        rw [er, e2, es]
        rfl
      cases hc : st'.ch with
      | none =>
        refine ⟨_, rfl, rfl, _, rfl, iteT ?_⟩
        rw [if_pos hc] at er'
        refine ⟨_, rfl, _, rfl, (by show 3 ≤ sizeLine; decide), fun a na => ?_⟩
        have sa := same_new na (.tup [.ref S, .ref L, .non])
        refine q a S L _ (s1.trans sa) ?_ ?_ ?_
        · rw [er', hc]
          exact upd_same
        · rw [er']
          exact sa _ _ eS
        · rw [er']
          exact sa _ _ eL
      | some c =>
        refine ⟨_, rfl, rfl, _, rfl, iteF ?_⟩
        rw [if_neg (by rw [hc]; simp)] at er'
        refine ⟨st', s1, eS, eL, B, ?_, _, _, _, by rw [hc]⟩
        rw [er']
        congr 1
        omega
  · rintro σ H1 ⟨st, s1, eS, eL, B, er, x6, x7, x8, rfl⟩
    rw [Nat.sub_self] at er
    have er : bfAll ps N b = st := er
    refine ⟨_, rfl, _, rfl, _, rfl, (by show 3 ≤ sizeLine; decide), fun a na => ?_⟩
    have sa := same_new na (.tup [.ref S, .ref L, oi st.ch])
    refine q a S L _ (s1.trans sa) ?_ ?_ ?_
    · rw [er]
      exact upd_same
    · rw [er]
      exact sa _ _ eS
    · rw [er]
      exact sa _ _ eL
end
end Any
end
section
set_option Elab.async false
set_option linter.all false
set_option maxRecDepth 100000
set_option maxHeartbeats 4000000
namespace Any
open PySem PySem.Spec PyProof.Rows L2
/-- the ring that the way back gives -/
def backRing (g : Nat → El) (N m : Nat) : SL := ((List.range m).map fun i => (g (N + i)).1).reverse
theorem backRing_stps (g : Nat → El) (N m : Nat) : stps (backRing g N m) = AM.ringOf estp g N m := by
  unfold stps backRing AM.ringOf
  rw [List.map_reverse, List.map_map]
  rfl
def spRingBack : Sp := fun vs H Q _ => ∃ (L : Addr) (c : Int) (N : Nat) (D : List (Int × El)) (ps : List El) (f : AM.Stp → Int) (y : Nat → Int) (g : Nat → El) (m : Nat), vs = [.ref L, .int c, .int (N : Int)] ∧ H L = some (.dK (kd (ld D))) ∧
  AM.Back ps N estp f D c y g m ∧ (∀ z ∈ ps, StpAt H z.1.1 z.1.2) ∧ N ≤ 100 ∧ ∀ l H', Same H H' → H' l = some (.lst (refs (backRing g N m))) → Q (.ref l) H'
def spRingUnder (K : PySem.W.Frag) : Sp := fun vs H Q _ => ∃ (wb pa ra : Addr) (place : Int) (N : Nat) (ss : SL) (p r : Int × Int), vs = [.ref wb, .int place, .ref pa, .ref ra] ∧ WebAt K H wb N ss ∧ (0 ≤ place ∧ place < (N : Int)) ∧
  H pa = some (.tup [.int p.1, .int p.2]) ∧ H ra = some (.tup [.int r.1, .int r.2]) ∧ small64 p.1 ∧ small64 p.2 ∧ small64 r.1 ∧ small64 r.2 ∧
  (∀ (es : List El) S H', Same H H' → AM.Rest es place estp (AM.wt p r) S → AM.Covers (stps ss) place es estp → Q .non H') ∧
  (∀ l H' rs, Same H H' → H' l = some (.lst (refs rs)) → (∀ z ∈ rs, z ∈ ss) → rs.length ≤ N → AM.Ring (stps ss) place (stps rs) → AM.wsum (AM.wt p r) (stps rs) < 0 → Q (.ref l) H')
theorem in_of {ps : PL} {ss : SL} {t : Addr × AM.Stp → Bool} {f : AM.Stp → Int} (he : els ps = (ss.filter t).map (fun z => (z, f z.2))) (e : El) (h : e ∈ els ps) : e.1 ∈ ss ∧ e.2 = f e.1.2 := by
  rw [he] at h
  obtain ⟨z, hz, rfl⟩ := List.mem_map.mp h
  exact ⟨(List.mem_filter.mp hz).1, rfl⟩
theorem covers_of {ps : PL} {ss : SL} {t : Addr × AM.Stp → Bool} {f : AM.Stp → Int} {place : Int} (he : els ps = (ss.filter t).map (fun z => (z, f z.2))) (ht : ∀ p ∈ ss, t p = true ↔ AM.Reach (stps ss) place p.2.s) : AM.Covers (stps ss) place (els ps) estp := by
  intro e
  rw [he, List.map_map]
  constructor
  · intro h
    obtain ⟨z, hz, rfl⟩ := List.mem_map.mp h
    obtain ⟨h1, h2⟩ := List.mem_filter.mp hz
    exact ⟨List.mem_map.mpr ⟨z, h1, rfl⟩, (ht z h1).mp h2⟩
  · rintro ⟨h, h2⟩
    obtain ⟨z, hz, rfl⟩ := List.mem_map.mp h
    exact List.mem_map.mpr ⟨z, List.mem_filter.mpr ⟨hz, (ht z hz).mpr h2⟩, rfl⟩
section
variable {P : Program} {w : World} {K : PySem.W.Frag} {mg : Str → Option Value} {base : Heap}
theorem sc_ring_back : FnScope ["last", "changed", "places", "here", "_", "found", "at"] ["last", "changed", "places"] (defScope st_ring_back) := ⟨rfl, rfl, rfl, by decide +kernel, rfl, by decide +kernel, by decide +kernel⟩
theorem ok_ring_back (T : Txt K mg) : FnK P w K mg base CX0 1 "ring_back" ["last", "changed", "places"] spRingBack := by
  refine T.ring_back.ok sc_ring_back (fun vs H Q E h => ?_) (fun cdv A outer s H vs Q E hr h => ?_)
  · obtain ⟨L, c, N, D, ps, f, y, g, m, rfl, _⟩ := h
    rfl
  obtain ⟨L, c, N, D, ps, f, y, g, m, rfl, hL, B, hs, hN, q⟩ := h
  have hu := hu_of hr
  have dl : ∀ {H1 : Hp}, Same H H1 → ∀ i, DGet H1 L (.int (y i)) (some (.ref (g i).1.1)) := fun {H1} s1 i => by
    have := dg (s1 _ _ hL) (y i)
    rw [ld_get, B.at_] at this
    exact this
  refine ⟨_, (pss_cons (ps_set (i := 3) sc_ring_back.nd rfl (Or.inl rfl) (pv 1))
    (pss_cons (ps_for (passes_of rfl) rfl (pi_range1 (by rfl) T.n_range (pa_cons (pv 2) pa_nil)) (pg_name (i := 4) sc_ring_back.nd rfl (Or.inl rfl)) (pss_one (ps_set (i := 3) sc_ring_back.nd rfl (Or.inl rfl) (pe_ix ix_tup (pe_dget hu (pv 0) (pv 3) (fun _ _ => rfl)) pe_int (fun _ _ => rfl)))))
    (pss_cons (ps_par (i := 5) (j := 6) (by rfl) sc_ring_back.nd rfl rfl (by decide) rfl rfl (pa_cons (pe_lst pa_nil) (pa_cons (pv 3) pa_nil)) (by rfl))
    (pss_cons (ps_while (passes_of rfl) (PW.pt (pw_or (pt_not (pt_truth (pv 5) (by intro _; rfl))) (pw_or1 (pt_cmpR op_ne (pv 6) (pv 3) (nomark _))))) (pss_cons (ps_expr (pe_bm PySem.F.plainAttrs_list PySem.F.slot_list_append PySem.F.type_list_append mt_append (pv 5) (pa_cons (pe_dget hu (pv 0) (pv 6) (fun _ _ => rfl)) pa_nil)))
    (pss_one (ps_set (i := 6) sc_ring_back.nd rfl (Or.inl rfl) (pe_ix ix_tup (pe_dget hu (pv 0) (pv 6) (fun _ _ => rfl)) pe_int (fun _ _ => rfl))))))
    (pss_one (ps_ret (pe_revL (pv 5)))))))), ?_⟩
  refine ⟨_, rfl, _, rfl, (N : Int), rfl, by omega, by omega, ?_⟩
  have hn : ((N : Int)).toNat = N := by omega
  rw [hn]
  refine for_range (fun i σ H1 => H1 = H ∧ ∃ x4, σ = [some (.ref L), some (.int c), some (.int N), some (.int (y i)), x4, none, none]) ⟨rfl, _, by rw [B.y0]; rfl⟩ ?_ ?_
  · rintro i σ H1 hi ⟨rfl, x4, rfl⟩
    obtain ⟨sb, g1, g2⟩ := hs _ (B.mem i)
    refine ⟨_, rfl, _, rfl, L, _, rfl, dl (Same.refl _) i, _, _, _, _, rfl, rfl, SqT.of g1, rfl, ?_⟩
    exact ⟨rfl, _, by rw [← B.nxt i]; rfl⟩
  rintro σ H1 ⟨rfl, x4, rfl⟩
  refine ⟨(by show 0 ≤ sizeLine; decide), fun F nF => ⟨_, rfl, _, _, rfl, ?_⟩⟩
  have sF := same_new nF (.lst [])
  refine ⟨fun k σ H2 => ∃ j, k = m - j ∧ j ≤ m ∧ Same H1 H2 ∧ H2 F = some (.lst ((List.range j).map fun i => V.ref (g (N + i)).1.1)) ∧ ∃ x4, σ = [some (.ref L), some (.int c), some (.int N), some (.int (y N)), x4, some (.ref F), some (.int (y (N + j)))],
    ⟨_, 0, rfl, Nat.zero_le _, sF, upd_same, _, rfl⟩, ?_⟩
  rintro k σ H2 ⟨j, rfl, hj, s2, eF, x4, rfl⟩
  have m1 := B.one
  refine ⟨_, rfl, _, .inl ⟨_, SqL.of eF, rfl⟩, ?_⟩
  refine ite2 (fun c => ?_) (fun c => ?_)
  · have j0 : j = 0 := by
      cases j with
      | zero => rfl
      | succ j => rw [List.range_succ] at c; simp at c
    have hjm : j < m := by omega
    refine iteT ?_
    obtain ⟨sb, g1, g2⟩ := hs _ (B.mem (N + j))
    refine ⟨_, fun σ' H' h => h, ?_⟩
    refine ⟨_, rfl, .inl ⟨rfl, _, SqL.of eF⟩, _, rfl, _, rfl, L, _, rfl, dl s2 (N + j), F, _, _, rfl, rfl, eF, small_lt (by rw [List.length_map, List.length_range]; have := B.most; omega), ?_⟩
    have s3 : Same H1 (upd H2 F (.lst (((List.range j).map fun i => V.ref (g (N + i)).1.1) ++ [.ref (g (N + j)).1.1]))) := Same.mut s2 nF
    refine ⟨_, rfl, _, rfl, L, _, rfl, dl s3 (N + j), _, _, _, _, rfl, rfl, SqT.of (s3 _ _ g1), rfl, ?_⟩
    refine ⟨m - (j + 1), by omega, j + 1, rfl, by omega, s3, ?_, x4, ?_⟩
    · rw [upd_same, List.range_succ, List.map_append]
      rfl
    · rw [← Nat.add_assoc, ← B.nxt (N + j)]
      rfl
  · have j0 : j ≠ 0 := fun z => by
      subst z
      exact c rfl
    refine ⟨_, rfl, _, rfl, rfl, _, rfl, ite2 (fun c2 => ?_) (fun c2 => ?_)⟩
    · have hjm : j < m := by
        refine Nat.lt_of_le_of_ne hj fun z => ?_
        subst z
        rw [B.loop] at c2
        simp at c2
      obtain ⟨sb, g1, g2⟩ := hs _ (B.mem (N + j))
      refine ⟨_, fun σ' H' h => h, ?_⟩
      refine ⟨_, rfl, .inl ⟨rfl, _, SqL.of eF⟩, _, rfl, _, rfl, L, _, rfl, dl s2 (N + j), F, _, _, rfl, rfl, eF, small_lt (by rw [List.length_map, List.length_range]; have := B.most; omega), ?_⟩
      have s3 : Same H1 (upd H2 F (.lst (((List.range j).map fun i => V.ref (g (N + i)).1.1) ++ [.ref (g (N + j)).1.1]))) := Same.mut s2 nF
      refine ⟨_, rfl, _, rfl, L, _, rfl, dl s3 (N + j), _, _, _, _, rfl, rfl, SqT.of (s3 _ _ g1), rfl, ?_⟩
      refine ⟨m - (j + 1), by omega, j + 1, rfl, by omega, s3, ?_, x4, ?_⟩
      · rw [upd_same, List.range_succ, List.map_append]
        rfl
      · rw [← Nat.add_assoc, ← B.nxt (N + j)]
        rfl
    · have e : y (N + j) = y N := by
        by_cases z : y (N + j) = y N
        · exact z
        · exact absurd (by simp [z]) c2
      have hjm : j = m := by
        refine Nat.le_antisymm hj (Nat.le_of_not_lt fun z => B.first j (by omega) z e)
      subst hjm
      refine ⟨_, rfl, F, _, rfl, SqL.of eF, fun a na => q a _ (s2.trans (same_new na _)) ?_⟩
      rw [upd_same, ← List.map_reverse]
      unfold refs backRing
      rw [← List.map_reverse, List.map_map]
      rfl
theorem sc_ring_under : FnScope ["web", "place", "prices", "rate", "pairs", "sums", "last", "changed"] ["web", "place", "prices", "rate"] (defScope st_ring_under) := ⟨rfl, rfl, rfl, by decide +kernel, rfl, by decide +kernel, by decide +kernel⟩
theorem ok_ring_under (T : Txt K mg) : FnK P w K mg base CX0 3 "ring_under" ["web", "place", "prices", "rate"] (spRingUnder K) := by
  refine T.ring_under.ok sc_ring_under (fun vs H Q E h => ?_) (fun cdv A outer s H vs Q E hr h => ?_)
  · obtain ⟨wb, pa, ra, place, N, ss, p, r, rfl, _⟩ := h
    rfl
  obtain ⟨wb, pa, ra, place, N, ss, p, r, rfl, W, hb, hpa, hra, p1, p2, r1, r2, q1, q2⟩ := h
  refine ⟨_, (pss_cons (ps_set (i := 4) sc_ring_under.nd rfl (Or.inl rfl) (pe_f T.weighed (ok_weighed T) hr pass0 (pa_cons (pe_f T.steps_from (ok_steps_from T) hr pass0 (pa_cons (pv 0) (pa_cons (pv 1) pa_nil))) (pa_cons (pv 2) (pa_cons (pv 3) pa_nil)))))
    (pss_cons (ps_asg (pe_f T.lowered (ok_lowered T) hr pass0 (pa_cons (pv 4) (pa_cons (pe_fld (pv 0) rfl) (pa_cons (pv 1) pa_nil)))) (pg_tup rfl (pgs_cons (pg_name (i := 5) sc_ring_under.nd rfl (Or.inl rfl)) (pgs_cons (pg_name (i := 6) sc_ring_under.nd rfl (Or.inl rfl)) (pgs_cons (pg_name (i := 7) sc_ring_under.nd rfl (Or.inl rfl)) pgs_nil)))))
    (pss_one (ps_ret (pe_ifExp (pt_cmpR op_isN (pv 7) pe_non (nomark _)) pe_non (pe_f T.ring_back (ok_ring_back T) hr pass0 (pa_cons (pv 6) (pa_cons (pv 7) (pa_cons (pe_fld (pv 0) rfl) pa_nil))))))))), ?_⟩
  refine ⟨_, rfl, _, rfl, wb, place, N, ss, rfl, W, fun l t H1 s1 ht el => ?_⟩
  have okf : StepsOk H1 (ss.filter t) := fun z hz => (W.ok.up (Tups.of s1)) z (List.mem_filter.mp hz).1
  have fewf : (ss.filter t).length ≤ 14 := Nat.le_trans (List.length_filter_le ..) W.few
  refine ⟨_, rfl, _, rfl, l, pa, ra, ss.filter t, p, r, rfl, el, okf, by omega, s1 _ _ hpa, s1 _ _ hra, p1, p2, r1, r2, fun l' ps H2 s2 el' po he => ?_⟩
  have s12 := s1.trans s2
  have cov : AM.Covers (stps ss) place (els ps) estp := covers_of he ht
  have hin : ∀ z ∈ ps, z.2.1 ∈ ss ∧ z.2.2 = AM.wt p r z.2.1.2 := fun z hz => in_of he z.2 (List.mem_map.mpr ⟨z, hz, rfl⟩)
  have lps : ps.length ≤ 14 := by
    have := congrArg List.length he
    simp [els] at this
    have := fewf
    omega
  obtain ⟨dx, fs, lw, h1, h2, h3, h4⟩ := W.ins
  refine ⟨_, rfl, _, rfl, wb, _, dx, fs, _, rfl, s12 _ _ h1, T.webC, T.webP, h2, _, rfl, l', ps, N, place, rfl, el', po, fun z hz => W.ok.up (Tups.of s12) _ (hin z hz).1, by omega, by have := W.n6; omega, fun a S L H3 s3 ea eS eL => ?_⟩
  have s13 := s12.trans s3
  refine ⟨_, _, rfl, SqT.of ea, rfl, _, _, rfl, _, _, rfl, _, _, rfl, rfl, ?_⟩
  have hw : ∀ e ∈ els ps, ew e = AM.wt p r (estp e) := fun e he2 => (in_of he e he2).2
  cases hc : (bfAll ps N place).ch with
  | none =>
    refine ⟨_, rfl, rfl, _, rfl, iteT ?_⟩
    exact q1 (els ps) _ H3 s13 (AM.rest_of (src := esrc) (tgt := etgt) (w := ew) (fun _ => rfl) (fun _ => rfl) hw hc) cov
  | some c =>
    obtain ⟨y, g, m, B, _⟩ := AM.back_of (src := esrc) (tgt := etgt) (w := ew) (stp := estp) (f := AM.wt p r) (N := N) (fun _ => rfl) (fun _ => rfl) hw hb (fun e he2 => by
      have := W.bd _ (in_of he e he2).1
      exact ⟨this.s, this.t⟩) hc
    refine ⟨_, rfl, rfl, _, rfl, iteF ?_⟩
    refine ⟨_, rfl, _, rfl, _, rfl, wb, _, dx, fs, _, rfl, s13 _ _ h1, T.webC, T.webP, h2, L, c, N, _, els ps, _, y, g, m, rfl, eL, B, fun e he2 => W.ok.up (Tups.of s13) _ (in_of he e he2).1, by have := W.n6; omega, fun l3 H4 s4 el3 => ?_⟩
    obtain ⟨rw1, rw2, rw3, rw4⟩ := AM.ring_walk B
    have hg : ∀ i, g i ∈ els ps := B.mem
    refine q2 l3 H4 (backRing g N m) (s13.trans s4) el3 (fun z hz => ?_) ?_ ⟨⟨y N, ?_, ?_⟩, ?_, ?_⟩ ?_
    · obtain ⟨i, hi, e⟩ := List.mem_map.mp (List.mem_reverse.mp hz)
      rw [← e]
      exact (in_of he _ (hg _)).1
    · have := B.most
      simpa [backRing] using this
    · have := (cov (estp (g (N + (m - 1))))).mp (List.mem_map.mpr ⟨_, hg _, rfl⟩)
      rw [B.nxt] at this
      have e : N + (m - 1) + 1 = N + m := by have := B.one; omega
      rw [e, B.loop] at this
      exact this.2
    · rw [backRing_stps]
      exact rw1
    · intro z
      have := congrArg List.length z
      rw [backRing_stps, rw3] at this
      have := B.one
      simp at *
      omega
    · rw [backRing_stps]
      exact fun e he2 => ((cov e).mp (rw2 e he2)).1
    · rw [backRing_stps]
      exact rw4
end
end Any
end
section
set_option Elab.async false
set_option linter.all false
set_option maxRecDepth 100000
set_option maxHeartbeats 4000000
namespace Any
open PySem PySem.Spec PyProof.Rows L2
/-- the prices that the law draws -/
structure PrB (p : Int × Int) : Prop where
  a : 1 ≤ p.1 ∧ p.1 ≤ 9
  b : 1 ≤ p.2 ∧ p.2 ≤ 9
theorem natAbs_mul_le {a b : Int} {m n : Nat} (h : a.natAbs ≤ m) (g : b.natAbs ≤ n) : (a * b).natAbs ≤ m * n := by
  rw [Int.natAbs_mul]
  exact Nat.mul_le_mul h g
theorem cst_le {p : Int × Int} {N : Nat} {e : AM.Stp} (hp : PrB p) (h : Bd N e) : (AM.cst p e).natAbs ≤ 162 := by
  have h1 := natAbs_mul_le (a := p.1) (b := e.x) (m := 9) (n := 9) (by have := hp.a; omega) (by have := h.x; omega)
  have h2 := natAbs_mul_le (a := p.2) (b := e.y) (m := 9) (n := 9) (by have := hp.b; omega) (by have := h.y; omega)
  unfold AM.cst
  omega
theorem bds {N : Nat} {rs : SL} (h : BdS N rs) {e : AM.Stp} (he : e ∈ stps rs) : Bd N e := by
  obtain ⟨z, hz, rfl⟩ := List.mem_map.mp he
  exact h z hz
theorem cost_le {p : Int × Int} {N : Nat} {rs : SL} (hp : PrB p) (h : BdS N rs) : (AM.wsum (AM.cst p) (stps rs)).natAbs ≤ 162 * rs.length := by
  have := AM.wsum_bound (f := AM.cst p) (B := 162) (w := stps rs) fun e he => cst_le hp (bds h he)
  simpa [stps] using this
theorem ticks_le {N : Nat} {rs : SL} (h : BdS N rs) : (rs.length : Int) ≤ AM.wsum (·.k) (stps rs) ∧ AM.wsum (·.k) (stps rs) ≤ 6 * rs.length := by
  have h1 := AM.ticks_len (es := stps rs) (w := stps rs) (fun e he => (bds h he).k.1) (fun e he => he)
  have h2 := AM.wsum_bound (f := (·.k)) (B := 6) (w := stps rs) fun e he => by have := (bds h he).k; omega
  simp [stps] at h1 h2 ⊢
  omega
theorem rate_small {p : Int × Int} {N : Nat} {rs : SL} (hp : PrB p) (h : BdS N rs) (hn : rs ≠ []) (hl : rs.length ≤ 15) : (-2430 ≤ (AM.rate p (stps rs)).1 ∧ (AM.rate p (stps rs)).1 ≤ 2430) ∧ 0 < (AM.rate p (stps rs)).2 ∧ (AM.rate p (stps rs)).2 ≤ 90 := by
  have h1 := cost_le hp h
  obtain ⟨h2, h3⟩ := ticks_le h
  have h4 := List.length_pos_iff.mpr hn
  have pos : 0 < AM.wsum (·.k) (stps rs) := by omega
  have h5 := AM.natAbs_low_le (a := AM.wsum (AM.cst p) (stps rs)) pos
  have h6 := AM.low_snd_le (a := AM.wsum (AM.cst p) (stps rs)) pos
  have h7 := AM.low_pos (a := AM.wsum (AM.cst p) (stps rs)) pos
  unfold AM.rate
  omega
def spRateOf : Sp := fun vs H Q _ => ∃ (l pa : Addr) (rs : SL) (p : Int × Int) (N : Nat), vs = [.ref l, .ref pa] ∧ H l = some (.lst (refs rs)) ∧ StepsOk H rs ∧ BdS N rs ∧ rs ≠ [] ∧ rs.length ≤ 15 ∧ H pa = some (.tup [.int p.1, .int p.2]) ∧ PrB p ∧
  ∀ q H', Same H H' → H' q = some (.tup [.int (AM.rate p (stps rs)).1, .int (AM.rate p (stps rs)).2]) → Q (.ref q) H'
def spRingThrough : Sp := fun vs H Q _ => ∃ (l : Addr) (z : Addr × AM.Stp) (ss : SL), vs = [.ref l, .ref z.1] ∧ H l = some (.lst (refs ss)) ∧ StepsOk H ss ∧ ss.length ≤ 14 ∧ z ∈ ss ∧ AM.Reach (stps ss) z.2.t z.2.s ∧
  ∀ l' H' rs, Same H H' → H' l' = some (.lst (refs rs)) → (∀ x ∈ rs, x ∈ ss) → rs ≠ [] → rs.length ≤ 15 → AM.IsWalk z.2.s (stps rs) z.2.s → Q (.ref l') H'
def spSomeRing (K : PySem.W.Frag) : Sp := fun vs H Q _ => ∃ (wb : Addr) (place : Int) (N : Nat) (ss : SL), vs = [.ref wb, .int place] ∧ WebAt K H wb N ss ∧
  (∀ H', Same H H' → (∀ z w, AM.Reach (stps ss) place z → AM.IsWalk z w z → AM.Within (stps ss) w → w = []) → Q .non H') ∧
  (∀ l H' rs, Same H H' → H' l = some (.lst (refs rs)) → (∀ z ∈ rs, z ∈ ss) → rs.length ≤ 15 → AM.Ring (stps ss) place (stps rs) → Q (.ref l) H')
/-- ways: to each place found a walk -/
structure Wy (H : Hp) (V0 : Addr) (ss : SL) (u : Int) (ks : List Int) (d : List (Int × V)) : Prop where
  keys : AM.dkeys d = ks
  all : ∀ k ∈ ks, ∃ (l : Addr) (rs : SL), AM.dget d k = some (.ref l) ∧ H l = some (.lst (refs rs)) ∧ l ≠ V0 ∧ (∀ x ∈ rs, x ∈ ss) ∧ rs ≠ [] ∧ rs.length ≤ ks.length ∧ AM.IsWalk u (stps rs) k
theorem wy_get {H : Hp} {V0 : Addr} {ss : SL} {u : Int} {ks : List Int} {d : List (Int × V)} (w : Wy H V0 ss u ks d) (k : Int) : (AM.dget d k).isSome = decide (k ∈ ks) := by
  have h := AM.mem_dkeys (d := d) (k := k)
  rw [w.keys] at h
  by_cases hk : k ∈ ks
  · rw [decide_eq_true hk]
    cases e : AM.dget d k with
    | none => exact absurd e (h.mp hk)
    | some v => rfl
  · rw [decide_eq_false hk]
    cases e : AM.dget d k with
    | none => rfl
    | some v => exact absurd (h.mpr (by rw [e]; simp)) hk
theorem six {n : Nat} (h : 0 < n) : seqIndex? 0 n = some 0 := by
  unfold seqIndex?
  simp
  omega
section
variable {P : Program} {w : World} {K : PySem.W.Frag} {mg : Str → Option Value} {base : Heap}
theorem sc_rate_of : FnScope ["ring", "prices", "amounts", "ticks", "change"] ["ring", "prices"] (defScope st_rate_of) := ⟨rfl, rfl, rfl, by decide +kernel, rfl, by decide +kernel, by decide +kernel⟩
theorem ok_rate_of (T : Txt K mg) : FnK P w K mg base CX0 2 "rate_of" ["ring", "prices"] spRateOf := by
  refine T.rate_of.ok sc_rate_of (fun vs H Q E h => ?_) (fun cdv A outer s H vs Q E hr h => ?_)
  · obtain ⟨l, pa, rs, p, N, rfl, _⟩ := h
    rfl
  obtain ⟨l, pa, rs, p, N, rfl, hl, ok, bd, hn, len, hp, hb, q⟩ := h
  obtain ⟨t1, t2⟩ := ticks_le bd
  have h4 := List.length_pos_iff.mpr hn
  refine ⟨_, (pss_cons (ps_asg (pe_f T.sums_of (ok_sums_of T) hr pass0 (pa_cons (pv 0) pa_nil)) (pg_tup rfl (pgs_cons (pg_name (i := 2) sc_rate_of.nd rfl (Or.inl rfl)) (pgs_cons (pg_name (i := 3) sc_rate_of.nd rfl (Or.inl rfl)) (pgs_cons (pg_name (i := 4) sc_rate_of.nd rfl (Or.inl rfl)) pgs_nil)))))
    (pss_one (ps_ret (pe_f T.lowest (ok_lowest T) hr pass0 (pa_cons (pe_f T.cost_of (ok_cost_of T) hr pass0 (pa_cons (pv 1) (pa_cons (pv 2) pa_nil))) (pa_cons (pv 3) pa_nil)))))), ?_⟩
  refine ⟨_, rfl, l, rs, rfl, hl, ok, by omega, fun a b H1 s1 ea eb => ?_⟩
  refine ⟨_, _, rfl, SqT.of ea, rfl, _, _, rfl, _, _, rfl, _, _, rfl, rfl, ?_⟩
  refine ⟨_, rfl, _, rfl, pa, b, p.1, p.2, _, _, rfl, s1 _ _ hp, eb, by have := hb.a; omega, by have := hb.b; omega, ?_⟩
  rw [← AM.cst_sum]
  exact ⟨_, rfl, _, _, rfl, by omega, by omega, fun c H2 s2 _ ec => q c H2 (s1.trans s2) ec⟩
theorem sc_ring_through : FnScope ["steps", "first", "ways", "waiting", "here", "step"] ["steps", "first"] (defScope st_ring_through) := ⟨rfl, rfl, rfl, by decide +kernel, rfl, by decide +kernel, by decide +kernel⟩
theorem ok_ring_through (T : Txt K mg) : FnK P w K mg base CX0 1 "ring_through" ["steps", "first"] spRingThrough := by
  refine T.ring_through.ok sc_ring_through (fun vs H Q E h => ?_) (fun cdv A outer s H vs Q E hr h => ?_)
  · obtain ⟨l, z, ss, rfl, _⟩ := h
    rfl
  obtain ⟨l, z, ss, rfl, hl, ok, few, hz, hre, q⟩ := h
  have hu := hu_of hr
  obtain ⟨sb, f1, f2⟩ := ok z hz
  refine ⟨_, (pss_cons (ps_par (i := 2) (j := 3) (by rfl) sc_ring_through.nd rfl rfl (by decide) rfl rfl (pa_cons (pe_disp (pps_cons (pe_ix ix_tup (pv 1) pe_int (fun _ _ => rfl)) (pe_lst (pa_cons (pv 1) pa_nil)) pps_nil) (by rfl) (by rfl) (fun z => by cases z) (by decide)) (pa_cons (pe_lst (pa_cons (pe_ix ix_tup (pv 1) pe_int (fun _ _ => rfl)) pa_nil)) pa_nil)) (by rfl))
    (pss_cons (ps_while (passes_of rfl) (PW.pt (pw_or (pt_cmp (pc_dnotin hu (pe_ix ix_tup (pv 1) pe_int (fun _ _ => rfl)) (pv 2))) (pw_or1 (pt_cmpR op_eq (pe_ix ix_tup (pv 1) pe_int (fun _ _ => rfl)) (pe_ix ix_tup (pv 1) pe_int (fun _ _ => rfl)) (nomark _))))) (pss_cons (ps_if (pt_cmpR op_eq (pe_ix ix_tup (pv 1) pe_int (fun _ _ => rfl)) (pe_ix ix_tup (pv 1) pe_int (fun _ _ => rfl)) (nomark _)) (pss_one (ps_ret (pe_lst (pa_cons (pv 1) pa_nil)))) pss_nil)
    (pss_cons (ps_set (i := 4) sc_ring_through.nd rfl (Or.inl rfl) (pe_bm PySem.F.plainAttrs_list PySem.F.slot_list_pop PySem.F.type_list_pop mt_popAt (pv 3) (pa_cons pe_int pa_nil)))
    (pss_one (ps_for (passes_of rfl) rfl (pi_list (pv 0)) (pg_name (i := 5) sc_ring_through.nd rfl (Or.inl rfl)) (pss_one (ps_if (PW.pt (pw_and (pt_cmpR op_eq (pe_ix ix_tup (pv 5) pe_int (fun _ _ => rfl)) (pv 4) (nomark _)) (pw_and1 (pt_cmp (pc_dnotin hu (pe_ix ix_tup (pv 5) pe_int (fun _ _ => rfl)) (pv 2)))))) (pss_cons (ps_dput hu (pv 2) (pe_ix ix_tup (pv 5) pe_int (fun _ _ => rfl)) (pe_op op_cat (pe_dget hu (pv 2) (pv 4) (fun _ _ => rfl)) (pe_lst (pa_cons (pv 5) pa_nil))) rfl)
    (pss_one (ps_expr (pe_bm PySem.F.plainAttrs_list PySem.F.slot_list_append PySem.F.type_list_append mt_append (pv 3) (pa_cons (pe_ix ix_tup (pv 5) pe_int (fun _ _ => rfl)) pa_nil))))) pss_nil)))))))
    (pss_one (ps_ret (pe_dget hu (pv 2) (pe_ix ix_tup (pv 1) pe_int (fun _ _ => rfl)) (fun _ _ => rfl)))))), ?_⟩
  refine fun W nW => ?_
  have sW := same_new nW (.dK [])
  refine ⟨_, rfl, _, _, _, _, rfl, rfl, SqT.of (sW _ _ f1), rfl, ?_⟩
  refine ⟨_, rfl, (by show 1 ≤ sizeLine; decide), fun a na => ?_⟩
  have sa : Same H (upd (upd H W (.dK [])) a (.lst [.ref z.1])) := sW.trans (same_new na _)
  have naW : W ≠ a := ne_of_none (upd_same (H := H)) na
  refine ⟨(by rw [upd_ne naW]; exact upd_same), [(.inl z.2.t, .ref a)], rfl, (by show 1 ≤ 15; decide), ?_⟩
  have sb : Same H (upd (upd (upd H W (.dK [])) a (.lst [.ref z.1])) W (.dK (mergeK [] [(.inl z.2.t, .ref a)]))) := Same.mut sa nW
  have eb : (upd (upd (upd H W (.dK [])) a (.lst [.ref z.1])) W (.dK (mergeK [] [(.inl z.2.t, .ref a)]))) a = some (.lst (refs [z])) := by
    rw [upd_ne naW.symm]
    exact upd_same
  have eW : (upd (upd (upd H W (.dK [])) a (.lst [.ref z.1])) W (.dK (mergeK [] [(.inl z.2.t, .ref a)]))) W = some (.dK (kd [(z.2.t, .ref a)])) := upd_same
  generalize (upd (upd (upd H W (.dK [])) a (.lst [.ref z.1])) W (.dK (mergeK [] [(.inl z.2.t, .ref a)]))) = Hb at sb eb eW ⊢
  refine ⟨_, rfl, _, _, _, _, rfl, rfl, SqT.of (sb _ _ f1), rfl, (by show 1 ≤ sizeLine; decide), fun V0 nV0 => ⟨_, _, rfl, ?_⟩⟩
  have nV : H V0 = none := not_none_same sb nV0
  have nWV : W ≠ V0 := ne_of_none eW nV0
  have sc := same_new nV0 (.lst [.int z.2.t])
  refine ⟨fun m σ H2 => ∃ ks ws d, Same H H2 ∧ Sr (stps ss) z.2.t ks ws (fun _ => False) ∧ m = ws.length + 2 * ((stps ss).length + 1 - ks.length) ∧ H2 W = some (.dK (kd d)) ∧ Wy H2 V0 ss z.2.s ks d ∧ H2 V0 = some (.lst (ws.map V.int)) ∧ ∃ x4 x5, σ = [some (.ref l), some (.ref z.1), some (.ref W), some (.ref V0), x4, x5],
    ⟨_, [z.2.t], [z.2.t], [(z.2.t, .ref a)], sb.trans sc, ⟨by simp, fun k h => h, by simp, fun k h => by simp at h; subst h; exact .refl _ _, fun k h => .inl h, Nat.le_refl _⟩, rfl, sc _ _ eW, ⟨rfl, fun k hk => ?_⟩, upd_same, none, none, rfl⟩, ?_⟩
  · simp at hk
    subst hk
    exact ⟨a, [z], by rw [AM.dget_cons, if_pos rfl], sc _ _ eb, ne_of_none eb nV0, fun x hx => by simp at hx; subst hx; exact hz, by simp, by simp, rfl, rfl⟩
  rintro m σ H2 ⟨ks, ws, d, s2, S, rfl, eW2, wy, eV, x4, x5, rfl⟩
  have one : ∀ {p : Addr} {H3 : Hp}, z.2.s = z.2.t → Same H H3 → H3 p = none → Q (.ref p) (upd H3 p (.lst [.ref z.1])) := fun {p H3} e s3 np =>
    q p _ [z] (s3.trans (same_new np _)) upd_same (fun x hx => by simp at hx; subst hx; exact hz) (by simp) (by simp) ⟨rfl, e.symm⟩
  refine ⟨_, rfl, _, _, _, _, rfl, rfl, SqT.of (s2 _ _ f1), rfl, _, rfl, W, _, rfl, dg eW2 z.2.s, _, rfl, ?_⟩
  rw [wy_get wy]
  by_cases hin : z.2.s ∈ ks
  · rw [decide_eq_true hin]
    refine iteF ?_
    refine ⟨_, rfl, _, _, _, _, rfl, rfl, SqT.of (s2 _ _ f1), rfl, _, rfl, _, _, _, _, rfl, rfl, SqT.of (s2 _ _ f1), rfl, rfl, _, rfl, ite2 (fun c => ?_) (fun c => ?_)⟩
    · have e : z.2.s = z.2.t := V.int.inj (of_decide_eq_true c)
      refine ⟨_, fun _ _ h => h, ?_⟩
      refine ⟨_, rfl, _, _, _, _, rfl, rfl, SqT.of (s2 _ _ f1), rfl, _, rfl, _, _, _, _, rfl, rfl, SqT.of (s2 _ _ f1), rfl, rfl, _, rfl, ?_⟩
      rw [c]
      exact iteT ⟨_, rfl, (by show 1 ≤ sizeLine; decide), fun p np => one e s2 np⟩
    · obtain ⟨l1, rs, g1, g2, g3, g4, g5, g6, g7⟩ := wy.all _ hin
      have hg : DGet H2 W (.int z.2.s) (some (.ref l1)) := by
        have := dg eW2 z.2.s
        rw [g1] at this
        exact this
      refine ⟨_, rfl, _, rfl, _, _, _, _, rfl, rfl, SqT.of (s2 _ _ f1), rfl, W, _, rfl, hg, ?_⟩
      exact q l1 H2 rs s2 g2 g4 g5 (by have := S.few; simp [stps] at this; omega) g7
  · rw [decide_eq_false hin]
    refine iteT ⟨_, fun _ _ h => h, ?_⟩
    refine ⟨_, rfl, _, _, _, _, rfl, rfl, SqT.of (s2 _ _ f1), rfl, _, rfl, _, _, _, _, rfl, rfl, SqT.of (s2 _ _ f1), rfl, rfl, _, rfl, ite2 (fun c => ?_) (fun c => ?_)⟩
    · have e : z.2.s = z.2.t := V.int.inj (of_decide_eq_true c)
      exact ⟨_, rfl, (by show 1 ≤ sizeLine; decide), fun p np => one e s2 np⟩
    · cases ws with
      | nil =>
        refine absurd (hre.ind (P := fun v => v ∈ ks) S.fst fun e he hs => ?_) hin
        rcases S.cl _ hs with h | h | h
        · cases h
        · exact h.elim
        · exact h e he rfl
      | cons here ws0 =>
      refine ⟨_, rfl, .inl ⟨rfl, _, SqL.of eV⟩, V0, _, 0, 0, .int here, rfl, rfl, eV, by decide, by decide, six (by simp), rfl, ?_⟩
      have s3 : Same H (upd H2 V0 (.lst (ws0.map V.int))) := Same.mut s2 nV
      have eW3 : (upd H2 V0 (.lst (ws0.map V.int))) W = some (.dK (kd d)) := by
        rw [upd_ne nWV]
        exact eW2
      have wy3 : Wy (upd H2 V0 (.lst (ws0.map V.int))) V0 ss z.2.s ks d := ⟨wy.keys, fun k hk => by
        obtain ⟨l1, rs, g1, g2, g3, g⟩ := wy.all k hk
        exact ⟨l1, rs, g1, by rw [upd_ne g3]; exact g2, g3, g⟩⟩
      have eV3 : (upd H2 V0 (.lst (ws0.map V.int))) V0 = some (.lst (ws0.map V.int)) := upd_same
      rw [show ((here :: ws0).map V.int).eraseIdx 0 = ws0.map V.int from rfl]
      generalize (upd H2 V0 (.lst (ws0.map V.int))) = H3 at s3 eW3 wy3 eV3 ⊢
      refine ⟨_, rfl, l, rfl, ⟨_, SqL.of (s3 _ _ hl)⟩, ?_⟩
      refine for_list (xs := refs ss) (fun i σ H' => ∃ ks' ws' d', Same H H' ∧ Sr (stps ss) z.2.t ks' ws' (fun k => k = here) ∧ (∀ e ∈ (stps ss).take i, e.s = here → e.t ∈ ks') ∧ here ∈ ks' ∧
          ws'.length + 2 * ((stps ss).length + 1 - ks'.length) < (here :: ws0).length + 2 * ((stps ss).length + 1 - ks.length) ∧ H' W = some (.dK (kd d')) ∧ Wy H' V0 ss z.2.s ks' d' ∧ H' V0 = some (.lst (ws'.map V.int)) ∧
          ∃ x5, σ = [some (.ref l), some (.ref z.1), some (.ref W), some (.ref V0), some (.int here), x5])
        ⟨ks, ws0, d, s3, ⟨S.nd, fun k hk => S.sub k (List.mem_cons_of_mem _ hk), S.fst, S.rch, fun k hk => ?_, ?_⟩, fun e he => by simp at he, S.sub _ (List.mem_cons_self ..), by simp, eW3, wy3, eV3, _, rfl⟩ (fun i σ' H' _ p => ?_) ?_ ?_
      · rcases S.cl k hk with h | h | h
        · rcases List.mem_cons.mp h with h | h
          · exact .inr (.inl h)
          · exact .inl h
        · exact h.elim
        · exact .inr (.inr h)
      · have := S.le
        simp at this
        omega
      · obtain ⟨_, _, _, p, _⟩ := p
        exact SqL.of (p _ _ hl)
      · rintro i x σ' H' hx ⟨ks', ws', d', s5, S5, tk, hh, ml, eW5, wy5, eV5, x5', rfl⟩
        rw [refs, List.getElem?_map] at hx
        cases hb : ss[i]? with
        | none => rw [hb] at hx; cases hx
        | some y =>
        rw [hb] at hx
        cases hx
        have hy := List.mem_of_getElem? hb
        obtain ⟨yb, y1, y2⟩ := ok y hy
        have et : (stps ss).take (i + 1) = (stps ss).take i ++ [y.2] := by
          rw [List.take_add_one, stps, List.getElem?_map, hb]
          rfl
        have lks := S5.few
        have lss : (stps ss).length ≤ 14 := by rw [stps, List.length_map]; exact few
        have skip : (y.2.s = here → y.2.t ∈ ks') → ∀ e ∈ (stps ss).take (i + 1), e.s = here → e.t ∈ ks' := fun h e he => by
          rw [et] at he
          rcases List.mem_append.mp he with he | he
          · exact tk e he
          · simp at he
            subst he
            exact h
        refine ⟨_, rfl, _, _, _, _, rfl, rfl, SqT.of (s5 _ _ y1), rfl, _, rfl, rfl, _, rfl, ite2 (fun c => ?_) (fun c => ?_)⟩
        · have eh : y.2.s = here := V.int.inj (of_decide_eq_true c)
          refine ⟨_, rfl, _, _, _, _, rfl, rfl, SqT.of (s5 _ _ y1), rfl, _, rfl, W, _, rfl, dg eW5 y.2.t, _, rfl, ?_⟩
          rw [wy_get wy5]
          by_cases hin2 : y.2.t ∈ ks'
          · rw [decide_eq_true hin2]
            exact iteF ⟨ks', ws', d', s5, S5, skip fun _ => hin2, hh, ml, eW5, wy5, eV5, _, rfl⟩
          rw [decide_eq_false hin2]
          refine iteT ?_
          obtain ⟨l1, rs, g1, g2, g3, g4, g5, g6, g7⟩ := wy5.all _ hh
          have hg : DGet H' W (.int here) (some (.ref l1)) := by
            have := dg eW5 here
            rw [g1] at this
            exact this
          refine ⟨_, rfl, _, rfl, W, _, rfl, hg, _, rfl, (by show 1 ≤ sizeLine; decide), fun b nb => ?_⟩
          have sb := same_new nb (.lst [.ref y.1])
          refine ⟨l1, b, _, _, rfl, rfl, sb _ _ g2, upd_same, small_line (by rw [refs_len]; simp; omega), fun p np => ?_⟩
          have er : refs rs ++ [.ref y.1] = refs (rs ++ [y]) := by simp [refs]
          rw [er]
          have sp := sb.trans (same_new np (.lst (refs (rs ++ [y]))))
          have ep : (upd (upd H' b (.lst [.ref y.1])) p (.lst (refs (rs ++ [y])))) p = some (.lst (refs (rs ++ [y]))) := upd_same
          have npV : p ≠ V0 := (ne_of_none (sb _ _ eV5) np).symm
          generalize (upd (upd H' b (.lst [.ref y.1])) p (.lst (refs (rs ++ [y])))) = H6 at sp ep ⊢
          have gn : AM.dget d' y.2.t = none := by
            have := wy_get wy5 y.2.t
            rw [decide_eq_false hin2] at this
            cases e : AM.dget d' y.2.t with
            | none => rfl
            | some v => rw [e] at this; cases this
          have ld' : d'.length = ks'.length := by
            have := congrArg List.length wy5.keys
            simpa [AM.dkeys] using this
          refine ⟨_, rfl, _, rfl, _, _, _, _, rfl, rfl, SqT.of (sp _ _ (s5 _ _ y1)), rfl, W, _, rfl, dp (sp _ _ eW5) y.2.t (.ref p) (small_lt (by omega)), ?_⟩
          rw [AM.dkeys_dput_new gn]
          have s7 : Same H (upd H6 W (.dK (kd (d' ++ [(y.2.t, .ref p)])))) := Same.mut (Same.trans s5 sp) nW
          have stl : ∀ {q : Addr} {xs : List V}, H6 q = some (.lst xs) → (upd H6 W (.dK (kd (d' ++ [(y.2.t, .ref p)])))) q = some (.lst xs) := fun {q xs} h => by
            rw [upd_ne fun z => ?_]
            · exact h
            · rw [z, sp _ _ eW5] at h
              cases h
          have eW7 : (upd H6 W (.dK (kd (d' ++ [(y.2.t, .ref p)])))) W = some (.dK (kd (d' ++ [(y.2.t, .ref p)]))) := upd_same
          generalize (upd H6 W (.dK (kd (d' ++ [(y.2.t, .ref p)])))) = H7 at s7 stl eW7 ⊢
          refine ⟨_, rfl, .inl ⟨rfl, _, SqL.of (stl (sp _ _ eV5))⟩, _, rfl, _, _, _, _, rfl, rfl, SqT.of (s7 _ _ y1), rfl, V0, _, _, rfl, rfl, stl (sp _ _ eV5), small_lt (by rw [List.length_map]; have := S5.le; omega), ?_⟩
          have hry : AM.Reach (stps ss) z.2.t y.2.t := (eh ▸ S5.rch _ hh : AM.Reach (stps ss) z.2.t y.2.s).step (List.mem_map.mpr ⟨y, hy, rfl⟩)
          have S8 : Sr (stps ss) z.2.t (ks' ++ [y.2.t]) (ws' ++ [y.2.t]) (fun k => k = here) := by
            refine ⟨AM.nodup_snoc S5.nd hin2, fun k hk => ?_, List.mem_append_left _ S5.fst, fun k hk => ?_, fun k hk => ?_, ?_⟩
            · rcases List.mem_append.mp hk with h | h
              · exact List.mem_append_left _ (S5.sub k h)
              · exact List.mem_append_right _ h
            · rcases List.mem_append.mp hk with h | h
              · exact S5.rch k h
              · simp at h
                rw [h]
                exact hry
            · rcases List.mem_append.mp hk with h | h
              · rcases S5.cl k h with h | h | h
                · exact .inl (List.mem_append_left _ h)
                · exact .inr (.inl h)
                · exact .inr (.inr fun e he z => List.mem_append_left _ (h e he z))
              · exact .inl (List.mem_append_right _ h)
            · have := S5.le
              simp
              omega
          have l8 := S8.few
          refine ⟨ks' ++ [y.2.t], ws' ++ [y.2.t], d' ++ [(y.2.t, .ref p)], Same.mut s7 nV, S8, fun e he z => ?_, List.mem_append_left _ hh, ?_, ?_, ⟨?_, fun k hk => ?_⟩, ?_, _, rfl⟩
          · rw [et] at he
            rcases List.mem_append.mp he with he | he
            · exact List.mem_append_left _ (tk e he z)
            · simp at he
              subst he
              exact List.mem_append_right _ (by simp)
          · simp at l8 ml ⊢
            omega
          · rw [upd_ne nWV]
            exact eW7
          · show AM.dkeys (d' ++ _) = _
            rw [← wy5.keys]
            simp [AM.dkeys]
          · rcases List.mem_append.mp hk with h | h
            · obtain ⟨l2, rs2, u1, u2, u3, u4, u5, u6, u7⟩ := wy5.all k h
              refine ⟨l2, rs2, by rw [AM.dget_app, u1]; rfl, by rw [upd_ne u3]; exact stl (sp _ _ u2), u3, u4, u5, by simp; omega, u7⟩
            · simp at h
              subst h
              refine ⟨p, rs ++ [y], by rw [AM.dget_app, gn, AM.dget_cons, if_pos rfl]; rfl, by rw [upd_ne npV]; exact stl ep, npV, fun x hx => ?_, by simp, by simp; omega, ?_⟩
              · rcases List.mem_append.mp hx with h | h
                · exact g4 x h
                · simp at h
                  subst h
                  exact hy
              · rw [show stps (rs ++ [y]) = stps rs ++ [y.2] by simp [stps]]
                exact g7.snoc eh
          · rw [upd_same]
            simp
        · have nh : y.2.s ≠ here := fun e => c (by rw [e]; exact decide_eq_true rfl)
          exact ⟨ks', ws', d', s5, S5, skip fun e => absurd e nh, hh, ml, eW5, wy5, eV5, _, rfl⟩
      · rintro σ' H' ⟨ks', ws', d', s5, S5, tk, hh, ml, eW5, wy5, eV5, x5', rfl⟩
        refine ⟨_, ml, ks', ws', d', s5, ⟨S5.nd, S5.sub, S5.fst, S5.rch, fun k hk => ?_, S5.le⟩, rfl, eW5, wy5, eV5, _, _, rfl⟩
        rcases S5.cl k hk with h | h | h
        · exact .inl h
        · refine .inr (.inr fun e he z => tk e ?_ (z.trans h))
          rw [refs_len, ← List.length_map (as := ss) (f := (·.2))]
          rw [show (stps ss).take (ss.map (·.2)).length = stps ss from List.take_length]
          exact he
        · exact .inr (.inr h)
end
end Any
end
section
set_option Elab.async false
set_option linter.all false
set_option maxRecDepth 100000
set_option maxHeartbeats 4000000
namespace Any
open PySem PySem.Spec PyProof.Rows L2
/-- no ring can be come to -/
def NoRing (es : List AM.Stp) (place : Int) : Prop := ∀ z w, AM.Reach es place z → AM.IsWalk z w z → AM.Within es w → w = []
def spRing (K : PySem.W.Frag) (place : Int) (ss : SL) (p : Int × Int) (H : Hp) (Q : VK) : Prop :=
  (∀ H', Same H H' → NoRing (stps ss) place → Q .non H') ∧
  (∀ l H' rs, Same H H' → H' l = some (.lst (refs rs)) → (∀ z ∈ rs, z ∈ ss) → rs.length ≤ 15 → AM.Best (stps ss) place p (stps rs) → Q (.ref l) H')
def spCheapest (K : PySem.W.Frag) : Sp := fun vs H Q _ => ∃ (wb pa : Addr) (place : Int) (N : Nat) (ss : SL) (p : Int × Int), vs = [.ref wb, .int place, .ref pa] ∧ WebAt K H wb N ss ∧ (0 ≤ place ∧ place < (N : Int)) ∧
  H pa = some (.tup [.int p.1, .int p.2]) ∧ PrB p ∧ spRing K place ss p H Q
section
variable {P : Program} {w : World} {K : PySem.W.Frag} {mg : Str → Option Value} {base : Heap}
theorem reach_filter {ss : SL} {t : Addr × AM.Stp → Bool} {place : Int} (ht : ∀ p ∈ ss, t p = true ↔ AM.Reach (stps ss) place p.2.s) {u v : Int} {l : List AM.Stp} (hu : AM.Reach (stps ss) place u) (hl : AM.IsWalk u l v) (hw : AM.Within (stps ss) l) :
    AM.Within (stps (ss.filter t)) l := fun e he => by
  have r := hu.trans (AM.walk_reach hl hw e he)
  obtain ⟨z, hz, rfl⟩ := List.mem_map.mp (hw e he)
  exact List.mem_map.mpr ⟨z, List.mem_filter.mpr ⟨hz, (ht z hz).mpr r⟩, rfl⟩
theorem sc_some_ring : FnScope ["web", "place", "steps", "first"] ["web", "place"] (defScope st_some_ring) := ⟨rfl, rfl, rfl, by decide +kernel, rfl, by decide +kernel, by decide +kernel⟩
theorem ok_some_ring (T : Txt K mg) : FnK P w K mg base CX0 3 "some_ring" ["web", "place"] (spSomeRing K) := by
  refine T.some_ring.ok sc_some_ring (fun vs H Q E h => ?_) (fun cdv A outer s H vs Q E hr h => ?_)
  · obtain ⟨wb, place, N, ss, rfl, _⟩ := h
    rfl
  obtain ⟨wb, place, N, ss, rfl, W, q1, q2⟩ := h
  have hu := hu_of hr
  refine ⟨_, (pss_cons (ps_set (i := 2) sc_some_ring.nd rfl (Or.inl rfl) (pe_f T.steps_from (ok_steps_from T) hr pass0 (pa_cons (pv 0) (pa_cons (pv 1) pa_nil))))
    (pss_cons (ps_for (passes_of rfl) rfl (pi_list (pv 2)) (pg_name (i := 3) sc_some_ring.nd rfl (Or.inl rfl)) (pss_one (ps_if (pt_cmp (pc_din hu (pe_ix ix_tup (pv 3) pe_int (fun _ _ => rfl)) (pe_f T.come_to (ok_come_to T) hr pass0 (pa_cons (pv 2) (pa_cons (pe_ix ix_tup (pv 3) pe_int (fun _ _ => rfl)) pa_nil))))) (pss_one (ps_ret (pe_f T.ring_through (ok_ring_through T) hr pass0 (pa_cons (pv 2) (pa_cons (pv 3) pa_nil))))) pss_nil)))
    (pss_one (ps_ret pe_non)))), ?_⟩
  refine ⟨_, rfl, _, rfl, wb, place, N, ss, rfl, W, fun l t H1 s1 ht el => ?_⟩
  have okf : StepsOk H1 (ss.filter t) := fun z hz => (W.ok.up (Tups.of s1)) z (List.mem_filter.mp hz).1
  have fewf : (ss.filter t).length ≤ 14 := Nat.le_trans (List.length_filter_le ..) W.few
  have sub : ∀ e, e ∈ stps (ss.filter t) → e ∈ stps ss := fun e he => by
    obtain ⟨z, hz, rfl⟩ := List.mem_map.mp he
    exact List.mem_map.mpr ⟨z, (List.mem_filter.mp hz).1, rfl⟩
  refine ⟨_, rfl, l, rfl, ⟨_, SqL.of el⟩, ?_⟩
  refine for_list (xs := refs (ss.filter t)) (fun i σ H2 => Same H1 H2 ∧ (∀ e ∈ (stps (ss.filter t)).take i, ¬ AM.Reach (stps (ss.filter t)) e.t e.s) ∧ ∃ x3, σ = [some (.ref wb), some (.int place), some (.ref l), x3])
    ⟨Same.refl _, fun e he => by simp at he, _, rfl⟩ (fun i σ H2 _ p => SqL.of (p.1 _ _ el)) ?_ ?_
  · rintro i x σ H2 hx ⟨s2, no, x3, rfl⟩
    rw [refs, List.getElem?_map] at hx
    cases hb : (ss.filter t)[i]? with
    | none => rw [hb] at hx; cases hx
    | some z =>
    rw [hb] at hx
    cases hx
    have hz := List.mem_of_getElem? hb
    obtain ⟨sb, g1, g2⟩ := okf z hz
    have et : (stps (ss.filter t)).take (i + 1) = (stps (ss.filter t)).take i ++ [z.2] := by
      rw [List.take_add_one, stps, List.getElem?_map, hb]
      rfl
    refine ⟨_, rfl, _, _, _, _, rfl, rfl, SqT.of (s2 _ _ g1), rfl, _, rfl, _, rfl, _, _, _, _, rfl, rfl, SqT.of (s2 _ _ g1), rfl, ?_⟩
    refine ⟨l, ss.filter t, _, rfl, s2 _ _ el, okf.up (Tups.of s2), by omega, fun F H3 ks s3 eF hks => ?_⟩
    refine ⟨F, _, rfl, dg eF z.2.s, _, rfl, ?_⟩
    rw [tds_get]
    have s23 := s2.trans s3
    by_cases hin : z.2.s ∈ ks
    · rw [decide_eq_true hin]
      refine iteT ?_
      have hre := (hks _).mp hin
      refine ⟨_, rfl, _, rfl, l, z, ss.filter t, rfl, s23 _ _ el, okf.up (Tups.of s23), fewf, hz, hre, fun l' H4 rs s4 el' hin' hne hlen hw => ?_⟩
      refine q2 l' H4 rs (s1.trans (s23.trans s4)) el' (fun y hy => (List.mem_filter.mp (hin' y hy)).1) hlen ⟨⟨z.2.s, ?_, hw⟩, ?_, fun e he => ?_⟩
      · exact (ht z (List.mem_filter.mp hz).1).mp (List.mem_filter.mp hz).2
      · intro e
        have := congrArg List.length e
        simp [stps] at this
        exact hne this
      · obtain ⟨y, hy, rfl⟩ := List.mem_map.mp he
        exact sub _ (List.mem_map.mpr ⟨y, hin' y hy, rfl⟩)
    · rw [decide_eq_false hin]
      refine iteF ⟨s23, fun e he => ?_, _, rfl⟩
      rw [et] at he
      rcases List.mem_append.mp he with he | he
      · exact no e he
      · simp at he
        subst he
        exact fun r => hin ((hks _).mpr r)
  · rintro σ H2 ⟨s2, no, x3, rfl⟩
    rw [refs_len, ← List.length_map (as := ss.filter t) (f := (·.2)), show (stps (ss.filter t)).take ((ss.filter t).map (·.2)).length = stps (ss.filter t) from List.take_length] at no
    refine q1 H2 (s1.trans s2) fun v c hv hc hw => ?_
    cases c with
    | nil => rfl
    | cons e c =>
      have hw2 := reach_filter ht hv hc hw
      exact absurd ⟨c, hc.1 ▸ hc.2, fun x hx => hw2 x (List.mem_cons_of_mem _ hx)⟩ (no e (hw2 e (List.mem_cons_self ..)))
theorem sc_cheapest_ring : FnScope ["web", "place", "prices", "ring", "better"] ["web", "place", "prices"] (defScope st_cheapest_ring) := ⟨rfl, rfl, rfl, by decide +kernel, rfl, by decide +kernel, by decide +kernel⟩
theorem ok_cheapest_ring (T : Txt K mg) : FnK P w K mg base CX0 4 "cheapest_ring" ["web", "place", "prices"] (spCheapest K) := by
  refine T.cheapest_ring.ok sc_cheapest_ring (fun vs H Q E h => ?_) (fun cdv A outer s H vs Q E hr h => ?_)
  · obtain ⟨wb, pa, place, N, ss, p, rfl, _⟩ := h
    rfl
  obtain ⟨wb, pa, place, N, ss, p, rfl, W, hb, hpa, hp, q1, q2⟩ := h
  refine ⟨_, (pss_cons (ps_set (i := 3) sc_cheapest_ring.nd rfl (Or.inl rfl) (pe_f T.some_ring (ok_some_ring T) hr pass0 (pa_cons (pv 0) (pa_cons (pv 1) pa_nil))))
    (pss_cons (ps_while (passes_of rfl) (pt_cmpR op_notN (pv 3) pe_non (nomark _)) (pss_cons (ps_set (i := 4) sc_cheapest_ring.nd rfl (Or.inl rfl) (pe_f T.ring_under (ok_ring_under T) hr pass0 (pa_cons (pv 0) (pa_cons (pv 1) (pa_cons (pv 2) (pa_cons (pe_f T.rate_of (ok_rate_of T) hr pass0 (pa_cons (pv 3) (pa_cons (pv 2) pa_nil))) pa_nil))))))
    (pss_cons (ps_if (pt_cmpR op_isN (pv 4) pe_non (nomark _)) (pss_one (ps_ret (pv 3))) pss_nil)
    (pss_one (ps_set (i := 3) sc_cheapest_ring.nd rfl (Or.inl rfl) (pv 4))))))
    (pss_one (ps_ret pe_non)))), ?_⟩
  refine ⟨_, rfl, _, rfl, wb, place, N, ss, rfl, W, fun H1 s1 no => ?_, fun l H1 rs s1 el hin len ring => ?_⟩
  · refine ⟨fun m σ H2 => m = 0 ∧ H2 = H1 ∧ σ = [some (.ref wb), some (.int place), some (.ref pa), some .non, none], ⟨_, rfl, rfl, rfl⟩, ?_⟩
    rintro m σ H2 ⟨rfl, rfl, rfl⟩
    exact ⟨_, rfl, rfl, _, rfl, iteF (q1 _ s1 no)⟩
  · have bd : ∀ rs : SL, (∀ z ∈ rs, z ∈ ss) → BdS N rs := fun rs h z hz => W.bd z (h z hz)
    refine ⟨fun m σ H2 => ∃ l rs, m = AM.meas p 2430 (AM.fac 90 : Nat) (stps rs) ∧ Same H H2 ∧ H2 l = some (.lst (refs rs)) ∧ (∀ z ∈ rs, z ∈ ss) ∧ rs.length ≤ 15 ∧ AM.Ring (stps ss) place (stps rs) ∧ ∃ x4, σ = [some (.ref wb), some (.int place), some (.ref pa), some (.ref l), x4],
      ⟨_, l, rs, rfl, s1, el, hin, len, ring, none, rfl⟩, ?_⟩
    rintro m σ H2 ⟨l, rs, rfl, s2, el, hin, len, ring, x4, rfl⟩
    have hne : rs ≠ [] := fun z => ring.ne (by rw [z]; rfl)
    obtain ⟨r1, r2, r3⟩ := rate_small hp (bd rs hin) hne len
    refine ⟨_, rfl, rfl, _, rfl, iteT ⟨_, fun _ _ h => h, ?_⟩⟩
    refine ⟨_, rfl, _, rfl, _, rfl, _, rfl, _, rfl, l, pa, rs, p, N, rfl, el, fun z hz => W.ok.up (Tups.of s2) z (hin z hz), bd rs hin, hne, len, s2 _ _ hpa, hp, fun c H3 s3 ec => ?_⟩
    have s23 := s2.trans s3
    have hpa1 := hp.a
    have hpb1 := hp.b
    refine ⟨wb, pa, c, place, N, ss, p, AM.rate p (stps rs), rfl, W.up s23, hb, s23 _ _ hpa, ec, ?_, ?_, ?_, ?_, fun es S H4 s4 R cov => ?_, fun l2 H4 rs2 s4 el2 hin2 len2 ring2 neg => ?_⟩
    · exact ⟨by omega, by omega⟩
    · exact ⟨by omega, by omega⟩
    · exact ⟨by omega, by omega⟩
    · exact ⟨by omega, by omega⟩
    · refine ⟨_, rfl, rfl, _, rfl, iteT ⟨_, rfl, ?_⟩⟩
      exact q2 l H4 rs (s23.trans s4) (s4 _ _ (s3 _ _ el)) hin len (R.best cov ring)
    · refine ⟨_, rfl, rfl, _, rfl, iteF ⟨_, rfl, ?_⟩⟩
      have len15 : rs2.length ≤ 15 := by have := W.n6; omega
      have hne2 : rs2 ≠ [] := fun z => ring2.ne (by rw [z]; rfl)
      obtain ⟨t1, t2⟩ := ticks_le (bd rs hin)
      obtain ⟨t3, t4⟩ := ticks_le (bd rs2 hin2)
      have p1 := List.length_pos_iff.mpr hne
      have p2 := List.length_pos_iff.mpr hne2
      have c1 := cost_le hp (bd rs2 hin2)
      refine ⟨_, AM.meas_less (by have := AM.fac_pos 90; omega) (by omega) (by omega) (AM.dvd_facI (by omega) (by omega)) (AM.dvd_facI (by omega) (by omega)) (by omega) (AM.rate_less (by omega) neg) (by decide), l2, rs2, rfl, s23.trans s4, el2, hin2, len15, ring2, _, rfl⟩
end
end Any
end
section
set_option Elab.async false
set_option linter.all false
set_option maxRecDepth 100000
set_option maxHeartbeats 4000000
namespace Any
open PySem PySem.Spec PyProof.Rows L2
/-! ### list(d.values()) -/
def tLstVals (te : TE) : TE := fun σ H Q => te σ H fun x H1 => ∃ (d : Addr) (kvs : List (Key × V)), x = .ref d ∧ H1 d = some (.dK kvs) ∧ ∀ p, H1 p = none → Q (.ref p) (upd H1 p (.lst (kvs.map (·.2))))
theorem kv_snd : ∀ {kvs : List (Key × V)} {vs : List (Key × Value)}, KV kvs vs → Vals (kvs.map (·.2)) (vs.map (·.2))
  | _, _, .nil => .nil
  | _, _, .cons h r => .cons h.2 (kv_snd r)
theorem items_snd {vs : List (Key × Value)} {acc : Array Value} (h : ItemsOf (fun i v => ∃ k, vs[i]? = some (k, v)) acc vs.length) : acc.toList = vs.map (·.2) := by
  refine List.ext_getElem? fun n => ?_
  rw [Array.getElem?_toList, List.getElem?_map]
  cases e : acc[n]? with
  | some v =>
    obtain ⟨k, hk⟩ := h.2 n v e
    rw [hk]
    rfl
  | none =>
    have := h.1
    have hn : acc.size ≤ n := by simpa using e
    rw [List.getElem?_eq_none (by omega)]
    rfl
section
variable {X : Cx} {e : Expr} {te : TE} {p1 ap cp pos : Pos}
theorem pe_lstVals (hcalm : X.calm = true) (he : PE X e te) (hgl : Gl X "list") (hml : X.mg "list" = none) (hbb : attributeBase e "values" X.env (eval e X.env) = eval e X.env := by rfl) (hll : (ap.endLine == cp.line) = true := by rfl)
    (hst : starEach [.Call (.Attribute e "values" ap) [] [] cp] X.env = (false, eval (.Call (.Attribute e "values" ap) [] [] cp) X.env) :: starEach [] X.env := by rfl) :
    PE X (.Call (.Name "list" p1) [.Call (.Attribute e "values" ap) [] [] cp] [] pos) (tLstVals te) := by
  constructor
  intro pn st σ0 Hh Qq II hyp
  refine wpAny_Call_Name_kw (ld_blt II hgl hml (by decide +kernel : bootBuiltins "list" = some (.type "list")) ?_)
  refine PyProof.Rows.callWith_type1 ?goal hst rfl
  rw [hst]
  change wpAny _ _ (spliced ((false, eval (.Call (.Attribute e "values" ap) [] [] cp) X.env) :: backTo pos (starEach [] X.env))) _ _ st
  refine Calls.spliced_cons ?_
  refine wpAny_Call_method (id := "dict.values") (T := "dict") hbb rfl hll F.plainAttrs_dict F.slot_dict_values F.type_dict_values (thn (he.run pn st σ0 Hh _ II hyp) fun u s1 ⟨x, H1, I1, rx, d, kvs, ex, hd, q⟩ => ?_)
  subst ex
  cases (show u = Value.ref d from rx)
  obtain ⟨hz, hmod, vs, kv, dof⟩ := I1.hok d _ hd
  obtain ⟨ep, hat⟩ := dof.dictAt
  have lk : kvs.length = vs.length := Paired.length kv
  have I2 : Inv X pn σ0 H1 { s1 with heap := s1.heap.push { cls := .type "dict_values", data := .fields #[.ref d] } } := I1.kept (t' := s1.toks) fun b ob w => Heap.get?_push_of_some _ w
  refine ⟨dof.typeIs, dof.mapOf.noDict, ?_⟩
  change wpAny _ _ (callWith cp (.builtin "dict.values") [.ref d] [] []) _ X.xe s1
  refine method_meetsIn F.slot_dict_values F.entry_dict_values rfl (PySem.evalArgs_none ⟨rfl, dof.typeIs, F.args_dict_values_1 _, _, meets_dict_values (mixKind X.prog X.w) d hmod, ⟨vs, dof⟩, ?_⟩)
  refine Calls.spliced_nil ?_
  refine PySem.W.kdl_call (PySem.W.kdl_values (d := d) (knd := mixKind X.prog X.w) (kvs := vs) (ep := ep)) (I1.ok.hd hcalm) ⟨⟨_, Heap.get?_push_size _ rfl, rfl, rfl⟩, hat.push _⟩ (by omega) fun h' tk acc c' hk hD hacc => ?_
  have ea : acc.toList = vs.map (·.2) := items_snd hacc
  have hv : Vals (kvs.map (·.2)) acc.toList := by
    rw [ea]
    exact kv_snd kv
  refine ⟨.ref _, _, I2.laid (t' := tk) hk (Nat.le_refl _) (show ObjOk X.prog X.w _ _ _ (.lst (kvs.map (·.2))) from ⟨by rw [List.length_map]; omega, acc.toList, c', hv, by rw [Array.toArray_toList]; exact hD⟩), rfl, q _ (I2.hok.fresh (Nat.le_refl _))⟩
end
end Any
end
section
set_option Elab.async false
set_option linter.all false
set_option maxRecDepth 100000
set_option maxHeartbeats 4000000
namespace Any
open PySem PySem.Spec PyProof.Rows L2
/-- a callee that may raise, but will not -/
theorem passF {P : Program} {w : World} {X : Cx} : Passes (CXw P w) X (fun _ _ _ => False) := fun _ _ _ _ _ _ _ ⟨_, _, _, _, _, _, _, _, _, _, _, _, h⟩ => h.elim
/-! ### the pure part: what lowered keeps -/
theorem bfs_fold {ps : PL} {b : Int} : ∀ (l : List El) (st : BFE), (∀ e ∈ l, e ∈ els ps) → BfS ps b st → BfS ps b (l.foldl (AM.relax esrc etgt ew) st)
  | [], st, _, h => h
  | e :: l, st, hl, h => by
    refine bfs_fold l _ (fun x hx => hl x (List.mem_cons_of_mem _ hx)) ?_
    unfold AM.relax
    cases el : AM.lowers esrc etgt ew st.S e with
    | none => exact h
    | some n => exact h.relax (hl e (List.mem_cons_self ..)) n
theorem bfs_rounds {ps : PL} {b : Int} : ∀ (n : Nat) (st : BFE), BfS ps b st → BfS ps b (AM.rounds esrc etgt ew (els ps) n st)
  | 0, st, h => h
  | n + 1, st, h => by
    have h1 : BfS ps b (AM.round esrc etgt ew (els ps) st) := bfs_fold _ _ (fun e he => he) ⟨h.s, h.sn, h.l, h.ln⟩
    unfold AM.rounds
    split
    · exact h1
    · exact bfs_rounds n _ h1
theorem bfs_all (ps : PL) (N : Nat) (b : Int) : BfS ps b (bfAll ps N b) := by
  refine bfs_rounds _ _ ⟨fun k hk => ?_, by simp [AM.dkeys], fun k hk => ?_, by simp [AM.dkeys]⟩
  · simp [AM.dkeys] at hk
    rw [hk]
    exact List.mem_cons_self ..
  · simp [AM.dkeys] at hk
/-- nothing below nothing: no round is the last one too many -/
theorem no_ch {ps : PL} {ss : SL} {t : Addr × AM.Stp → Bool} {f : AM.Stp → Int} {place : Int} {N : Nat} (he : els ps = (ss.filter t).map (fun z => (z, f z.2))) (ht : ∀ p ∈ ss, t p = true ↔ AM.Reach (stps ss) place p.2.s) (bd : BdS N ss) (hb : 0 ≤ place ∧ place < (N : Int))
    (nn : ∀ z w, AM.Reach (stps ss) place z → AM.IsWalk z w z → AM.Within (stps ss) w → 0 ≤ AM.wsum f w) : (bfAll ps N place).ch = none := by
  have cov : AM.Covers (stps ss) place (els ps) estp := covers_of he ht
  cases hc : (bfAll ps N place).ch with
  | none => rfl
  | some c =>
    obtain ⟨y, g, m, B, _⟩ := AM.back_of (src := esrc) (tgt := etgt) (w := ew) (stp := estp) (f := f) (N := N) (fun _ => rfl) (fun _ => rfl) (fun e he2 => (in_of he e he2).2) hb (fun e he2 => by
      have := bd _ (in_of he e he2).1
      exact ⟨this.s, this.t⟩) hc
    obtain ⟨w1, w2, w3, w4⟩ := AM.ring_walk B
    have h1 := (cov (estp (g (N + (m - 1))))).mp (List.mem_map.mpr ⟨_, B.mem _, rfl⟩)
    rw [B.nxt] at h1
    have e : N + (m - 1) + 1 = N + m := by have := B.one; omega
    rw [e, B.loop] at h1
    have := nn _ _ h1.2 w1 fun e he2 => ((cov e).mp (w2 e he2)).1
    omega
theorem rest_all {ps : PL} {ss : SL} {t : Addr × AM.Stp → Bool} {f : AM.Stp → Int} {place : Int} {N : Nat} (he : els ps = (ss.filter t).map (fun z => (z, f z.2))) (hc : (bfAll ps N place).ch = none) : AM.Rest (els ps) place estp f (bfAll ps N place).S :=
  AM.rest_of (src := esrc) (tgt := etgt) (w := ew) (fun _ => rfl) (fun _ => rfl) (fun e he2 => (in_of he e he2).2) hc
/-! ### promises -/
def spBest (K : PySem.W.Frag) : Sp := fun vs H Q _ => ∃ (wb pa : Addr) (place : Int) (N : Nat) (ss : SL) (p : Int × Int), vs = [.ref wb, .int place, .ref pa] ∧ WebAt K H wb N ss ∧ (0 ≤ place ∧ place < (N : Int)) ∧
  Sq K H pa [.int p.1, .int p.2] ∧ PrB p ∧ spRing K place ss p H Q
def spRate (K : PySem.W.Frag) : Sp := fun vs H Q _ => ∃ (wb pa : Addr) (place : Int) (N : Nat) (ss : SL) (p : Int × Int), vs = [.ref wb, .int place, .ref pa] ∧ WebAt K H wb N ss ∧ (0 ≤ place ∧ place < (N : Int)) ∧
  H pa = some (.tup [.int p.1, .int p.2]) ∧ PrB p ∧
  (∀ H', Same H H' → NoRing (stps ss) place → Q .non H') ∧
  (∀ q H' rs, Same H H' → H' q = some (.tup [.int (AM.rate p (stps rs)).1, .int (AM.rate p (stps rs)).2]) → (∀ z ∈ rs, z ∈ ss) → rs.length ≤ 15 → AM.Best (stps ss) place p (stps rs) → Q (.ref q) H')
def NonNeg (es : List AM.Stp) (place : Int) (f : AM.Stp → Int) : Prop := ∀ z w, AM.Reach es place z → AM.IsWalk z w z → AM.Within es w → 0 ≤ AM.wsum f w
def spHeights (K : PySem.W.Frag) : Sp := fun vs H Q _ => ∃ (wb pa ra : Addr) (place : Int) (N : Nat) (ss : SL) (p r : Int × Int), vs = [.ref wb, .int place, .ref pa, .ref ra] ∧ WebAt K H wb N ss ∧ (0 ≤ place ∧ place < (N : Int)) ∧
  Sq K H pa [.int p.1, .int p.2] ∧ PrB p ∧ H ra = some (.tup [.int r.1, .int r.2]) ∧ (-2430 ≤ r.1 ∧ r.1 ≤ 2430) ∧ (0 < r.2 ∧ r.2 ≤ 90) ∧ AM.low r.1 r.2 = r ∧ NonNeg (stps ss) place (AM.wt p r) ∧
  ∀ D H' S' (es : List El) S, Same H H' → H' D = some (.dK (kd (sd S'))) → (∀ v, AM.dget S' v = AM.dget S v) → AM.Rest es place estp (AM.wt p r) S → AM.Covers (stps ss) place es estp → Q (.ref D) H'
def spCredit (K : PySem.W.Frag) : Sp := fun vs H Q E => ∃ (wb : Addr) (u v : V) (N : Nat) (ss : SL), vs = [.ref wb, u, v] ∧ WebAt K H wb N ss ∧
  ((BadP K H u N ∧ Raised E H (He.ga K "BadPlace") "place" u) ∨
   ∃ place : Int, u = .int place ∧ (0 ≤ place ∧ place < (N : Int)) ∧
    (((PairV K H v false ∨ ∃ (a : Addr) (x y : Int), v = .ref a ∧ Sq K H a [.int x, .int y] ∧ ¬ (0 < x ∧ 0 < y)) ∧ Raised E H (He.ga K "BadPrices") "thing" v) ∨
     ∃ (pa : Addr) (p : Int × Int), v = .ref pa ∧ Sq K H pa [.int p.1, .int p.2] ∧ PrB p ∧
      (∀ H', Same H H' → NoRing (stps ss) place → Q .non H') ∧
      (∀ q H' rs m (es : List El) S, Same H H' → H' q = some (.tup [.int (AM.low (0 - m) (AM.rate p (stps rs)).2).1, .int (AM.low (0 - m) (AM.rate p (stps rs)).2).2]) → (∀ z ∈ rs, z ∈ ss) → rs.length ≤ 15 → AM.Best (stps ss) place p (stps rs) →
        AM.Rest es place estp (AM.wt p (AM.rate p (stps rs))) S → AM.Covers (stps ss) place es estp → (∃ v, AM.dget S v = some m) → (∀ v d, AM.dget S v = some d → m ≤ d) → Q (.ref q) H')))
section
variable {P : Program} {w : World} {K : PySem.W.Frag} {mg : Str → Option Value} {base : Heap}
theorem sc_best_ring : FnScope ["web", "place", "prices"] ["web", "place", "prices"] (defScope st_best_ring) := ⟨rfl, rfl, rfl, by decide +kernel, rfl, by decide +kernel, by decide +kernel⟩
theorem ok_best_ring (T : Txt K mg) : FnK P w K mg base CX0 6 "best_ring" ["web", "place", "prices"] (spBest K) := by
  refine T.best_ring.ok sc_best_ring (fun vs H Q E h => ?_) (fun cdv A outer s H vs Q E hr h => ?_)
  · obtain ⟨wb, pa, place, N, ss, p, rfl, _⟩ := h
    rfl
  obtain ⟨wb, pa, place, N, ss, p, rfl, W, hb, hpa, hp, q1, q2⟩ := h
  refine ⟨_, (pss_cons (ps_expr (pe_f T.check_place (ok_check_place T) hr passF (pa_cons (pv 0) (pa_cons (pv 1) pa_nil))))
    (pss_one (ps_ret (pe_f T.cheapest_ring (ok_cheapest_ring T) hr pass0 (pa_cons (pv 0) (pa_cons (pv 1) (pa_cons (pe_f T.checked_prices (ok_checked_prices T) hr passF (pa_cons (pv 2) pa_nil)) pa_nil))))))), ?_⟩
  have pa1 := hp.a
  have pb1 := hp.b
  refine ⟨_, rfl, _, rfl, wb, _, N, ss, rfl, W, .inl ⟨place, rfl, hb.1, hb.2, ?_⟩⟩
  refine ⟨_, rfl, _, rfl, _, rfl, _, rfl, .inl ⟨pa, p.1, p.2, rfl, hpa, by omega, by omega, fun c H1 s1 ec => ?_⟩⟩
  exact ⟨wb, c, place, N, ss, p, rfl, W.up s1, hb, ec, hp, fun H2 s2 => q1 H2 (s1.trans s2), fun l H2 rs s2 => q2 l H2 rs (s1.trans s2)⟩
theorem sc_least_rate : FnScope ["web", "place", "prices", "ring"] ["web", "place", "prices"] (defScope st_least_rate) := ⟨rfl, rfl, rfl, by decide +kernel, rfl, by decide +kernel, by decide +kernel⟩
theorem ok_least_rate (T : Txt K mg) : FnK P w K mg base CX0 5 "least_rate" ["web", "place", "prices"] (spRate K) := by
  refine T.least_rate.ok sc_least_rate (fun vs H Q E h => ?_) (fun cdv A outer s H vs Q E hr h => ?_)
  · obtain ⟨wb, pa, place, N, ss, p, rfl, _⟩ := h
    rfl
  obtain ⟨wb, pa, place, N, ss, p, rfl, W, hb, hpa, hp, q1, q2⟩ := h
  refine ⟨_, (pss_cons (ps_set (i := 3) sc_least_rate.nd rfl (Or.inl rfl) (pe_f T.cheapest_ring (ok_cheapest_ring T) hr pass0 (pa_cons (pv 0) (pa_cons (pv 1) (pa_cons (pv 2) pa_nil)))))
    (pss_one (ps_ret (pe_ifExp (pt_cmpR op_isN (pv 3) pe_non (nomark _)) pe_non (pe_f T.rate_of (ok_rate_of T) hr pass0 (pa_cons (pv 3) (pa_cons (pv 2) pa_nil))))))), ?_⟩
  refine ⟨_, rfl, _, rfl, _, rfl, wb, pa, place, N, ss, p, rfl, W, hb, hpa, hp, fun H1 s1 no => ?_, fun l H1 rs s1 el hin len best => ?_⟩
  · exact ⟨_, rfl, rfl, _, rfl, iteT (q1 H1 s1 no)⟩
  · refine ⟨_, rfl, rfl, _, rfl, iteF ⟨_, rfl, _, rfl, l, pa, rs, p, N, rfl, el, fun z hz => W.ok.up (Tups.of s1) z (hin z hz), fun z hz => W.bd z (hin z hz), fun z => best.ring.ne (by rw [z]; rfl), len, s1 _ _ hpa, hp, fun c H2 s2 ec => ?_⟩⟩
    exact q2 c H2 rs (s1.trans s2) ec hin len best
theorem sc_rate_at : FnScope ["web", "place", "prices", "ring"] ["web", "place", "prices"] (defScope st_rate_at) := ⟨rfl, rfl, rfl, by decide +kernel, rfl, by decide +kernel, by decide +kernel⟩
theorem ok_rate_at (T : Txt K mg) : FnK P w K mg base CX0 7 "rate_at" ["web", "place", "prices"] (spRate K) := by
  refine T.rate_at.ok sc_rate_at (fun vs H Q E h => ?_) (fun cdv A outer s H vs Q E hr h => ?_)
  · obtain ⟨wb, pa, place, N, ss, p, rfl, _⟩ := h
    rfl
  obtain ⟨wb, pa, place, N, ss, p, rfl, W, hb, hpa, hp, q1, q2⟩ := h
  refine ⟨_, (pss_cons (ps_set (i := 3) sc_rate_at.nd rfl (Or.inl rfl) (pe_f T.best_ring (ok_best_ring T) hr pass0 (pa_cons (pv 0) (pa_cons (pv 1) (pa_cons (pv 2) pa_nil)))))
    (pss_one (ps_ret (pe_ifExp (pt_cmpR op_isN (pv 3) pe_non (nomark _)) pe_non (pe_f T.rate_of (ok_rate_of T) hr pass0 (pa_cons (pv 3) (pa_cons (pv 2) pa_nil))))))), ?_⟩
  refine ⟨_, rfl, _, rfl, _, rfl, wb, pa, place, N, ss, p, rfl, W, hb, .inr hpa, hp, fun H1 s1 no => ?_, fun l H1 rs s1 el hin len best => ?_⟩
  · exact ⟨_, rfl, rfl, _, rfl, iteT (q1 H1 s1 no)⟩
  · refine ⟨_, rfl, rfl, _, rfl, iteF ⟨_, rfl, _, rfl, l, pa, rs, p, N, rfl, el, fun z hz => W.ok.up (Tups.of s1) z (hin z hz), fun z hz => W.bd z (hin z hz), fun z => best.ring.ne (by rw [z]; rfl), len, s1 _ _ hpa, hp, fun c H2 s2 ec => ?_⟩⟩
    exact q2 c H2 rs (s1.trans s2) ec hin len best
end
end Any
end
section
set_option Elab.async false
set_option linter.all false
set_option maxRecDepth 100000
set_option maxHeartbeats 4000000
namespace Any
open PySem PySem.Spec PyProof.Rows L2
theorem low_rate {p : Int × Int} {N : Nat} {rs : SL} (h : BdS N rs) (hn : rs ≠ []) : AM.low (AM.rate p (stps rs)).1 (AM.rate p (stps rs)).2 = AM.rate p (stps rs) := by
  obtain ⟨h2, h3⟩ := ticks_le h
  have h4 := List.length_pos_iff.mpr hn
  exact AM.low_low (by omega)
/-- a dict's comprehension over a list: an invariant by the turn -/
theorem dc_list {K : PySem.W.Frag} {a : Addr} {xs : List V} {g : TG} {tt : TT} {tk tv : TE} {vs : List Nat} {σ : L2.St} {H1 : Hp} {D : Addr} {Qd : Hp → Prop} (J : Nat → Hp → Prop)
    (j0 : J 0 (upd H1 D (.dK []))) (jl : ∀ n H, n ≤ xs.length → J n H → SqL K H a xs)
    (js : ∀ (n : Nat) x H, xs[n]? = some x → J n H → g x (wipe σ vs) H fun σ2 H2 => wipe σ2 vs = wipe σ vs ∧ tt σ2 H2 fun b H3 =>
      if b = true then tk σ2 H3 fun y H4 => tv σ2 H4 fun z H5 => ∃ kvs k, y = kV k ∧ H5 D = some (.dK kvs) ∧ kvs.length < sizeLine ∧ J (n + 1) (upd H5 D (.dK (putK kvs k z))) else J (n + 1) H3)
    (je : ∀ H, J xs.length H → Qd H) :
    ∃ W : Nat → Nat → Hp → Prop, (∃ m, W 0 m (upd H1 D (.dK []))) ∧ ∀ n m H, W n m H →
      ((Itl K a).stop n H ∧ Qd H) ∨ ((Itl K a).go n H ∧ ∃ Nx : Hp → Prop, (∀ H', Nx H' → ∃ m', m' < m ∧ W (n + 1) m' H') ∧ ∀ x H', (Itl K a).yld n H x H' → g x (wipe σ vs) H' fun σ2 H2 => wipe σ2 vs = wipe σ vs ∧ tt σ2 H2 fun b H3 =>
        if b = true then tk σ2 H3 fun y H4 => tv σ2 H4 fun z H5 => ∃ kvs k, y = kV k ∧ H5 D = some (.dK kvs) ∧ kvs.length < sizeLine ∧ Nx (upd H5 D (.dK (putK kvs k z))) else Nx H3) := by
  refine ⟨fun n m H => (m = xs.length - n ∧ n ≤ xs.length) ∧ J n H, ⟨_, ⟨rfl, Nat.zero_le _⟩, j0⟩, ?_⟩
  rintro n m H ⟨⟨rfl, hn⟩, j⟩
  have sq := jl n H hn j
  rcases Nat.lt_or_ge n xs.length with lt | ge
  · refine .inr ⟨⟨xs, xs[n], sq, List.getElem?_eq_getElem lt⟩, J (n + 1), fun H' j' => ⟨_, Nat.sub_lt_sub_left lt (Nat.lt_succ_self n), ⟨rfl, lt⟩, j'⟩, fun x H' y => ?_⟩
    rw [y.1]
    exact js n x H (y.2 xs sq) j
  · have en : n = xs.length := Nat.le_antisymm hn ge
    exact .inl ⟨⟨xs, sq, ge⟩, je H (en ▸ j)⟩
section
variable {P : Program} {w : World} {K : PySem.W.Frag} {mg : Str → Option Value} {base : Heap}
theorem sc_heights : FnScope ["web", "place", "prices", "rate", "pairs", "sums", "last", "changed", "here"] ["web", "place", "prices", "rate"] (defScope st_heights) := ⟨rfl, rfl, rfl, by decide +kernel, rfl, by decide +kernel, by decide +kernel⟩
theorem ok_heights (T : Txt K mg) : FnK P w K mg base CX0 6 "heights" ["web", "place", "prices", "rate"] (spHeights K) := by
  refine T.heights.ok sc_heights (fun vs H Q E h => ?_) (fun cdv A outer s H vs Q E hr h => ?_)
  · obtain ⟨wb, pa, ra, place, N, ss, p, r, rfl, _⟩ := h
    rfl
  obtain ⟨wb, pa, ra, place, N, ss, p, r, rfl, W, hb, hpa, hp, hra, r1, r2, hlow, nn, q⟩ := h
  have hu := hu_of hr
  have pa1 := hp.a
  have pb1 := hp.b
  refine ⟨_, (pss_cons (ps_expr (pe_f T.check_place (ok_check_place T) hr passF (pa_cons (pv 0) (pa_cons (pv 1) pa_nil))))
    (pss_cons (ps_set (i := 4) sc_heights.nd rfl (Or.inl rfl) (pe_f T.weighed (ok_weighed T) hr pass0 (pa_cons (pe_f T.steps_from (ok_steps_from T) hr pass0 (pa_cons (pv 0) (pa_cons (pv 1) pa_nil))) (pa_cons (pe_f T.checked_prices (ok_checked_prices T) hr passF (pa_cons (pv 2) pa_nil)) (pa_cons (pe_f T.checked_fraction (ok_checked_fraction T) hr pass0 (pa_cons (pv 3) pa_nil)) pa_nil)))))
    (pss_cons (ps_asg (pe_f T.lowered (ok_lowered T) hr pass0 (pa_cons (pv 4) (pa_cons (pe_fld (pv 0) rfl) (pa_cons (pv 1) pa_nil)))) (pg_tup rfl (pgs_cons (pg_name (i := 5) sc_heights.nd rfl (Or.inr rfl)) (pgs_cons (pg_name (i := 6) sc_heights.nd rfl (Or.inl rfl)) (pgs_cons (pg_name (i := 7) sc_heights.nd rfl (Or.inl rfl)) pgs_nil)))))
    (pss_one (ps_ret (pe_ifExp (pt_cmpR op_isN (pv 7) pe_non (nomark _)) (pe_dc rfl sc_heights.nd (pi_list (pe_callB (call_sortedDI rfl) rfl T.n_sorted (by decide +kernel) (pa_cons (pv 5) pa_nil))) (blkOk_by (own := [("here", 8)]) (N := ["web", "place", "prices", "rate", "pairs", "sums", "last", "changed", "here"]) (sc := defScope st_heights) (by decide +kernel)) (fun _ _ _ _ _ => (pg_name (i := 8) sc_heights.nd rfl (Or.inl rfl))) (fun _ _ _ _ _ => pts_nil) (fun _ _ _ _ _ => (pv 8)) (fun _ _ _ _ _ => (pe_dget hu (pv 5) (pv 8) (fun _ _ => rfl)))) pe_non)))))), ?_⟩
  refine ⟨_, rfl, _, rfl, wb, _, N, ss, rfl, W, .inl ⟨place, rfl, hb.1, hb.2, ?_⟩⟩
  refine ⟨_, rfl, _, rfl, wb, place, N, ss, rfl, W, fun l t H1 s1 ht el => ?_⟩
  have okf : StepsOk H1 (ss.filter t) := fun z hz => (W.ok.up (Tups.of s1)) z (List.mem_filter.mp hz).1
  have fewf : (ss.filter t).length ≤ 14 := Nat.le_trans (List.length_filter_le ..) W.few
  refine ⟨_, rfl, _, rfl, .inl ⟨pa, p.1, p.2, rfl, hpa.same (K := K) s1, by omega, by omega, fun c H2 s2 ec => ?_⟩⟩
  have s12 := s1.trans s2
  refine ⟨_, rfl, ra, r.1, r.2, rfl, .inr (s12 _ _ hra), by omega, by omega, fun c2 H3 s3 ec2 => ?_⟩
  have s13 := s12.trans s3
  rw [hlow] at ec2
  refine ⟨l, c, c2, ss.filter t, p, r, rfl, s3 _ _ (s2 _ _ el), okf.up (Tups.of (s2.trans s3)), by omega, s3 _ _ ec, ec2, ⟨by omega, by omega⟩, ⟨by omega, by omega⟩, ⟨by omega, by omega⟩, ⟨by omega, by omega⟩, fun l' ps H4 s4 el' po he => ?_⟩
  have s14 := s13.trans s4
  have cov : AM.Covers (stps ss) place (els ps) estp := covers_of he ht
  have hin : ∀ z ∈ ps, z.2.1 ∈ ss ∧ z.2.2 = AM.wt p r z.2.1.2 := fun z hz => in_of he z.2 (List.mem_map.mpr ⟨z, hz, rfl⟩)
  have lps : ps.length ≤ 14 := by
    have := congrArg List.length he
    simp [els] at this
    have := fewf
    omega
  obtain ⟨dx, fs, lw, h1, h2, h3, h4⟩ := W.ins
  refine ⟨_, rfl, _, rfl, wb, _, dx, fs, _, rfl, s14 _ _ h1, T.webC, T.webP, h2, _, rfl, l', ps, N, place, rfl, el', po, fun z hz => W.ok.up (Tups.of s14) _ (hin z hz).1, by omega, by have := W.n6; omega, fun a S L H5 s5 ea eS eL => ?_⟩
  have s15 := s14.trans s5
  have hc := no_ch he ht W.bd hb nn
  have R := rest_all he hc
  have few := (bfs_all ps N place).few
  have nd := (bfs_all ps N place).sn
  refine ⟨_, _, rfl, SqT.of ea, rfl, _, _, rfl, _, _, rfl, _, _, rfl, rfl, ?_⟩
  rw [hc]
  generalize (bfAll ps N place).S = S0 at eS R few nd
  refine ⟨_, rfl, rfl, _, rfl, iteT ?_⟩
  refine ⟨_, rfl, S, _, AM.dkeys S0, rfl, .inl eS, ?_, ?_, fun ys b perm _ nb => ?_⟩
  · simp [kd, sd, AM.dkeys]
  · simp [AM.dkeys]
    omega
  have sb := same_new nb (.lst (ys.map V.int))
  have hyn : ys.Nodup := perm.nodup_iff.mpr nd
  refine ⟨b, rfl, ⟨_, SqL.of upd_same⟩, fun D nD => ?_⟩
  have eb : (upd H5 b (.lst (ys.map V.int))) b = some (.lst (ys.map V.int)) := upd_same
  generalize upd H5 b (.lst (ys.map V.int)) = H6 at sb eb nD ⊢
  have sD := same_new nD (.dK [])
  refine dc_list (xs := ys.map V.int) (fun i H' => Same H6 H' ∧ ∃ S', H' D = some (.dK (kd (sd S'))) ∧ S'.length ≤ i ∧ ∀ v, AM.dget S' v = if v ∈ ys.take i then AM.dget S0 v else none) ⟨sD, [], upd_same, Nat.le_refl _, fun v => by simp [AM.dget_nil]⟩ (fun i H' _ h => SqL.of (h.1 _ _ eb)) ?_ ?_
  · rintro i x H' hx ⟨s6, S', eD, len, hS'⟩
    rw [List.getElem?_map] at hx
    cases hk : ys[i]? with
    | none => rw [hk] at hx; cases hx
    | some k =>
    rw [hk] at hx
    cases hx
    have hlt : i < ys.length := (List.getElem?_eq_some_iff.mp hk).1
    have hyl : ys.length = S0.length := by rw [perm.length_eq]; simp [AM.dkeys]
    have et : ys.take (i + 1) = ys.take i ++ [k] := by
      rw [List.take_add_one, hk]
      rfl
    have hkm : AM.dget S0 k ≠ none := AM.mem_dkeys.mp (perm.mem_iff.mp (List.mem_of_getElem? hk))
    cases hd : AM.dget S0 k with
    | none => exact absurd hd hkm
    | some d =>
    have hg : DGet H' S (.int k) (some (.int d)) := by
      have := dg (s6 _ _ (sb _ _ eS)) k
      rw [sd_get, hd] at this
      exact this
    refine ⟨rfl, _, rfl, _, rfl, _, rfl, S, _, rfl, hg, _, .inl k, rfl, eD, small_lt (by rw [kd_len, sd, List.length_map]; omega), ?_⟩
    refine ⟨Same.mut s6 nD, AM.dput S' k d, ?_, ?_, fun v => ?_⟩
    · rw [upd_same, kd_put, sd_put]
    · have := AM.dput_length_le S' k d
      omega
    · rw [AM.dget_dput, et, hS']
      by_cases hv : v = k
      · subst hv
        rw [if_pos rfl, if_pos (by simp), hd]
      · rw [if_neg hv]
        simp [hv]
  · rintro H' ⟨s6, S', eD, len, hS'⟩
    refine q D H' S' (els ps) S0 (s15.trans (sb.trans s6)) eD (fun v => ?_) R cov
    rw [hS', List.length_map, List.take_length]
    by_cases hv : v ∈ ys
    · rw [if_pos hv]
    · rw [if_neg hv]
      cases e : AM.dget S0 v with
      | none => rfl
      | some d => exact absurd (perm.mem_iff.mpr (AM.mem_dkeys.mpr (by rw [e]; simp))) hv
theorem sc_credit : FnScope ["web", "place", "prices", "known", "rate", "sums"] ["web", "place", "prices"] (defScope st_credit) := ⟨rfl, rfl, rfl, by decide +kernel, rfl, by decide +kernel, by decide +kernel⟩
theorem ok_credit (T : Txt K mg) : FnK P w K mg base (CXw P w) 6 "credit" ["web", "place", "prices"] (spCredit K) := by
  refine T.credit.ok sc_credit (fun vs H Q E h => ?_) (fun cdv A outer s H vs Q E hr h => ?_)
  · obtain ⟨wb, u, v, N, ss, rfl, _⟩ := h
    rfl
  obtain ⟨wb, u, v, N, ss, rfl, W, h⟩ := h
  refine ⟨_, (pss_cons (ps_expr (pe_f T.check_place (ok_check_place T) hr (passes_call (takes_of rfl rfl rfl rfl) (fun _ _ _ _ h => h)) (pa_cons (pv 0) (pa_cons (pv 1) pa_nil))))
    (pss_cons (ps_set (i := 3) sc_credit.nd rfl (Or.inl rfl) (pe_f T.checked_prices (ok_checked_prices T) hr (passes_call (takes_of rfl rfl rfl rfl) (fun _ _ _ _ h => h)) (pa_cons (pv 2) pa_nil)))
    (pss_cons (ps_set (i := 4) sc_credit.nd rfl (Or.inl rfl) (pe_f T.least_rate (ok_least_rate T) hr pass0 (pa_cons (pv 0) (pa_cons (pv 1) (pa_cons (pv 3) pa_nil)))))
    (pss_cons (ps_if (pt_cmpR op_isN (pv 4) pe_non (nomark _)) (pss_one (ps_ret pe_non)) pss_nil)
    (pss_cons (ps_set (i := 5) sc_credit.nd rfl (Or.inl rfl) (pe_ix ix_tup (pe_f T.lowered (ok_lowered T) hr pass0 (pa_cons (pe_f T.weighed (ok_weighed T) hr pass0 (pa_cons (pe_f T.steps_from (ok_steps_from T) hr pass0 (pa_cons (pv 0) (pa_cons (pv 1) pa_nil))) (pa_cons (pv 3) (pa_cons (pv 4) pa_nil)))) (pa_cons (pe_fld (pv 0) rfl) (pa_cons (pv 1) pa_nil)))) pe_int (fun _ _ => rfl)))
    (pss_one (ps_ret (pe_f T.lowest (ok_lowest T) hr pass0 (pa_cons (pe_op op_sub pe_int (pe_callB (cr_min rfl) rfl T.n_min (by decide +kernel) (pa_cons (pe_lstVals rfl (pv 5) rfl T.n_list) pa_nil))) (pa_cons (pe_ix ix_tup (pv 4) pe_int (fun _ _ => rfl)) pa_nil)))))))))), ?_⟩
  rcases h with ⟨bad, R⟩ | ⟨place, rfl, hb, h⟩
  · exact ⟨_, rfl, _, rfl, wb, _, N, ss, rfl, W, .inr ⟨bad, R⟩⟩
  refine ⟨_, rfl, _, rfl, wb, _, N, ss, rfl, W, .inl ⟨place, rfl, hb.1, hb.2, ?_⟩⟩
  rcases h with ⟨bad, R⟩ | ⟨pa, p, rfl, hpa, hp, q1, q2⟩
  · exact ⟨_, rfl, _, rfl, .inr ⟨bad, R⟩⟩
  have pa1 := hp.a
  have pb1 := hp.b
  refine ⟨_, rfl, _, rfl, .inl ⟨pa, p.1, p.2, rfl, hpa, by omega, by omega, fun c H1 s1 ec => ?_⟩⟩
  refine ⟨_, rfl, _, rfl, _, rfl, wb, c, place, N, ss, p, rfl, W.up s1, hb, ec, hp, fun H2 s2 no => ?_, fun c2 H2 rs s2 ec2 hin len best => ?_⟩
  · exact ⟨_, rfl, rfl, _, rfl, iteT (q1 H2 (s1.trans s2) no)⟩
  have s12 := s1.trans s2
  have bdr : BdS N rs := fun z hz => W.bd z (hin z hz)
  have hne : rs ≠ [] := fun z => best.ring.ne (by rw [z]; rfl)
  obtain ⟨r1, r2, r3⟩ := rate_small hp bdr hne len
  refine ⟨_, rfl, rfl, _, rfl, iteF ?_⟩
  refine ⟨_, rfl, _, rfl, wb, place, N, ss, rfl, W.up s12, fun l t H3 s3 ht el => ?_⟩
  have s13 := s12.trans s3
  have okf : StepsOk H3 (ss.filter t) := fun z hz => (W.ok.up (Tups.of s13)) z (List.mem_filter.mp hz).1
  have fewf : (ss.filter t).length ≤ 14 := Nat.le_trans (List.length_filter_le ..) W.few
  refine ⟨_, rfl, _, rfl, l, c, c2, ss.filter t, p, AM.rate p (stps rs), rfl, el, okf, by omega, s3 _ _ (s2 _ _ ec), s3 _ _ ec2, ⟨by omega, by omega⟩, ⟨by omega, by omega⟩, ⟨by omega, by omega⟩, ⟨by omega, by omega⟩, fun l' ps H4 s4 el' po he => ?_⟩
  have s14 := s13.trans s4
  have cov : AM.Covers (stps ss) place (els ps) estp := covers_of he ht
  have hin2 : ∀ z ∈ ps, z.2.1 ∈ ss ∧ z.2.2 = AM.wt p (AM.rate p (stps rs)) z.2.1.2 := fun z hz => in_of he z.2 (List.mem_map.mpr ⟨z, hz, rfl⟩)
  have lps : ps.length ≤ 14 := by
    have := congrArg List.length he
    simp [els] at this
    have := fewf
    omega
  obtain ⟨dx, fs, lw, h1, h2, h3, h4⟩ := W.ins
  refine ⟨_, rfl, wb, _, dx, fs, _, rfl, s14 _ _ h1, T.webC, T.webP, h2, _, rfl, l', ps, N, place, rfl, el', po, fun z hz => W.ok.up (Tups.of s14) _ (hin2 z hz).1, by omega, by have := W.n6; omega, fun a S L H5 s5 ea eS eL => ?_⟩
  have s15 := s14.trans s5
  have hc := no_ch he ht W.bd hb best.least
  have R := rest_all he hc
  have nd := (bfs_all ps N place).sn
  refine ⟨_, _, _, _, rfl, rfl, SqT.of ea, rfl, ?_⟩
  generalize (bfAll ps N place).S = S0 at eS R nd
  have sn0 : (kd (sd S0)).map (·.2) = (S0.map (·.2)).map V.int := by simp [kd, sd]
  refine ⟨_, rfl, S, _, rfl, eS, fun b nb => ?_⟩
  rw [sn0]
  have sb := same_new nb (.lst ((S0.map (·.2)).map V.int))
  have r0 := R.root
  refine ⟨b, S0.map (·.2), rfl, SqL.of upd_same, ?_, fun m hm hle => ?_⟩
  · rw [List.length_map]
    exact List.length_pos_of_mem (AM.dget_mem r0)
  · refine ⟨_, _, rfl, rfl, _, rfl, _, _, _, _, rfl, rfl, SqT.of (sb _ _ (s5 _ _ (s4 _ _ (s3 _ _ ec2)))), rfl, _, _, rfl, r2, by omega, fun c3 H6 s6 _ ec3 => ?_⟩
    refine q2 c3 H6 rs m (els ps) S0 (s15.trans (sb.trans s6)) ec3 hin len best R cov ?_ fun v d hd => hle d (List.mem_map.mpr ⟨_, AM.dget_mem hd, rfl⟩)
    obtain ⟨⟨v, d⟩, hvd, e⟩ := List.mem_map.mp hm
    exact ⟨v, by rw [← e]; exact AM.dget_of_mem nd hvd⟩
end
end Any
end
section
set_option Elab.async false
set_option linter.all false
set_option maxRecDepth 100000
set_option maxHeartbeats 4000000
namespace Any
open PySem PySem.Spec PyProof.Rows L2
/-! ### over a tuple; over enumerate -/
theorem lc_relT {K : PySem.W.Frag} {a : Addr} {xs : List V} {te : TE} {vs : List Nat} {σ : L2.St} {H : Hp} {D : Addr} {Qd : Hp → Prop} {i : Nat} (R : Nat → V → Hp → Prop) (hR : ∀ n y H H', Tups H H' → R n y H → R n y H') (hD : H D = none) (ha : H a = some (.tup xs))
    (hw : ∀ x, wipe ((wipe σ vs).set i (some x)) vs = wipe σ vs) (hz : xs.length ≤ sizeLine)
    (he : ∀ (n : Nat) x H', xs[n]? = some x → Same H H' → ∀ Q : VK, (∀ y H2, Same H' H2 → R n y H2 → Q y H2) → te ((wipe σ vs).set i (some x)) H' Q)
    (hd : ∀ (ys : List V) H', Same H H' → H' D = some (.lst ys) → ys.length = xs.length → (∀ (n : Nat) y, ys[n]? = some y → R n y H') → Qd H') :
    ∃ W : Nat → Nat → Hp → Prop, (∃ m, W 0 m (upd H D (.lst []))) ∧ ∀ i_1 m H_1, W i_1 m H_1 →
      ((Itt K a).stop i_1 H_1 ∧ Qd H_1) ∨ ((Itt K a).go i_1 H_1 ∧ ∃ Nx : Hp → Prop, (∀ H', Nx H' → ∃ m', m' < m ∧ W (i_1 + 1) m' H') ∧ ∀ x H', (Itt K a).yld i_1 H_1 x H' → gName i x (wipe σ vs) H' fun σ2 H2 => wipe σ2 vs = wipe σ vs ∧ tYes σ2 H2 fun b H3 =>
        if b = true then te σ2 H3 fun y H4 => ∃ acc, H4 D = some (.lst acc) ∧ acc.length < sizeLine ∧ Nx (upd H4 D (.lst (acc ++ [y]))) else Nx H3) := by
  refine lc_tup (K := K) (a := a) (xs := xs) (fun n H' => Same H H' ∧ ∃ ys : List V, H' D = some (.lst ys) ∧ ys.length = n ∧ n ≤ xs.length ∧ ∀ (m : Nat) y, ys[m]? = some y → R m y H')
    ⟨same_new hD _, [], upd_same, rfl, Nat.zero_le _, fun m y h => by simp at h⟩ (fun n H' _ p => SqT.of (p.1 _ _ ha)) ?_ ?_
  · rintro n x H' hx ⟨s1, ys, h1, h2, h3, h4⟩
    refine ⟨hw x, ?_⟩
    refine he n x H' hx s1 _ fun y H2 s2 hy => ?_
    have hlt : n < xs.length := (List.getElem?_eq_some_iff.mp hx).1
    have tu : Tups H2 (upd H2 D (.lst (ys ++ [y]))) := .updL (s2 _ _ h1)
    refine ⟨ys, s2 _ _ h1, by omega, Same.mut (Same.trans s1 s2) hD, ys ++ [y], upd_same, by simp [h2], hlt, fun m y' e2 => ?_⟩
    by_cases hm : m < ys.length
    · rw [List.getElem?_append_left hm] at e2
      exact hR _ _ _ _ ((Tups.of s2).trans tu) (h4 m y' e2)
    · have hm2 : m = ys.length := by
        have := (List.getElem?_eq_some_iff.mp e2).1
        simp at this
        omega
      subst hm2
      rw [List.getElem?_append_right (Nat.le_refl _)] at e2
      simp at e2
      subst e2
      rw [h2]
      exact hR _ _ _ _ tu hy
  · rintro H' ⟨s1, ys, h1, h2, h3, h4⟩
    exact hd ys H' s1 h1 h2 h4
theorem for_enum {K : PySem.W.Frag} {a : Addr} {xs : List V} {g : TG} {tb : TS} {D : Ends} {σ : L2.St} {H : Hp} (J : Nat → L2.St → Hp → Prop) (j0 : J 0 σ H) (jl : ∀ n σ H, n ≤ xs.length → J n σ H → SqL K H a xs)
    (js : ∀ (n : Nat) x σ H T, xs[n]? = some x → J n σ H → H T = none → g (.ref T) σ (upd H T (.tup [.int (n : Nat), x])) fun σ2 H2 => tb { D with nx := J (n + 1), ct := J (n + 1), bk := D.nx } σ2 H2) (je : ∀ σ H, J xs.length σ H → D.nx σ H) :
    ∃ W : Nat → Nat → L2.St → Hp → Prop, (∃ m, W 0 m σ H) ∧ ∀ n m σ H, W n m σ H →
      ((Ite K a).stop n H ∧ D.nx σ H) ∨ ((Ite K a).go n H ∧ ∃ N : L2.St → Hp → Prop, (∀ σ' H', N σ' H' → ∃ m', m' < m ∧ W (n + 1) m' σ' H') ∧ ∀ x H', (Ite K a).yld n H x H' → g x σ H' fun σ2 H2 => tb { D with nx := N, ct := N, bk := D.nx } σ2 H2) := by
  refine ⟨fun n m σ H => (m = xs.length - n ∧ n ≤ xs.length) ∧ J n σ H, ⟨_, ⟨rfl, Nat.zero_le _⟩, j0⟩, ?_⟩
  rintro n m σ H ⟨⟨rfl, hn⟩, j⟩
  have sq := jl n σ H hn j
  rcases Nat.lt_or_ge n xs.length with lt | ge
  · refine .inr ⟨⟨xs, xs[n], sq, List.getElem?_eq_getElem lt⟩, J (n + 1), fun σ' H' j' => ⟨_, Nat.sub_lt_sub_left lt (Nat.lt_succ_self n), ⟨rfl, lt⟩, j'⟩, fun x H' y => ?_⟩
    obtain ⟨t, z, rfl, nt, rfl, hz⟩ := y
    exact js n z σ H t (hz xs sq) j nt
  · have en : n = xs.length := Nat.le_antisymm hn ge
    exact .inl ⟨⟨xs, sq, ge⟩, je σ H (en ▸ j)⟩
/-! ### as_tuples -/
def spAt0 : Sp := fun vs H Q _ => ∃ n : Int, vs = [.int n] ∧ ∀ H', Same H H' → Q (.int n) H'
def spAt1 : Sp := fun vs H Q _ => (∃ n : Int, vs = [.int n] ∧ ∀ H', Same H H' → Q (.int n) H') ∨ ∃ (b : Addr) (x y : Int), vs = [.ref b] ∧ H b = some (.tup [.int x, .int y]) ∧ ∀ b' H', Same H H' → H' b' = some (.tup [.int x, .int y]) → Q (.ref b') H'
def spAt2 : Sp := fun vs H Q _ => ∃ (a : Addr) (e : AM.Stp), vs = [.ref a] ∧ StpAt H a e ∧ ∀ a' H', Same H H' → StpAt H' a' e → Q (.ref a') H'
section
variable {P : Program} {w : World} {K : PySem.W.Frag} {mg : Str → Option Value} {base : Heap}
theorem ok_never {CX : CXT} {k : Nat} {f : Addr} {fd : FuncData} {ps : List Str} : FnOk P w K mg base CX k f fd ps (fun _ _ _ _ => False) := ⟨fun _ _ _ _ h => h.elim, fun _ _ _ _ _ _ _ _ _ _ _ _ _ h => h.elim⟩
theorem sc_as_tuples : FnScope ["thing", "part"] ["thing"] (defScope st_as_tuples) := ⟨rfl, rfl, rfl, by decide +kernel, rfl, by decide +kernel, by decide +kernel⟩
theorem ok_at0 (T : Txt K mg) : FnK P w K mg base CX0 2 "as_tuples" ["thing"] spAt0 := by
  refine T.as_tuples.ok sc_as_tuples (fun vs H Q E h => ?_) (fun cdv A outer s H vs Q E hr h => ?_)
  · obtain ⟨n, rfl, _⟩ := h
    rfl
  obtain ⟨n, rfl, q⟩ := h
  refine ⟨_, (pss_one (ps_ret (pe_ifExp (pt_val (pe_f T.is_list (ok_is_list T) hr pass0 (pa_cons (pv 0) pa_nil))) (pe_callTy call_tuple_of rfl T.n_tuple (by decide +kernel) (pa_cons (pe_lc (own := [("part", 1)]) (g := gName 1) rfl sc_as_tuples.nd (pi_tup (pv 0)) (blkOk_by (own := [("part", 1)]) (N := ["thing", "part"]) (sc := defScope st_as_tuples) (by decide +kernel)) (fun _ _ _ _ _ => (pg_name (i := 1) sc_as_tuples.nd rfl (Or.inl rfl))) (fun _ _ _ _ _ => pts_nil) (fun _ _ _ _ _ => (pe_f T.as_tuples (ok_never (CX := CX0) (k := 0)) hr pass0 (pa_cons (pv 1) pa_nil)))) pa_nil)) (pv 0)))), ?_⟩
  exact ⟨_, rfl, _, _, _, rfl, .base (.int n), tlt_int, fun H1 s1 => ⟨false, rfl, iteF ⟨_, rfl, q H1 s1⟩⟩⟩
theorem ok_at1 (T : Txt K mg) : FnK P w K mg base CX0 3 "as_tuples" ["thing"] spAt1 := by
  refine T.as_tuples.ok sc_as_tuples (fun vs H Q E h => ?_) (fun cdv A outer s H vs Q E hr h => ?_)
  · rcases h with ⟨n, rfl, _⟩ | ⟨b, x, y, rfl, _⟩ <;> rfl
  refine ⟨_, (pss_one (ps_ret (pe_ifExp (pt_val (pe_f T.is_list (ok_is_list T) hr pass0 (pa_cons (pv 0) pa_nil))) (pe_callTy call_tuple_of rfl T.n_tuple (by decide +kernel) (pa_cons (pe_lc (own := [("part", 1)]) (g := gName 1) rfl sc_as_tuples.nd (pi_tup (pv 0)) (blkOk_by (own := [("part", 1)]) (N := ["thing", "part"]) (sc := defScope st_as_tuples) (by decide +kernel)) (fun _ _ _ _ _ => (pg_name (i := 1) sc_as_tuples.nd rfl (Or.inl rfl))) (fun _ _ _ _ _ => pts_nil) (fun _ _ _ _ _ => (pe_f T.as_tuples (ok_at0 T) hr pass0 (pa_cons (pv 1) pa_nil)))) pa_nil)) (pv 0)))), ?_⟩
  rcases h with ⟨n, rfl, q⟩ | ⟨b, x, y, rfl, hb, q⟩
  · exact ⟨_, rfl, _, _, _, rfl, .base (.int n), tlt_int, fun H1 s1 => ⟨false, rfl, iteF ⟨_, rfl, q H1 s1⟩⟩⟩
  refine ⟨_, rfl, _, _, _, rfl, .base (.tup hb), tlt_tup, fun H1 s1 => ⟨true, rfl, iteT ?_⟩⟩
  refine ⟨_, rfl, _, rfl, ⟨_, SqT.of (s1 _ _ hb)⟩, fun D nD => ?_⟩
  refine lc_relT (xs := [.int x, .int y]) (fun n v _ => ([V.int x, V.int y])[n]? = some v) (fun _ _ _ _ _ h => h) nD (s1 _ _ hb) (fun _ => rfl) (by show 2 ≤ sizeLine; decide) (fun n v H2 hx s2 Q' q' => ?_) fun ys H2 s2 e2 len hy => ?_
  · have : ∃ m : Int, v = .int m := by
      match n, hx with
      | 0, hx => exact ⟨x, by simpa using hx.symm⟩
      | 1, hx => exact ⟨y, by simpa using hx.symm⟩
      | n + 2, hx => simp at hx
    obtain ⟨m, rfl⟩ := this
    exact ⟨_, rfl, m, rfl, fun H3 s3 => q' _ H3 s3 hx⟩
  · have : ys = [.int x, .int y] := by
      match ys, len with
      | [a, b], _ =>
        have h0 := hy 0 a rfl
        have h1 := hy 1 b rfl
        simp at h0 h1
        rw [h0, h1]
    subst this
    exact ⟨_, _, rfl, .inl ⟨SqL.of e2, fun c nc => q c _ (s1.trans (s2.trans (same_new nc _))) upd_same⟩⟩
theorem ok_at2 (T : Txt K mg) : FnK P w K mg base CX0 4 "as_tuples" ["thing"] spAt2 := by
  refine T.as_tuples.ok sc_as_tuples (fun vs H Q E h => ?_) (fun cdv A outer s H vs Q E hr h => ?_)
  · obtain ⟨a, e, rfl, _⟩ := h
    rfl
  obtain ⟨a, e, rfl, ⟨b, ha, hb⟩, q⟩ := h
  refine ⟨_, (pss_one (ps_ret (pe_ifExp (pt_val (pe_f T.is_list (ok_is_list T) hr pass0 (pa_cons (pv 0) pa_nil))) (pe_callTy call_tuple_of rfl T.n_tuple (by decide +kernel) (pa_cons (pe_lc (own := [("part", 1)]) (g := gName 1) rfl sc_as_tuples.nd (pi_tup (pv 0)) (blkOk_by (own := [("part", 1)]) (N := ["thing", "part"]) (sc := defScope st_as_tuples) (by decide +kernel)) (fun _ _ _ _ _ => (pg_name (i := 1) sc_as_tuples.nd rfl (Or.inl rfl))) (fun _ _ _ _ _ => pts_nil) (fun _ _ _ _ _ => (pe_f T.as_tuples (ok_at1 T) hr pass0 (pa_cons (pv 1) pa_nil)))) pa_nil)) (pv 0)))), ?_⟩
  refine ⟨_, rfl, _, _, _, rfl, .base (.tup ha), tlt_tup, fun H1 s1 => ⟨true, rfl, iteT ?_⟩⟩
  refine ⟨_, rfl, _, rfl, ⟨_, SqT.of (s1 _ _ ha)⟩, fun D nD => ?_⟩
  refine lc_relT (xs := [.int e.s, .int e.t, .ref b, .int e.k, .int e.c]) (fun n v H' => if n = 2 then ∃ b', v = .ref b' ∧ H' b' = some (.tup [.int e.x, .int e.y]) else ([V.int e.s, V.int e.t, V.ref b, V.int e.k, V.int e.c])[n]? = some v)
    (fun n v H2 H3 t h => ?_) nD (s1 _ _ ha) (fun _ => rfl) (by show 5 ≤ sizeLine; decide) (fun n v H2 hx s2 Q' q' => ?_) fun ys H2 s2 e2 len hy => ?_
  · split at h
    · rename_i h2
      rw [if_pos h2]
      obtain ⟨b', h3, h4⟩ := h
      exact ⟨b', h3, t _ _ h4⟩
    · rename_i h2
      rw [if_neg h2]
      exact h
  · by_cases h2 : n = 2
    · subst h2
      have : v = .ref b := by simpa using hx.symm
      subst this
      refine ⟨_, rfl, .inr ⟨b, _, _, rfl, s2 _ _ (s1 _ _ hb), fun b' H3 s3 h3 => q' _ H3 s3 ?_⟩⟩
      rw [if_pos rfl]
      exact ⟨b', rfl, h3⟩
    · have : ∃ m : Int, v = .int m := by
        match n, hx, h2 with
        | 0, hx, _ => exact ⟨e.s, by simpa using hx.symm⟩
        | 1, hx, _ => exact ⟨e.t, by simpa using hx.symm⟩
        | 2, _, h2 => exact absurd rfl h2
        | 3, hx, _ => exact ⟨e.k, by simpa using hx.symm⟩
        | 4, hx, _ => exact ⟨e.c, by simpa using hx.symm⟩
        | n + 5, hx, _ => simp at hx
      obtain ⟨m, rfl⟩ := this
      refine ⟨_, rfl, .inl ⟨m, rfl, fun H3 s3 => q' _ H3 s3 ?_⟩⟩
      rw [if_neg h2]
      exact hx
  · have : ∃ b', ys = [.int e.s, .int e.t, .ref b', .int e.k, .int e.c] ∧ H2 b' = some (.tup [.int e.x, .int e.y]) := by
      match ys, len with
      | [a0, a1, a2, a3, a4], _ =>
        have h0 := hy 0 a0 rfl
        have h1 := hy 1 a1 rfl
        have h2 := hy 2 a2 rfl
        have h3 := hy 3 a3 rfl
        have h4 := hy 4 a4 rfl
        rw [if_neg (by decide)] at h0 h1 h3 h4
        rw [if_pos rfl] at h2
        obtain ⟨b', h2, h5⟩ := h2
        simp at h0 h1 h3 h4
        exact ⟨b', by rw [h0, h1, h2, h3, h4], h5⟩
    obtain ⟨b', rfl, hb'⟩ := this
    refine ⟨_, _, rfl, .inl ⟨SqL.of e2, fun c nc => ?_⟩⟩
    exact q c _ (s1.trans (s2.trans (same_new nc _))) ⟨b', upd_same, same_new nc _ _ _ hb'⟩
end
end Any
end
section
set_option Elab.async false
set_option linter.all false
set_option maxRecDepth 100000
set_option maxHeartbeats 4000000
namespace Any
open PySem PySem.Spec PyProof.Rows L2
def ttFb : (V → Hp → VK → Prop) → V → Hp → VK → Prop := fun tl v0 H Q => ∃ (l : Addr) (ss : SL), v0 = .ref l ∧ H l = some (.lst (refs ss)) ∧ StepsOk H ss ∧ (stps ss).Nodup ∧ ss.length ≤ 14 ∧
  (∀ z ∈ ss, ∀ H' Q', Same H H' → (∀ H'', Same H' H'' → Q' (.bl true) H'') → tl (.ref z.1) H' Q') ∧ ∀ H', Same H H' → Q .non H'
theorem sc_first_bad : FnScope ["things", "is_right", "known", "index", "thing"] ["things", "is_right"] (defScope st_first_bad) := ⟨rfl, rfl, rfl, by decide +kernel, rfl, by decide +kernel, by decide +kernel⟩
theorem fb_gives {X : Cx} (T : Txt X.K X.mg) {q : Str} {cdv : Value} : Gives1 X ["things", "is_right", "known", "index", "thing"] "first_bad" (defScope st_first_bad) (He.ga X.K "first_bad") cdv (defBody st_first_bad) "is_right" q 5 ttFb := by
  intro f c' s H Q v0 tl act hr hc h
  obtain ⟨l, ss, rfl, hl, ok, nd, few, hright, hleft⟩ := h
  have hu := hu_of hr
  have hu1 := (hr.in1).units
  refine ⟨_, (pss_cons (ps_if (pt_not (pt_val (pe_f T.is_list (ok_is_list T) hr pass0 (pa_cons (pv 0) pa_nil)))) (pss_one (ps_ret pe_int)) pss_nil)
    (pss_cons (ps_set (i := 2) sc_first_bad.nd rfl (Or.inl rfl) pe_nnew)
    (pss_cons (ps_for (passes_of rfl) rfl (pi_enum (by rfl) T.n_enumerate (pa_cons (pv 0) pa_nil)) (pg_tup rfl (pgs_cons (pg_name (i := 3) sc_first_bad.nd rfl (Or.inl rfl)) (pgs_cons (pg_name (i := 4) sc_first_bad.nd rfl (Or.inl rfl)) pgs_nil))) (pss_cons (ps_if (PW.pt (pw_or (pt_not (pt_val (act _ _ _ _ _ (pv 4)))) (pw_or1 (pt_cmp (pc_nin hu1 (pe_f T.as_tuples (ok_at2 T) hr pass0 (pa_cons (pv 4) pa_nil)) (pv 2)))))) (pss_one (ps_ret (pv 3))) pss_nil)
    (pss_one (ps_nput hu1 (pv 2) (pe_f T.as_tuples (ok_at2 T) hr pass0 (pa_cons (pv 4) pa_nil)) pe_bl rfl))))
    (pss_one (ps_ret pe_non))))), ?_⟩
  refine ⟨_, rfl, _, _, _, rfl, .base (.lst hl), tlt_list, fun H1 s1 => ⟨_, rfl, iteF ?_⟩⟩
  refine fun D nD => ?_
  have sD : Same H (upd H1 D (NDic X.prog X.w D [])) := s1.trans (same_new nD _)
  have nD0 : H D = none := not_none_same s1 nD
  refine ⟨_, rfl, l, _, rfl, SqL.of (sD _ _ hl), ?_⟩
  refine for_enum (xs := refs ss) (fun n σ H2 => Same H H2 ∧ (∃ ks : SL, stps ks = (stps ss).take n ∧ StepsOk H2 ks ∧ H2 D = some (NDic X.prog X.w D ks)) ∧ ∃ x3 x4, σ = [some (.ref l), some (.ref f), some (.ref D), x3, x4])
    ⟨sD, ⟨[], by simp [stps], fun z hz => (by cases hz), upd_same⟩, none, none, rfl⟩ (fun n σ H2 _ p => SqL.of (p.1 _ _ hl)) ?_ ?_
  · rintro n x σ H2 t hx ⟨s2, ⟨ks, hks, okk, eD⟩, x3, x4, rfl⟩ nt
    rw [refs, List.getElem?_map] at hx
    cases hb : ss[n]? with
    | none => rw [hb] at hx; cases hx
    | some z =>
    rw [hb] at hx
    cases hx
    have hz := List.mem_of_getElem? hb
    have hlt : n < ss.length := (List.getElem?_eq_some_iff.mp hb).1
    have et : (stps ss).take (n + 1) = (stps ss).take n ++ [z.2] := by
      rw [List.take_add_one, stps, List.getElem?_map, hb]
      rfl
    have st := same_new nt (.tup [.int (n : Nat), .ref z.1])
    have s3 := s2.trans st
    have eD3 := st _ _ eD
    have okk3 := okk.up (Tups.of st)
    refine ⟨_, _, rfl, SqT.of upd_same, rfl, _, _, rfl, _, _, rfl, rfl, ?_⟩
    generalize upd H2 t (.tup [.int (n : Nat), .ref z.1]) = H3 at s3 eD3 okk3 ⊢
    have nin : z.2 ∉ stps ks := by
      have h2 : ((stps ss).take (n + 1)).Nodup := nd.sublist (List.take_sublist _ _)
      rw [et, ← hks] at h2
      exact fun hm => (List.nodup_append.mp h2).2.2 _ hm _ (by simp) rfl
    have ndk : (stps ks).Nodup := by
      rw [hks]
      exact nd.sublist (List.take_sublist _ _)
    have lk : ks.length ≤ 14 := by
      have := congrArg List.length hks
      rw [List.length_take] at this
      simp [stps] at this
      omega
    refine ⟨rfl, _, rfl, s3 _ _ hc, hright z hz H3 _ s3 fun H4 s4 => ⟨_, rfl, iteF ?_⟩⟩
    have s14 := s3.trans s4
    refine ⟨_, rfl, z.1, z.2, rfl, (ok z hz).up (Tups.of s14), fun a5 H5 s5 h5 => ⟨_, rfl, a5, D, z.2, ks, rfl, rfl, s5 _ _ (s4 _ _ eD3), h5, (okk3.up (Tups.of s4)).up (Tups.of s5), ndk, _, rfl, ?_⟩⟩
    rw [decide_eq_false nin]
    have s15 := s14.trans s5
    refine iteF ⟨_, rfl, _, rfl, z.1, z.2, rfl, (ok z hz).up (Tups.of s15), fun a6 H6 s6 h6 => ⟨a6, D, z.2, ks, rfl, rfl, rfl, s6 _ _ (s5 _ _ (s4 _ _ eD3)), h6, ((okk3.up (Tups.of s4)).up (Tups.of s5)).up (Tups.of s6), ndk, nin, by omega, ?_⟩⟩
    have eD6 := s6 _ _ (s5 _ _ (s4 _ _ eD3))
    have tu : Tups H6 (upd H6 D (NDic X.prog X.w D (ks ++ [(a6, z.2)]))) := .upd fun xs q => by
      rw [eD6] at q
      cases q
    refine ⟨Same.mut (Same.trans s15 s6) nD0, ⟨ks ++ [(a6, z.2)], ?_, fun y hy => ?_, upd_same⟩, _, _, rfl⟩
    · rw [et, ← hks]
      simp [stps]
    · rcases List.mem_append.mp hy with hy | hy
      · exact (((okk3.up (Tups.of s4)).up (Tups.of s5)).up (Tups.of s6)).up tu y hy
      · simp at hy
        subst hy
        exact h6.up tu
  · rintro σ H2 ⟨s2, _, x3, x4, rfl⟩
    exact hleft H2 s2
end Any
end
section
set_option Elab.async false
set_option linter.all false
set_option maxRecDepth 100000
set_option maxHeartbeats 4000000
namespace Any
open PySem PySem.Spec PyProof.Rows L2
/-! ### the heap without the stream of draws -/
def wo (st a : Addr) (H : Hp) : Hp := fun b => if b = st ∨ b = a then none else H b
section
variable {st a b p : Addr} {H H1 H2 H' : Hp} {o : HO} {c : Int}
theorem wo_get (h1 : b ≠ st) (h2 : b ≠ a) : wo st a H b = H b := if_neg fun z => z.elim h1 h2
theorem wo_some (h : wo st a H b = some o) : b ≠ st ∧ b ≠ a ∧ H b = some o := by
  unfold wo at h
  split at h
  · cases h
  · rename_i n
    exact ⟨fun z => n (.inl z), fun z => n (.inr z), h⟩
theorem wo_st : wo st a H st = none := if_pos (.inl rfl)
theorem wo_a : wo st a H a = none := if_pos (.inr rfl)
theorem wo_none (h : H p = none) : wo st a H p = none := by
  unfold wo
  split
  · rfl
  · exact h
theorem wo_same : Same (wo st a H) H := fun b u h => (wo_some h).2.2
theorem wo_mono (s : Same H H') : Same (wo st a H) (wo st a H') := fun b u h => by
  obtain ⟨h1, h2, h3⟩ := wo_some h
  rw [wo_get h1 h2]
  exact s _ _ h3
theorem wo_upd (h1 : p ≠ st) (h2 : p ≠ a) : wo st a (upd H p o) = upd (wo st a H) p o := funext fun b => by
  by_cases e : b = p
  · subst e
    rw [upd_same, wo_get h1 h2, upd_same]
  · rw [upd_ne e]
    unfold wo
    split
    · rfl
    · rw [upd_ne e]
theorem wo_updS : wo st a (upd H st o) = wo st a H := funext fun b => by
  unfold wo
  split
  · rfl
  · rename_i n
    rw [upd_ne fun z => n (.inl z)]
theorem wo_updA : wo st a (upd H a o) = wo st a H := funext fun b => by
  unfold wo
  split
  · rfl
  · rename_i n
    rw [upd_ne fun z => n (.inr z)]
/-- what a callee that draws keeps -/
abbrev Kp (st a : Addr) (H H' : Hp) : Prop := Same (wo st a H) (wo st a H')
theorem Kp.get (k : Kp st a H H') (h : wo st a H b = some o) : H' b = some o := (wo_some (k _ _ h)).2.2
structure Strm (H : Hp) (st a : Addr) (c : Int) : Prop where
  ex : ∃ (ns : List Int) (x m : Int), H st = some (.lst [.ref a, .int x, .int c, .int m]) ∧ H a = some (.lst (ns.map V.int)) ∧ 0 ≤ x ∧ 0 ≤ m ∧ m ≤ 2147483647
  ne : st ≠ a
  c0 : 0 ≤ c
theorem Strm.up (S : Strm H st a c) (s : Same H H') : Strm H' st a c := by
  obtain ⟨⟨ns, x, m, h1, h2, h3⟩, h4, h5⟩ := S
  exact ⟨⟨ns, x, m, s _ _ h1, s _ _ h2, h3⟩, h4, h5⟩
theorem Strm.upd (S : Strm H st a c) (h1 : p ≠ st) (h2 : p ≠ a) : Strm (L2.upd H p o) st a c := by
  obtain ⟨⟨ns, x, m, h3, h4, h5⟩, h6, h7⟩ := S
  exact ⟨⟨ns, x, m, by rw [upd_ne h1.symm]; exact h3, by rw [upd_ne h2.symm]; exact h4, h5⟩, h6, h7⟩
theorem Strm.nst (S : Strm H st a c) (h : H p = none) : p ≠ st := fun z => by
  obtain ⟨⟨ns, x, m, h3, h4, h5⟩, h6, h7⟩ := S
  rw [z, h3] at h
  cases h
theorem Strm.na (S : Strm H st a c) (h : H p = none) : p ≠ a := fun z => by
  obtain ⟨⟨ns, x, m, h3, h4, h5⟩, h6, h7⟩ := S
  rw [z, h4] at h
  cases h
/-- a new object, seen without the stream -/
theorem Strm.new (S : Strm H st a c) (h : H p = none) : wo st a (L2.upd H p o) p = some o := by
  rw [wo_get (S.nst h) (S.na h)]
  exact upd_same
theorem Strm.made (S : Strm H st a c) (h : H p = none) (o : HO) : Kp st a H (L2.upd H p o) ∧ Strm (L2.upd H p o) st a c ∧ wo st a (L2.upd H p o) p = some o :=
  ⟨wo_mono (same_new h o), S.up (same_new h o), S.new h⟩
/-- a change of what the base did not know -/
theorem Kp.mut {H0 : Hp} (k : Kp st a H0 H) (h : wo st a H0 p = none) (h1 : p ≠ st) (h2 : p ≠ a) : Kp st a H0 (L2.upd H p o) := by
  show Same (wo st a H0) (wo st a (L2.upd H p o))
  rw [wo_upd h1 h2]
  exact Same.mut k h
end
/-! ### data -/
theorem dp_ints {K : PySem.W.Frag} {H : Hp} : ∀ ns : List Int, DpAll K H (ns.map V.int) (ns.map PyData.int)
  | [] => .nil
  | n :: r => .cons (.int n) (dp_ints r)
theorem lay_ints : ∀ ns : List Int, PyData.canLayAll0 (ns.map PyData.int) = true ∧ PyData.depthAll (ns.map PyData.int) ≤ 1
  | [] => by simp [PyData.canLayAll0, PyData.depthAll]
  | n :: r => by
    obtain ⟨h1, h2⟩ := lay_ints r
    simp only [List.map_cons, PyData.canLayAll0, PyData.canLay0, PyData.depthAll, PyData.depth, Bool.true_and]
    exact ⟨h1, by omega⟩
theorem shaped_list {ds : List PyData} {n : Nat} (h1 : PyData.canLayAll0 ds = true) (h2 : PyData.depthAll ds ≤ n) (hn : n ≤ 60) : SeqAt.shaped (.list ds) = true := by
  show (PyData.canLay0 (.list ds) && decide (PyData.depth (.list ds) ≤ 64)) = true
  rw [Bool.and_eq_true]
  refine ⟨by simp only [PyData.canLay0]; exact h1, decide_eq_true ?_⟩
  simp only [PyData.depth]
  omega
theorem shaped_nil : SeqAt.shaped (.list []) = true := shaped_list (n := 0) (by simp [PyData.canLayAll0]) (by simp [PyData.depthAll]) (by decide)
theorem eqv_nil (ds : List PyData) : PyData.eqv (.list ds) (.list []) = ds.isEmpty := by
  cases ds <;> simp [PyData.eqv, PyData.eqvAll]
theorem seqI {r : Int} {n : Nat} (h0 : 0 ≤ r) (h1 : r < (n : Int)) : seqIndex? r n = some r.toNat := by
  unfold seqIndex?
  simp [h0, h1, Int.not_lt.mpr h0]
/-! ### promises -/
def BIG : Int := 1099511627776
def spDraw : Sp := fun vs H Q _ => ∃ (st a : Addr) (many c : Int), vs = [.ref st, .int many] ∧ Strm H st a c ∧ c + 1 ≤ BIG ∧ 1 ≤ many ∧ many < 1073741824 ∧
  ∀ r H', 0 ≤ r → r < many → Kp st a H H' → Strm H' st a (c + 1) → Q (.int r) H'
def spPick : Sp := fun vs H Q _ => ∃ (st a l : Addr) (c : Int) (xs : List V), vs = [.ref st, .ref l] ∧ Strm H st a c ∧ c + 1 ≤ BIG ∧ wo st a H l = some (.lst xs) ∧ xs ≠ [] ∧ xs.length ≤ 1000000 ∧
  ∀ v H', v ∈ xs → Kp st a H H' → Strm H' st a (c + 1) → Q v H'
section
variable {P : Program} {w : World} {K : PySem.W.Frag} {mg : Str → Option Value} {base : Heap}
theorem sc_law_draw : FnScope ["_law_stream_here", "_law_many", "_law_cell", "_law_digit", "_law_mixed_here"] ["_law_stream_here", "_law_many"] (defScope st_law_draw) := ⟨rfl, rfl, rfl, by decide +kernel, rfl, by decide +kernel, by decide +kernel⟩
theorem ok_law_draw (T : Txt K mg) : FnK P w K mg base CX0 1 "_law_draw" ["_law_stream_here", "_law_many"] spDraw := by
  refine T.law_draw.ok sc_law_draw (fun vs H Q E h => ?_) (fun cdv A outer s H vs Q E hr h => ?_)
  · obtain ⟨st, a, many, c, rfl, _⟩ := h
    rfl
  obtain ⟨st, a, many, c, rfl, S, hc, m1, m2, q⟩ := h
  have hc : c + 1 ≤ 1099511627776 := hc
  obtain ⟨⟨ns, x, m, h1, h2, hx, hm, hm2⟩, ne, c0⟩ := S
  refine ⟨_, (pss_cons (ps_asg (pe_op op_add (pe_ix ix_list (pv 0) pe_int (fun _ _ => rfl)) pe_int) (pg_sub (pv 0) pe_int set_list))
    (pss_cons (ps_while (passes_of rfl) (PW.pt (pw_and (pt_cmpR op_eq (pe_ix ix_list (pv 0) pe_int (fun _ _ => rfl)) pe_int (nomark _)) (pw_and1 (pt_cmpR (op_neD hr.units) (pe_ix ix_list (pv 0) pe_int (fun _ _ => rfl)) (pe_lst pa_nil) (nomark _))))) (pss_cons (ps_set (i := 2) sc_law_draw.nd rfl (Or.inl rfl) (pe_callB call_abs rfl T.n_abs (by decide +kernel) (pa_cons (pe_bm PySem.F.plainAttrs_list PySem.F.slot_list_pop PySem.F.type_list_pop mt_popAt (pe_ix ix_list (pv 0) pe_int (fun _ _ => rfl)) (pa_cons pe_int pa_nil)) pa_nil)))
    (pss_cons (ps_asg (pe_op op_mod (pe_callTy call_int1 rfl T.n_int (by decide +kernel) (pa_cons (pe_op op_add (pe_op op_add (pe_op op_mul (pe_ix ix_list (pv 0) pe_int (fun _ _ => rfl)) pe_int) (pv 2)) pe_int) pa_nil)) pe_int) (pg_sub (pv 0) pe_int set_list))
    (pss_one (ps_asg (pe_ifExp (pt_cmpR op_ge (pv 2) (pe_op op_pow pe_int pe_int) (nomark _)) (pv 2) pe_int) (pg_sub (pv 0) pe_int set_list))))))
    (pss_cons (ps_if (pt_cmpR op_gt (pe_ix ix_list (pv 0) pe_int (fun _ _ => rfl)) pe_int (nomark _)) (pss_cons (ps_set (i := 3) sc_law_draw.nd rfl (Or.inl rfl) (pe_op op_mod (pe_callTy call_int1 rfl T.n_int (by decide +kernel) (pa_cons (pe_ix ix_list (pv 0) pe_int (fun _ _ => rfl)) pa_nil)) (pv 1)))
    (pss_cons (ps_asg (pe_op op_fdiv (pe_ix ix_list (pv 0) pe_int (fun _ _ => rfl)) (pv 1)) (pg_sub (pv 0) pe_int set_list))
    (pss_one (ps_ret (pv 3))))) pss_nil)
    (pss_cons (ps_set (i := 4) sc_law_draw.nd rfl (Or.inl rfl) (pe_op op_mod (pe_callTy call_int1 rfl T.n_int (by decide +kernel) (pa_cons (pe_op op_pow (pe_op op_add (pe_op op_add (pe_ix ix_list (pv 0) pe_int (fun _ _ => rfl)) (pe_op op_mul pe_int (pe_ix ix_list (pv 0) pe_int (fun _ _ => rfl)))) pe_int) pe_int) pa_nil)) pe_int))
    (pss_one (ps_ret (pe_op op_mod (pe_op op_mod (pe_callTy call_int1 rfl T.n_int (by decide +kernel) (pa_cons (pe_op op_pow (pe_op op_add (pe_op op_add (pe_op op_mul (pv 4) pe_int) (pe_op op_mul pe_int (pe_ix ix_list (pv 0) pe_int (fun _ _ => rfl)))) pe_int) pe_int) pa_nil)) pe_int) (pv 1)))))))), ?_⟩
  refine ⟨_, rfl, st, _, _, _, rfl, rfl, SqL.of h1, rfl, _, _, rfl, rfl, ?_⟩
  refine ⟨_, rfl, st, _, _, _, rfl, rfl, h1, rfl, ?_⟩
  refine ⟨fun k σ H1 => ∃ (ns : List Int) (x m : Int), ∃ x2, k = ns.length ∧ H1 st = some (.lst [.ref a, .int x, .int (c + 1), .int m]) ∧ H1 a = some (.lst (ns.map V.int)) ∧ 0 ≤ x ∧ 0 ≤ m ∧ m ≤ 2147483647 ∧ Kp st a H H1 ∧ σ = [some (.ref st), some (.int many), x2, none, none],
    ⟨_, ns, x, m, none, rfl, upd_same, by rw [upd_ne ne.symm]; exact h2, hx, hm, hm2, ?_, rfl⟩, ?_⟩
  · show Same (wo st a H) (wo st a (upd H st _))
    rw [wo_updS]
    exact Same.refl _
  rintro k σ H1 ⟨ns, x, m, x2, rfl, e1, e2, hx, hm, hm2, k1, rfl⟩
  refine ⟨_, rfl, st, _, _, _, rfl, rfl, SqL.of e1, rfl, rfl, _, rfl, ?_⟩
  by_cases x0 : x = 0
  · subst x0
    refine iteT ?_
    refine ⟨_, rfl, st, _, _, _, rfl, rfl, SqL.of e1, rfl, (by show 0 ≤ sizeLine; decide), fun p np => ?_⟩
    have s2 := same_new np (.lst [])
    have g1 := s2 _ _ e1
    have g2 := s2 _ _ e2
    have k2 := k1.trans (wo_mono (st := st) (a := a) s2)
    have gp : (upd H1 p (.lst [])) p = some (.lst []) := upd_same
    generalize upd H1 p (.lst []) = H2 at g1 g2 k2 gp ⊢
    refine ⟨_, _, .lst (SqL.of g2) (dp_ints ns), .lst (SqL.of gp) .nil, shaped_list (lay_ints ns).1 (lay_ints ns).2 (by decide), shaped_nil, _, rfl, ?_⟩
    rw [eqv_nil]
    cases ns with
    | nil =>
      refine iteF ?_
      refine ⟨_, rfl, st, _, _, _, rfl, rfl, SqL.of g1, rfl, _, _, rfl, rfl, _, rfl, ?_⟩
      refine ite2 (fun xp => ?_) (fun xp => ?_)
      · have xp := of_decide_eq_true xp
        refine ⟨_, rfl, st, _, _, _, rfl, rfl, SqL.of g1, rfl, .inl ⟨_, rfl, ?_⟩⟩
        refine ⟨_, rfl, _, _, rfl, rfl, by omega, ?_⟩
        refine ⟨_, rfl, st, _, _, _, rfl, rfl, SqL.of g1, rfl, _, rfl, _, _, rfl, rfl, ⟨by omega, by omega⟩, ?_⟩
        refine ⟨_, rfl, st, _, _, _, rfl, rfl, g1, rfl, ?_⟩
        refine ⟨_, rfl, q _ _ (Int.emod_nonneg _ (by omega)) (Int.emod_lt_of_pos _ (by omega)) ?_ ⟨⟨_, _, _, upd_same, (upd_ne ne.symm).trans g2, Int.ediv_nonneg hx (by omega), hm, hm2⟩, ne, by omega⟩⟩
        show Same (wo st a H) (wo st a (upd H2 st _))
        rw [wo_updS]
        exact k2
      · refine ⟨_, rfl, st, _, _, _, rfl, rfl, SqL.of g1, rfl, _, rfl, st, _, _, _, rfl, rfl, SqL.of g1, rfl, ?_⟩
        refine ⟨_, _, rfl, rfl, .inl ⟨by decide, by decide⟩, _, _, rfl, rfl, _, _, rfl, rfl, _, _, rfl, rfl, ⟨by decide, by decide, by omega⟩, .inl ⟨_, rfl, _, _, rfl, rfl, (show (0 : Int) < 2147483629 by decide), ?_⟩⟩
        have b1 := Int.emod_nonneg ((m + 7919 * (c + 1) + 104729) ^ (5 : Int).toNat) (show (2147483629 : Int) ≠ 0 by decide)
        have b2 := Int.emod_lt_of_pos ((m + 7919 * (c + 1) + 104729) ^ (5 : Int).toNat) (show (0 : Int) < 2147483629 by decide)
        generalize (m + 7919 * (c + 1) + 104729) ^ (5 : Int).toNat % 2147483629 = z at b1 b2 ⊢
        refine ⟨_, rfl, _, _, rfl, rfl, .inr ⟨by decide, by decide⟩, _, rfl, st, _, _, _, rfl, rfl, SqL.of g1, rfl, ?_⟩
        refine ⟨_, _, rfl, rfl, .inl ⟨by decide, by decide⟩, _, _, rfl, rfl, _, _, rfl, rfl, _, _, rfl, rfl, ⟨by decide, by decide, by omega⟩, .inl ⟨_, rfl, _, _, rfl, rfl, (show (0 : Int) < 1000000007 by decide), _, rfl, _, _, rfl, rfl, by omega, ?_⟩⟩
        exact q _ _ (Int.emod_nonneg _ (by omega)) (Int.emod_lt_of_pos _ (by omega)) k2 ⟨⟨_, _, _, g1, g2, hx, hm, hm2⟩, ne, by omega⟩
    | cons n r =>
      refine iteT ?_
      refine ⟨_, fun σ' H' h => h, ?_⟩
      refine ⟨_, rfl, st, _, _, _, rfl, rfl, SqL.of g1, rfl, .inl ⟨rfl, _, SqL.of g2⟩, a, _, _, 0, _, rfl, rfl, g2, by decide, by decide, seqI (by omega) (by simp), rfl, _, rfl, ?_⟩
      have g3 : (upd H2 a (.lst (((n :: r).map V.int).eraseIdx 0))) st = some (.lst [.ref a, .int 0, .int (c + 1), .int m]) := by
        rw [upd_ne ne]
        exact g1
      have g4 : (upd H2 a (.lst (((n :: r).map V.int).eraseIdx 0))) a = some (.lst (r.map V.int)) := upd_same
      have k3 : Kp st a H (upd H2 a (.lst (((n :: r).map V.int).eraseIdx 0))) := by
        show Same (wo st a H) (wo st a (upd H2 a _))
        rw [wo_updA]
        exact k2
      have ab : 0 ≤ (if n < 0 then -n else n) := by split <;> omega
      generalize (upd H2 a (.lst (((n :: r).map V.int).eraseIdx 0))) = H3 at g3 g4 k3 ⊢
      generalize (if n < 0 then -n else n) = z at ab ⊢
      refine ⟨_, rfl, st, _, _, _, rfl, rfl, SqL.of g3, rfl, _, _, rfl, rfl, .inr ⟨by decide, by decide⟩, _, rfl, _, _, rfl, rfl, _, _, rfl, rfl, .inl ⟨_, rfl, _, _, rfl, rfl, (show (0 : Int) < 2147483647 by decide), ?_⟩⟩
      refine ⟨_, rfl, st, _, _, _, rfl, rfl, g3, rfl, ?_⟩
      have b1 := Int.emod_nonneg (m * 8191 + z + 3) (show (2147483647 : Int) ≠ 0 by decide)
      have b2 := Int.emod_lt_of_pos (m * 8191 + z + 3) (show (0 : Int) < 2147483647 by decide)
      have k5 : ∀ o o', Kp st a H (upd (upd H3 st o) st o') := fun o o' => by
        show Same (wo st a H) (wo st a (upd (upd H3 st o) st o'))
        rw [wo_updS, wo_updS]
        exact k3
      refine ⟨_, rfl, _, _, rfl, rfl, ⟨by decide, by decide, by decide⟩, _, _, rfl, rfl, _, rfl, ?_⟩
      refine ite2 (fun _ => ?_) (fun _ => ?_)
      · exact ⟨_, rfl, _, rfl, st, _, _, _, rfl, rfl, upd_same, rfl, _, by simp, r, z, _, _, rfl, upd_same, (upd_ne ne.symm).trans ((upd_ne ne.symm).trans g4), ab, b1, Int.le_of_lt b2, k5 _ _, rfl⟩
      · exact ⟨_, rfl, st, _, _, _, rfl, rfl, upd_same, rfl, _, by simp, r, 0, _, _, rfl, upd_same, (upd_ne ne.symm).trans ((upd_ne ne.symm).trans g4), Int.le_refl _, b1, Int.le_of_lt b2, k5 _ _, rfl⟩
  · have g1 := e1
    have g2 := e2
    have k2 := k1
    generalize H1 = H2 at g1 g2 k2 ⊢
    rw [show decide (V.int x = V.int 0) = false from decide_eq_false fun z => x0 (V.int.inj z)]
    refine iteF ?_
    refine ⟨_, rfl, st, _, _, _, rfl, rfl, SqL.of g1, rfl, _, _, rfl, rfl, _, rfl, ?_⟩
    refine ite2 (fun xp => ?_) (fun xp => ?_)
    · have xp := of_decide_eq_true xp
      refine ⟨_, rfl, st, _, _, _, rfl, rfl, SqL.of g1, rfl, .inl ⟨_, rfl, ?_⟩⟩
      refine ⟨_, rfl, _, _, rfl, rfl, by omega, ?_⟩
      refine ⟨_, rfl, st, _, _, _, rfl, rfl, SqL.of g1, rfl, _, rfl, _, _, rfl, rfl, ⟨by omega, by omega⟩, ?_⟩
      refine ⟨_, rfl, st, _, _, _, rfl, rfl, g1, rfl, ?_⟩
      refine ⟨_, rfl, q _ _ (Int.emod_nonneg _ (by omega)) (Int.emod_lt_of_pos _ (by omega)) ?_ ⟨⟨_, _, _, upd_same, (upd_ne ne.symm).trans g2, Int.ediv_nonneg hx (by omega), hm, hm2⟩, ne, by omega⟩⟩
      show Same (wo st a H) (wo st a (upd H2 st _))
      rw [wo_updS]
      exact k2
    · refine ⟨_, rfl, st, _, _, _, rfl, rfl, SqL.of g1, rfl, _, rfl, st, _, _, _, rfl, rfl, SqL.of g1, rfl, ?_⟩
      refine ⟨_, _, rfl, rfl, .inl ⟨by decide, by decide⟩, _, _, rfl, rfl, _, _, rfl, rfl, _, _, rfl, rfl, ⟨by decide, by decide, by omega⟩, .inl ⟨_, rfl, _, _, rfl, rfl, (show (0 : Int) < 2147483629 by decide), ?_⟩⟩
      have b1 := Int.emod_nonneg ((m + 7919 * (c + 1) + 104729) ^ (5 : Int).toNat) (show (2147483629 : Int) ≠ 0 by decide)
      have b2 := Int.emod_lt_of_pos ((m + 7919 * (c + 1) + 104729) ^ (5 : Int).toNat) (show (0 : Int) < 2147483629 by decide)
      generalize (m + 7919 * (c + 1) + 104729) ^ (5 : Int).toNat % 2147483629 = z at b1 b2 ⊢
      refine ⟨_, rfl, _, _, rfl, rfl, .inr ⟨by decide, by decide⟩, _, rfl, st, _, _, _, rfl, rfl, SqL.of g1, rfl, ?_⟩
      refine ⟨_, _, rfl, rfl, .inl ⟨by decide, by decide⟩, _, _, rfl, rfl, _, _, rfl, rfl, _, _, rfl, rfl, ⟨by decide, by decide, by omega⟩, .inl ⟨_, rfl, _, _, rfl, rfl, (show (0 : Int) < 1000000007 by decide), _, rfl, _, _, rfl, rfl, by omega, ?_⟩⟩
      exact q _ _ (Int.emod_nonneg _ (by omega)) (Int.emod_lt_of_pos _ (by omega)) k2 ⟨⟨_, _, _, g1, g2, hx, hm, hm2⟩, ne, by omega⟩
end
end Any
end
section
set_option Elab.async false
set_option linter.all false
set_option maxRecDepth 100000
set_option maxHeartbeats 4000000
namespace Any
open PySem PySem.Spec PyProof.Rows L2
theorem at_get {xs : List V} {r : Int} (h0 : 0 ≤ r) (h1 : r < (xs.length : Int)) : ∃ v, atI xs r = some v ∧ v ∈ xs ∧ xs[r.toNat]? = some v := by
  have hn : r.toNat < xs.length := by omega
  refine ⟨xs[r.toNat], ?_, List.getElem_mem _, List.getElem?_eq_getElem hn⟩
  have := atI_nat (List.getElem?_eq_getElem hn)
  rw [show ((r.toNat : Nat) : Int) = r by omega] at this
  exact this
theorem perm_erase {α : Type} : ∀ {l : List α} {k : Nat} {v : α}, l[k]? = some v → (v :: l.eraseIdx k).Perm l
  | [], _, _, h => by simp at h
  | a :: l, 0, v, h => by
    have e : a = v := by simpa using h
    rw [e]
    exact .refl _
  | a :: l, k + 1, v, h => by
    have ih := perm_erase (l := l) (k := k) (v := v) (by simpa using h)
    rw [List.eraseIdx_cons_succ]
    exact (List.Perm.swap a v _).trans (.cons a ih)
def spMixed : Sp := fun vs H Q _ => ∃ (st a l : Addr) (c : Int) (xs : List V), vs = [.ref st, .ref l] ∧ Strm H st a c ∧ c + xs.length ≤ BIG ∧ wo st a H l = some (.lst xs) ∧ xs.length ≤ 1000 ∧
  ∀ l' ys H', ys.Perm xs → Kp st a H H' → wo st a H l' = none → wo st a H' l' = some (.lst ys) → Strm H' st a (c + xs.length) → Q (.ref l') H'
def spAmounts : Sp := fun vs H Q _ => ∃ (st a : Addr) (c way : Int), vs = [.ref st, .int way] ∧ Strm H st a c ∧ c + 2 ≤ BIG ∧
  ∀ x y p H' c', (-9 ≤ x ∧ x ≤ 9) → (-9 ≤ y ∧ y ≤ 9) → Kp st a H H' → wo st a H' p = some (.tup [.int x, .int y]) → Strm H' st a c' → c ≤ c' → c' ≤ c + 2 → Q (.ref p) H'
def spStep : Sp := fun vs H Q _ => ∃ (st a : Addr) (c one other way : Int) (N : Nat), vs = [.ref st, .int one, .int other, .int way] ∧ Strm H st a c ∧ c + 5 ≤ BIG ∧ (0 ≤ one ∧ one < (N : Int)) ∧ (0 ≤ other ∧ other < (N : Int)) ∧
  ∀ e p H' c', e.s = one → e.t = other → Bd N e → Kp st a H H' → StpAt (wo st a H') p e → Strm H' st a c' → c ≤ c' → c' ≤ c + 5 → Q (.ref p) H'
section
variable {P : Program} {w : World} {K : PySem.W.Frag} {mg : Str → Option Value} {base : Heap}
theorem sc_law_pick : FnScope ["_law_stream_here", "_law_things"] ["_law_stream_here", "_law_things"] (defScope st_law_pick) := ⟨rfl, rfl, rfl, by decide +kernel, rfl, by decide +kernel, by decide +kernel⟩
theorem ok_law_pick (T : Txt K mg) : FnK P w K mg base CX0 2 "_law_pick" ["_law_stream_here", "_law_things"] spPick := by
  refine T.law_pick.ok sc_law_pick (fun vs H Q E h => ?_) (fun cdv A outer s H vs Q E hr h => ?_)
  · obtain ⟨st, a, l, c, xs, rfl, _⟩ := h
    rfl
  obtain ⟨st, a, l, c, xs, rfl, S, hc, hl, hne, few, q⟩ := h
  refine ⟨_, (pss_one (ps_ret (pe_ix ix_list (pv 1) (pe_f T.law_draw (ok_law_draw T) hr pass0 (pa_cons (pv 0) (pa_cons (pe_callB call_len_seq rfl T.n_len PySem.boot_len (pa_cons (pv 1) pa_nil)) pa_nil))) (fun _ _ => rfl)))), ?_⟩
  have hl1 := (wo_some hl).2.2
  have pos := List.length_pos_iff.mpr hne
  refine ⟨_, rfl, _, rfl, _, rfl, l, xs, rfl, .inl (SqL.of hl1), ?_⟩
  refine ⟨st, a, _, c, rfl, S, hc, by omega, by omega, fun r H1 r0 r1 k1 S1 => ?_⟩
  obtain ⟨v, e1, e2, _⟩ := at_get r0 r1
  exact ⟨l, xs, r, v, rfl, rfl, SqL.of (k1.get hl), e1, q _ H1 e2 k1 S1⟩
theorem sc_law_mixed : FnScope ["_law_stream_here", "_law_things", "_law_left_here", "_law_found", "_law_k"] ["_law_stream_here", "_law_things"] (defScope st_law_mixed) := ⟨rfl, rfl, rfl, by decide +kernel, rfl, by decide +kernel, by decide +kernel⟩
theorem ok_law_mixed (T : Txt K mg) : FnK P w K mg base CX0 2 "_law_mixed" ["_law_stream_here", "_law_things"] spMixed := by
  refine T.law_mixed.ok sc_law_mixed (fun vs H Q E h => ?_) (fun cdv A outer s H vs Q E hr h => ?_)
  · obtain ⟨st, a, l, c, xs, rfl, _⟩ := h
    rfl
  obtain ⟨st, a, l, c, xs, rfl, S, hc, hl, few, q⟩ := h
  refine ⟨_, (pss_cons (ps_par (i := 2) (j := 3) (by rfl) sc_law_mixed.nd rfl rfl (by decide) rfl rfl (pa_cons (pe_callTy call_list_of rfl T.n_list (by decide +kernel) (pa_cons (pv 1) pa_nil)) (pa_cons (pe_lst pa_nil) pa_nil)) (by rfl))
    (pss_cons (ps_for (passes_of rfl) rfl (pi_range1 (by rfl) T.n_range (pa_cons (pe_callB call_len_seq rfl T.n_len PySem.boot_len (pa_cons (pv 2) pa_nil)) pa_nil)) (pg_name (i := 4) sc_law_mixed.nd rfl (Or.inl rfl)) (pss_one (ps_expr (pe_bm PySem.F.plainAttrs_list PySem.F.slot_list_append PySem.F.type_list_append mt_append (pv 3) (pa_cons (pe_bm PySem.F.plainAttrs_list PySem.F.slot_list_pop PySem.F.type_list_pop mt_popAt (pv 2) (pa_cons (pe_f T.law_draw (ok_law_draw T) hr pass0 (pa_cons (pv 0) (pa_cons (pe_callB call_len_seq rfl T.n_len PySem.boot_len (pa_cons (pv 2) pa_nil)) pa_nil))) pa_nil)) pa_nil)))))
    (pss_one (ps_ret (pv 3))))), ?_⟩
  have hl1 := (wo_some hl).2.2
  refine ⟨_, rfl, l, xs, rfl, .inl (SqL.of hl1), fun L nL => ?_⟩
  obtain ⟨k1, S1, w1⟩ := S.made nL (.lst xs)
  have sL := same_new nL (.lst xs)
  have L1 := S.nst nL
  have L2 := S.na nL
  refine ⟨(by show 0 ≤ sizeLine; decide), fun F nF => ⟨_, _, rfl, ?_⟩⟩
  obtain ⟨k2, S2, w2⟩ := S1.made nF (.lst [])
  have F1 := S1.nst nF
  have F2 := S1.na nF
  have LF : L ≠ F := ne_of_none upd_same nF
  have nF0 : H F = none := not_none_same sL nF
  have eL := same_new nF (.lst []) _ _ (upd_same (H := H) (a := L) (o := .lst xs))
  refine ⟨_, rfl, L, xs, rfl, .inl (SqL.of eL), (xs.length : Int), rfl, by omega, by omega, ?_⟩
  have hn : ((xs.length : Int)).toNat = xs.length := by omega
  rw [hn]
  refine for_range (fun i σ H1 => ∃ rest acc : List V, Kp st a H H1 ∧ wo st a H1 L = some (.lst rest) ∧ wo st a H1 F = some (.lst acc) ∧ (acc ++ rest).Perm xs ∧ acc.length = i ∧ Strm H1 st a (c + i) ∧ ∃ x4, σ = [some (.ref st), some (.ref l), some (.ref L), some (.ref F), x4])
    ⟨xs, [], k1.trans k2, k2 _ _ w1, w2, .refl _, rfl, by simpa using S2, none, rfl⟩ ?_ ?_
  · rintro i σ H1 hi ⟨rest, acc, k3, eL, eF, pm, len, S3, x4, rfl⟩
    have pl := pm.length_eq
    rw [List.length_append] at pl
    have eL' := (wo_some eL).2.2
    have eF' := (wo_some eF).2.2
    refine ⟨_, rfl, .inl ⟨rfl, _, SqL.of eF'⟩, _, rfl, .inl ⟨rfl, _, SqL.of eL'⟩, _, rfl, _, rfl, L, rest, rfl, .inl (SqL.of eL'), ?_⟩
    refine ⟨st, a, _, _, rfl, S3, by omega, by omega, by omega, fun r H2 r0 r1 k4 S4 => ?_⟩
    obtain ⟨v, _, _, e3⟩ := at_get r0 r1
    refine ⟨L, rest, r, r.toNat, v, rfl, rfl, k4.get eL, by omega, by omega, seqI r0 r1, e3, ?_⟩
    have k5 := Kp.mut (o := .lst (rest.eraseIdx r.toNat)) (k3.trans k4) (wo_none nL) L1 L2
    have S5 := S4.upd (o := .lst (rest.eraseIdx r.toNat)) L1 L2
    have eF5 : (upd H2 L (.lst (rest.eraseIdx r.toNat))) F = some (.lst acc) := by
      rw [upd_ne LF.symm]
      exact k4.get eF
    have eL5 : (upd H2 L (.lst (rest.eraseIdx r.toNat))) L = some (.lst (rest.eraseIdx r.toNat)) := upd_same
    generalize (upd H2 L (.lst (rest.eraseIdx r.toNat))) = H5 at k5 S5 eF5 eL5 ⊢
    refine ⟨F, _, _, rfl, rfl, eF5, small_lt (by omega), ?_⟩
    have k6 := Kp.mut (o := .lst (acc ++ [v])) k5 (wo_none nF0) F1 F2
    have S6 := S5.upd (o := .lst (acc ++ [v])) F1 F2
    refine ⟨rest.eraseIdx r.toNat, acc ++ [v], k6, ?_, ?_, ?_, by simp [len], by rw [show c + ((i + 1 : Nat) : Int) = c + i + 1 by omega]; exact S6, _, rfl⟩
    · rw [wo_get L1 L2, upd_ne LF]
      exact eL5
    · rw [wo_get F1 F2]
      exact upd_same
    · rw [List.append_assoc]
      exact ((List.Perm.append_left acc (perm_erase e3)).trans pm)
  · rintro σ H1 ⟨rest, acc, k3, eL, eF, pm, len, S3, x4, rfl⟩
    have pl := pm.length_eq
    rw [List.length_append] at pl
    have : rest = [] := List.length_eq_zero_iff.mp (by omega)
    subst this
    rw [List.append_nil] at pm
    exact ⟨_, rfl, q F acc H1 pm k3 (wo_none nF0) eF S3⟩
theorem int_mem {v : V} {ns : List Int} (h : v ∈ ns.map V.int) : ∃ x ∈ ns, v = .int x := by
  obtain ⟨x, hx, e⟩ := List.mem_map.mp h
  exact ⟨x, hx, e.symm⟩
theorem sc_law_amounts : FnScope ["_law_stream_here", "_law_way"] ["_law_stream_here", "_law_way"] (defScope st_law_amounts) := ⟨rfl, rfl, rfl, by decide +kernel, rfl, by decide +kernel, by decide +kernel⟩
theorem ok_law_amounts (T : Txt K mg) : FnK P w K mg base CX0 3 "_law_amounts" ["_law_stream_here", "_law_way"] spAmounts := by
  refine T.law_amounts.ok sc_law_amounts (fun vs H Q E h => ?_) (fun cdv A outer s H vs Q E hr h => ?_)
  · obtain ⟨st, a, c, way, rfl, _⟩ := h
    rfl
  obtain ⟨st, a, c, way, rfl, S, hc, q⟩ := h
  refine ⟨_, (pss_cons (ps_if (pt_cmpR op_eq (pv 1) pe_int (nomark _)) (pss_one (ps_ret (pe_tup (pa_cons (pe_f T.law_draw (ok_law_draw T) hr pass0 (pa_cons (pv 0) (pa_cons pe_int pa_nil))) (pa_cons (pe_f T.law_draw (ok_law_draw T) hr pass0 (pa_cons (pv 0) (pa_cons pe_int pa_nil))) pa_nil))))) pss_nil)
    (pss_cons (ps_if (pt_cmpR op_eq (pv 1) pe_int (nomark _)) (pss_one (ps_ret (pe_tup (pa_cons (pe_op op_sub (pe_f T.law_draw (ok_law_draw T) hr pass0 (pa_cons (pv 0) (pa_cons pe_int pa_nil))) pe_int) (pa_cons (pe_op op_sub (pe_f T.law_draw (ok_law_draw T) hr pass0 (pa_cons (pv 0) (pa_cons pe_int pa_nil))) pe_int) pa_nil))))) pss_nil)
    (pss_cons (ps_if (pt_cmpR op_eq (pv 1) pe_int (nomark _)) (pss_one (ps_ret (pe_tup (pa_cons (pe_op op_sub (pe_f T.law_draw (ok_law_draw T) hr pass0 (pa_cons (pv 0) (pa_cons pe_int pa_nil))) pe_int) (pa_cons (pe_op op_sub (pe_f T.law_draw (ok_law_draw T) hr pass0 (pa_cons (pv 0) (pa_cons pe_int pa_nil))) pe_int) pa_nil))))) pss_nil)
    (pss_one (ps_ret (pe_tup (pa_cons (pe_f T.law_pick (ok_law_pick T) hr pass0 (pa_cons (pv 0) (pa_cons (pe_lst (pa_cons pe_int (pa_cons pe_int (pa_cons pe_int (pa_cons pe_int (pa_cons pe_int pa_nil)))))) pa_nil))) (pa_cons (pe_f T.law_pick (ok_law_pick T) hr pass0 (pa_cons (pv 0) (pa_cons (pe_lst (pa_cons pe_int (pa_cons pe_int (pa_cons pe_int (pa_cons pe_int (pa_cons pe_int pa_nil)))))) pa_nil))) pa_nil)))))))), ?_⟩
  have fin : ∀ (x y : Int) (H1 H2 : Hp), (-9 ≤ x ∧ x ≤ 9) → (-9 ≤ y ∧ y ≤ 9) → Kp st a H H1 → Kp st a H1 H2 → Strm H2 st a (c + 1 + 1) → ∀ p, H2 p = none → Q (.ref p) (upd H2 p (.tup [.int x, .int y])) := fun x y H1 H2 hx hy k1 k2 S2 p np => by
    obtain ⟨k3, S3, w3⟩ := S2.made np (.tup [.int x, .int y])
    exact q x y p _ _ hx hy (k1.trans (k2.trans k3)) w3 S3 (by omega) (by omega)
  refine ⟨_, rfl, rfl, _, rfl, ite2 (fun _ => ?_) (fun _ => ?_)⟩
  · refine ⟨_, rfl, st, a, 5, c, rfl, S, by omega, by decide, by decide, fun x H1 x0 x1 k1 S1 => ?_⟩
    refine ⟨_, rfl, st, a, 5, _, rfl, S1, by omega, by decide, by decide, fun y H2 y0 y1 k2 S2 => ?_⟩
    exact ⟨(by show 2 ≤ sizeLine; decide), fun p np => fin x y H1 H2 ⟨by omega, by omega⟩ ⟨by omega, by omega⟩ k1 k2 S2 p np⟩
  refine ⟨_, rfl, rfl, _, rfl, ite2 (fun _ => ?_) (fun _ => ?_)⟩
  · refine ⟨_, rfl, st, a, 9, c, rfl, S, by omega, by decide, by decide, fun x H1 x0 x1 k1 S1 => ⟨_, _, rfl, rfl, ?_⟩⟩
    refine ⟨_, rfl, st, a, 9, _, rfl, S1, by omega, by decide, by decide, fun y H2 y0 y1 k2 S2 => ⟨_, _, rfl, rfl, ?_⟩⟩
    exact ⟨(by show 2 ≤ sizeLine; decide), fun p np => fin _ _ H1 H2 ⟨by omega, by omega⟩ ⟨by omega, by omega⟩ k1 k2 S2 p np⟩
  refine ⟨_, rfl, rfl, _, rfl, ite2 (fun _ => ?_) (fun _ => ?_)⟩
  · refine ⟨_, rfl, st, a, 19, c, rfl, S, by omega, by decide, by decide, fun x H1 x0 x1 k1 S1 => ⟨_, _, rfl, rfl, ?_⟩⟩
    refine ⟨_, rfl, st, a, 19, _, rfl, S1, by omega, by decide, by decide, fun y H2 y0 y1 k2 S2 => ⟨_, _, rfl, rfl, ?_⟩⟩
    exact ⟨(by show 2 ≤ sizeLine; decide), fun p np => fin _ _ H1 H2 ⟨by omega, by omega⟩ ⟨by omega, by omega⟩ k1 k2 S2 p np⟩
  · refine ⟨_, rfl, (by show 5 ≤ sizeLine; decide), fun l nl => ?_⟩
    obtain ⟨k0, S0, w0⟩ := S.made nl (.lst [.int 0, .int 0, .int 0, .int 1, .int 3])
    refine ⟨st, a, l, c, _, rfl, S0, by omega, w0, by simp, by decide, fun v H1 hv k1 S1 => ?_⟩
    obtain ⟨x, hx, rfl⟩ := int_mem (ns := [0, 0, 0, 1, 3]) hv
    refine ⟨_, rfl, (by show 5 ≤ sizeLine; decide), fun l2 nl2 => ?_⟩
    obtain ⟨k2, S2, w2⟩ := S1.made nl2 (.lst [.int 0, .int 0, .int 0, .int 1, .int 2])
    refine ⟨st, a, l2, _, _, rfl, S2, by omega, w2, by simp, by decide, fun v H3 hv k3 S3 => ?_⟩
    obtain ⟨y, hy, rfl⟩ := int_mem (ns := [0, 0, 0, 1, 2]) hv
    have bx : ∀ x ∈ [0, 0, 0, 1, (3 : Int)], -9 ≤ x ∧ x ≤ 9 := by decide
    have b_y : ∀ x ∈ [0, 0, 0, 1, (2 : Int)], -9 ≤ x ∧ x ≤ 9 := by decide
    exact ⟨(by show 2 ≤ sizeLine; decide), fun p np => fin x y H1 H3 (bx x hx) (b_y y hy) (k0.trans k1) (k2.trans k3) S3 p np⟩
theorem sc_law_step : FnScope ["_law_stream_here", "_law_one", "_law_other", "_law_way", "_law_ticks", "_law_change"] ["_law_stream_here", "_law_one", "_law_other", "_law_way"] (defScope st_law_step) := ⟨rfl, rfl, rfl, by decide +kernel, rfl, by decide +kernel, by decide +kernel⟩
theorem ok_law_step (T : Txt K mg) : FnK P w K mg base CX0 4 "_law_step" ["_law_stream_here", "_law_one", "_law_other", "_law_way"] spStep := by
  refine T.law_step.ok sc_law_step (fun vs H Q E h => ?_) (fun cdv A outer s H vs Q E hr h => ?_)
  · obtain ⟨st, a, c, one, other, way, N, rfl, _⟩ := h
    rfl
  obtain ⟨st, a, c, one, other, way, N, rfl, S, hc, ho, ht, q⟩ := h
  refine ⟨_, (pss_cons (ps_set (i := 4) sc_law_step.nd rfl (Or.inl rfl) (pe_op op_add pe_int (pe_f T.law_draw (ok_law_draw T) hr pass0 (pa_cons (pv 0) (pa_cons (pe_f T.law_pick (ok_law_pick T) hr pass0 (pa_cons (pv 0) (pa_cons (pe_lst (pa_cons pe_int (pa_cons pe_int (pa_cons pe_int pa_nil)))) pa_nil))) pa_nil)))))
    (pss_cons (ps_set (i := 5) sc_law_step.nd rfl (Or.inl rfl) (pe_f T.law_pick (ok_law_pick T) hr pass0 (pa_cons (pv 0) (pa_cons (pe_lst (pa_cons pe_int (pa_cons pe_int (pa_cons pe_int (pa_cons (pe_un un_neg pe_int) (pa_cons pe_int (pa_cons (pe_un un_neg pe_int) (pa_cons pe_int (pa_cons (pe_un un_neg pe_int) (pa_cons pe_int pa_nil)))))))))) pa_nil))))
    (pss_one (ps_ret (pe_tup (pa_cons (pv 1) (pa_cons (pv 2) (pa_cons (pe_f T.law_amounts (ok_law_amounts T) hr pass0 (pa_cons (pv 0) (pa_cons (pv 3) pa_nil))) (pa_cons (pv 4) (pa_cons (pv 5) pa_nil)))))))))), ?_⟩
  refine ⟨_, rfl, _, rfl, (by show 3 ≤ sizeLine; decide), fun l nl => ?_⟩
  obtain ⟨k0, S0, w0⟩ := S.made nl (.lst [.int 1, .int 2, .int 6])
  refine ⟨st, a, l, c, _, rfl, S0, by omega, w0, by simp, by decide, fun v H1 hv k1 S1 => ?_⟩
  obtain ⟨m, hm, rfl⟩ := int_mem (ns := [1, 2, 6]) hv
  have bm : ∀ x ∈ [1, 2, (6 : Int)], 1 ≤ x ∧ x ≤ 6 := by decide
  have bm := bm m hm
  refine ⟨st, a, m, _, rfl, S1, by omega, by omega, by omega, fun t H2 t0 t1 k2 S2 => ⟨_, _, rfl, rfl, ?_⟩⟩
  refine ⟨_, rfl, _, rfl, _, rfl, _, rfl, (by show 9 ≤ sizeLine; decide), fun l2 nl2 => ?_⟩
  obtain ⟨k3, S3, w3⟩ := S2.made nl2 (.lst ([0, 0, 1, -1, 2, -3, 5, -9, 9].map V.int))
  refine ⟨st, a, l2, _, _, rfl, S3, by omega, w3, by simp, by decide, fun v H4 hv k4 S4 => ?_⟩
  obtain ⟨g, hg, rfl⟩ := int_mem hv
  have bg : ∀ x ∈ [0, 0, 1, -1, 2, -3, 5, -9, (9 : Int)], -9 ≤ x ∧ x ≤ 9 := by decide
  have bg := bg g hg
  refine ⟨_, rfl, _, rfl, _, rfl, _, rfl, st, a, _, way, rfl, S4, by omega, fun x y p H5 c5 hx hy k5 w5 S5 d1 d2 => ?_⟩
  refine ⟨_, rfl, _, rfl, (by show 5 ≤ sizeLine; decide), fun p2 np2 => ?_⟩
  obtain ⟨k6, S6, w6⟩ := S5.made np2 (.tup [.int one, .int other, .ref p, .int (1 + t), .int g])
  exact q ⟨one, other, x, y, 1 + t, g⟩ p2 _ c5 rfl rfl ⟨ho, ht, hx, hy, ⟨show 1 ≤ 1 + t by omega, show 1 + t ≤ 6 by omega⟩, bg⟩ (k0.trans (k1.trans (k2.trans (k3.trans (k4.trans (k5.trans k6)))))) ⟨p, w6, k6 _ _ w5⟩ S6 (by omega) (by omega)
end
end Any
end
section
set_option Elab.async false
set_option linter.all false
set_option maxRecDepth 100000
set_option maxHeartbeats 4000000
namespace Any
open PySem PySem.Spec PyProof.Rows L2
theorem u65 {k : Nat} {A : Around} (r : Room k A) : A.units + 65 < cLine := by
  have := r.un
  omega
theorem perm_map {α β : Type} (f : α → β) {ys zs : List β} (h : ys.Perm zs) : ∀ ss : List α, zs = ss.map f → ∃ ss' : List α, ss'.Perm ss ∧ ys = ss'.map f := by
  induction h with
  | nil => exact fun ss e => ⟨ss, .refl _, e⟩
  | cons x h ih =>
    intro ss e
    cases ss with
    | nil => cases e
    | cons s r =>
      rw [List.map_cons, List.cons.injEq] at e
      obtain ⟨rfl, e2⟩ := e
      obtain ⟨r', p, e3⟩ := ih r e2
      exact ⟨s :: r', p.cons s, by rw [e3]; rfl⟩
  | swap x y l =>
    intro ss e
    match ss, e with
    | a :: b :: r, e =>
      rw [List.map_cons, List.map_cons, List.cons.injEq, List.cons.injEq] at e
      obtain ⟨rfl, rfl, rfl⟩ := e
      exact ⟨b :: a :: r, .swap .., rfl⟩
  | trans h1 h2 ih1 ih2 =>
    intro ss e
    obtain ⟨s1, p1, e1⟩ := ih2 ss e
    obtain ⟨s2, p2, e2⟩ := ih1 s1 e1
    exact ⟨s2, p2.trans p1, e2⟩
/-! ### a step as data -/
def sdat (e : AM.Stp) : PyData := .tuple [.int e.s, .int e.t, .tuple [.int e.x, .int e.y], .int e.k, .int e.c]
theorem dp_stp {K : PySem.W.Frag} {H : Hp} {a : Addr} {e : AM.Stp} (h : StpAt H a e) : Dp K H (.ref a) (sdat e) := by
  obtain ⟨b, h1, h2⟩ := h
  exact .tup (SqT.of h1) (.cons (.int _) (.cons (.int _) (.cons (.tup (SqT.of h2) (.cons (.int _) (.cons (.int _) .nil))) (.cons (.int _) (.cons (.int _) .nil)))))
theorem dp_stps {K : PySem.W.Frag} {H : Hp} : ∀ ss : SL, StepsOk H ss → DpAll K H (refs ss) ((stps ss).map sdat)
  | [], _ => .nil
  | z :: r, h => .cons (dp_stp (h z (List.mem_cons_self ..))) (dp_stps r fun p hp => h p (List.mem_cons_of_mem _ hp))
theorem lay_stp (e : AM.Stp) : PyData.canLay0 (sdat e) = true ∧ PyData.depth (sdat e) = 2 := by
  simp [sdat, PyData.canLay0, PyData.canLayAll0, PyData.depth, PyData.depthAll]
theorem lay_stps : ∀ es : List AM.Stp, PyData.canLayAll0 (es.map sdat) = true ∧ PyData.depthAll (es.map sdat) ≤ 2
  | [] => by simp [PyData.canLayAll0, PyData.depthAll]
  | e :: r => by
    obtain ⟨h1, h2⟩ := lay_stps r
    obtain ⟨h3, h4⟩ := lay_stp e
    simp only [List.map_cons, PyData.canLayAll0, PyData.depthAll]
    rw [h1, h3, h4]
    exact ⟨rfl, by omega⟩
theorem shaped_stp (e : AM.Stp) : SeqAt.shaped (sdat e) = true := by
  obtain ⟨h3, h4⟩ := lay_stp e
  show ((sdat e).canLay0 && decide ((sdat e).depth ≤ 64)) = true
  rw [h3, h4]
  rfl
theorem shaped_stps (es : List AM.Stp) : SeqAt.shaped (.list (es.map sdat)) = true := shaped_list (lay_stps es).1 (lay_stps es).2 (by decide)
theorem eqv_stp (e f : AM.Stp) : PyData.eqv (sdat e) (sdat f) = decide (e = f) := by
  obtain ⟨s, t, x, y, k, c⟩ := e
  obtain ⟨s', t', x', y', k', c'⟩ := f
  rw [Bool.eq_iff_iff]
  simp [sdat, PyData.eqv, PyData.eqvAll, and_assoc]
theorem any_stp (es : List AM.Stp) (e : AM.Stp) : ((es.map sdat).any fun z => PyData.eqv z (sdat e)) = decide (e ∈ es) := by
  rw [List.any_map, Bool.eq_iff_iff]
  simp only [List.any_eq_true, Function.comp, decide_eq_true_eq]
  constructor
  · rintro ⟨f, hf, h⟩
    rw [eqv_stp, decide_eq_true_eq] at h
    rw [← h]
    exact hf
  · exact fun h => ⟨e, h, by rw [eqv_stp]; exact decide_eq_true rfl⟩
theorem rAdd {i j n : Int} {H : Hp} {Q : VK} (e : i + j = n) (q : Q (.int n) H) : rI0 (fun i j => V.int (i + j)) (.int i) (.int j) H Q := ⟨i, j, rfl, rfl, by
  show Q (.int (i + j)) H
  rw [e]
  exact q⟩
/-! ### the ring's places -/
theorem at_pred {rs : List Int} {n : Nat} (h : n < rs.length) : ∃ x ∈ rs, atI (rs.map V.int) ((n : Int) - 1) = some (.int x) := by
  have key : ∀ j : Nat, j < rs.length → ixN rs.length ((n : Int) - 1) = some j → ∃ x ∈ rs, atI (rs.map V.int) ((n : Int) - 1) = some (.int x) := fun j hj e => by
    refine ⟨rs[j], List.getElem_mem _, ?_⟩
    unfold atI
    rw [List.length_map, e]
    show (rs.map V.int)[j]? = _
    rw [List.getElem?_map, List.getElem?_eq_getElem hj]
    rfl
  cases n with
  | zero =>
    refine key (rs.length - 1) (by omega) ?_
    unfold ixN
    rw [if_neg (by omega), if_pos (by omega)]
    congr 1
    omega
  | succ m =>
    refine key m (by omega) ?_
    unfold ixN
    rw [if_pos (by omega), if_pos (by omega)]
    congr 1
    omega
theorem cut_ints (rs : List Int) (hi : Option Int) : ∃ k, cutV (rs.map V.int) none hi = (rs.take k).map V.int := ⟨_, by
  unfold cutV
  rw [HT.sIx_none, List.drop_zero, List.map_take]⟩
theorem rgV_map (N : Nat) : rgV 0 (N : Int) = ((List.range N).map fun i : Nat => (i : Int)).map V.int := by
  unfold rgV
  rw [List.map_map, show ((N : Int) - 0).toNat = N by omega]
  apply List.map_congr_left
  intro i _
  show V.int (0 + (i : Int)) = V.int (i : Int)
  rw [Int.zero_add]
theorem rg_nodup (N : Nat) : ((List.range N).map fun i : Nat => (i : Int)).Nodup :=
  List.Pairwise.map _ (fun a b (n : a ≠ b) (z : (a : Int) = b) => n (by omega)) List.nodup_range
def spWeb : Sp := fun vs H Q _ => ∃ (st a : Addr) (c : Int), vs = [.ref st, .int 6, .int 14] ∧ Strm H st a c ∧ c + 200 ≤ BIG ∧
  ∀ q l (N : Nat) ss H' c', 1 ≤ N → N ≤ 6 → ss.length ≤ 14 → BdS N ss → (stps ss).Nodup → Kp st a H H' → StepsOk (wo st a H') ss → wo st a H' q = some (.tup [.int N, .ref l]) → wo st a H' l = some (.lst (refs ss)) → Strm H' st a c' → c ≤ c' → c' ≤ c + 200 → Q (.ref q) H'
section
variable {P : Program} {w : World} {K : PySem.W.Frag} {mg : Str → Option Value} {base : Heap}
theorem sc_law_web : FnScope ["_law_stream_here", "_law_most", "_law_many", "_law_places", "_law_way", "_law_found", "_law_ring", "_law_at", "_law_place", "_law_k", "_law_step_here"] ["_law_stream_here", "_law_most", "_law_many"] (defScope st_law_web) := ⟨rfl, rfl, rfl, by decide +kernel, rfl, by decide +kernel, by decide +kernel⟩
theorem ok_law_web (T : Txt K mg) : FnK P w K mg base CX0 5 "_law_web" ["_law_stream_here", "_law_most", "_law_many"] spWeb := by
  refine T.law_web.ok sc_law_web (fun vs H Q E h => ?_) (fun cdv A outer s H vs Q E hr h => ?_)
  · obtain ⟨st, a, c, rfl, _⟩ := h
    rfl
  obtain ⟨st, a, c, rfl, S, hc, q⟩ := h
  refine ⟨_, (pss_cons (ps_asg (pe_tup (pa_cons (pe_op op_add pe_int (pe_f T.law_draw (ok_law_draw T) hr pass0 (pa_cons (pv 0) (pa_cons (pv 1) pa_nil)))) (pa_cons (pe_f T.law_draw (ok_law_draw T) hr pass0 (pa_cons (pv 0) (pa_cons pe_int pa_nil))) (pa_cons (pe_lst pa_nil) (pa_cons (pe_lst pa_nil) pa_nil))))) (pg_tup rfl (pgs_cons (pg_name (i := 3) sc_law_web.nd rfl (Or.inl rfl)) (pgs_cons (pg_name (i := 4) sc_law_web.nd rfl (Or.inl rfl)) (pgs_cons (pg_name (i := 5) sc_law_web.nd rfl (Or.inl rfl)) (pgs_cons (pg_name (i := 6) sc_law_web.nd rfl (Or.inl rfl)) pgs_nil))))))
    (C8.pss_cut (ps_if (pt_cmpR op_gt (pe_f T.law_draw (ok_law_draw T) hr pass0 (pa_cons (pv 0) (pa_cons pe_int pa_nil))) pe_int (nomark _)) (pss_one (ps_set (i := 6) sc_law_web.nd rfl (Or.inl rfl) (pe_slice sl_list (pe_f T.law_mixed (ok_law_mixed T) hr pass0 (pa_cons (pv 0) (pa_cons (pe_listRg rfl rfl T.n_list (prg_1 rfl T.n_range (pv 3))) pa_nil))) po_none (po_some (pe_op op_add pe_int (pe_f T.law_draw (ok_law_draw T) hr pass0 (pa_cons (pv 0) (pa_cons (pv 3) pa_nil)))))))) pss_nil)
    (pss_cons (ps_for (passes_of rfl) rfl (pi_enum (by rfl) T.n_enumerate (pa_cons (pv 6) pa_nil)) (pg_tup rfl (pgs_cons (pg_name (i := 7) sc_law_web.nd rfl (Or.inl rfl)) (pgs_cons (pg_name (i := 8) sc_law_web.nd rfl (Or.inl rfl)) pgs_nil))) (pss_one (ps_expr (pe_bm PySem.F.plainAttrs_list PySem.F.slot_list_append PySem.F.type_list_append mt_append (pv 5) (pa_cons (pe_f T.law_step (ok_law_step T) hr pass0 (pa_cons (pv 0) (pa_cons (pe_ix ix_list (pv 6) (pe_op op_sub (pv 7) pe_int) (fun _ _ => rfl)) (pa_cons (pv 8) (pa_cons (pv 4) pa_nil))))) pa_nil)))))
    (pss_cons (ps_for (passes_of rfl) rfl (pi_range1 (by rfl) T.n_range (pa_cons (pe_f T.law_draw (ok_law_draw T) hr pass0 (pa_cons (pv 0) (pa_cons (pe_op op_add (pe_op op_sub (pv 2) (pe_callB call_len_seq rfl T.n_len PySem.boot_len (pa_cons (pv 5) pa_nil))) pe_int) pa_nil))) pa_nil)) (pg_name (i := 9) sc_law_web.nd rfl (Or.inl rfl)) (pss_cons (ps_set (i := 10) sc_law_web.nd rfl (Or.inl rfl) (pe_f T.law_step (ok_law_step T) hr pass0 (pa_cons (pv 0) (pa_cons (pe_f T.law_draw (ok_law_draw T) hr pass0 (pa_cons (pv 0) (pa_cons (pv 3) pa_nil))) (pa_cons (pe_f T.law_draw (ok_law_draw T) hr pass0 (pa_cons (pv 0) (pa_cons (pv 3) pa_nil))) (pa_cons (pv 4) pa_nil))))))
    (pss_one (ps_expr (pe_bm PySem.F.plainAttrs_list PySem.F.slot_list_extend PySem.F.type_list_extend mt_extend (pv 5) (pa_cons (pe_ifExp (pt_cmpR (op_notInD (u65 hr)) (pv 10) (pv 5) (by rfl)) (pe_lst (pa_cons (pv 10) pa_nil)) (pe_lst pa_nil)) pa_nil))))))
    (pss_one (ps_ret (pe_tup (pa_cons (pv 3) (pa_cons (pe_f T.law_mixed (ok_law_mixed T) hr pass0 (pa_cons (pv 0) (pa_cons (pv 5) pa_nil))) pa_nil))))))))), ?_⟩
  refine ⟨_, rfl, _, rfl, st, a, 6, c, rfl, S, by omega, by decide, by decide, fun p0 H1 p1 p2 k1 S1 => ?_⟩
  obtain ⟨N, hN, N1, N6⟩ : ∃ N : Nat, 1 + p0 = (N : Int) ∧ 1 ≤ N ∧ N ≤ 6 := ⟨(1 + p0).toNat, by omega, by omega, by omega⟩
  refine rAdd hN ?_
  refine ⟨_, rfl, st, a, 4, _, rfl, S1, by omega, by decide, by decide, fun way H2 w1 w2 k2 S2 => ?_⟩
  refine ⟨(by show 0 ≤ sizeLine; decide), fun F nF => ?_⟩
  obtain ⟨k3, S3, g3⟩ := S2.made nF (.lst [])
  have F1 := S2.nst nF
  have F2 := S2.na nF
  have nF0 : wo st a H F = none := not_none_same (k1.trans k2) (wo_none nF)
  refine ⟨(by show 0 ≤ sizeLine; decide), fun R nR => ?_⟩
  obtain ⟨k4, S4, g4⟩ := S3.made nR (.lst [])
  refine ⟨(by show 4 ≤ sizeLine; decide), fun tp nt => ?_⟩
  obtain ⟨k5, S5, g5⟩ := S4.made nt (.tup [.int N, .int way, .ref F, .ref R])
  refine ⟨_, _, rfl, SqT.of upd_same, rfl, _, _, rfl, _, _, rfl, _, _, rfl, _, _, rfl, rfl, ?_⟩
  have k15 := k1.trans (k2.trans (k3.trans (k4.trans k5)))
  have gF := k5 _ _ (k4 _ _ g3)
  have gR := k5 _ _ g4
  generalize (upd (upd (upd H2 F (.lst [])) R (.lst [])) tp _) = H5 at k15 S5 gF gR ⊢
  refine ⟨fun σ' H' => ∃ (R' : Addr) (rs : List Int) (c' : Int), Kp st a H H' ∧ wo st a H' F = some (.lst []) ∧ wo st a H' R' = some (.lst (rs.map V.int)) ∧ rs.Nodup ∧ (∀ x ∈ rs, 0 ≤ x ∧ x < (N : Int)) ∧ rs.length ≤ 6 ∧ R' ≠ F ∧ Strm H' st a c' ∧ c ≤ c' ∧ c' ≤ c + 12 ∧
    σ' = [some (.ref st), some (.int 6), some (.int 14), some (.int N), some (.int way), some (.ref F), some (.ref R'), none, none, none, none], ?_, ?_⟩
  · refine ⟨_, rfl, st, a, 5, _, rfl, S5, by omega, by decide, by decide, fun d H6 d1 d2 k6 S6 => ⟨_, _, rfl, rfl, _, rfl, ite2 (fun _ => ?_) (fun _ => ?_)⟩⟩
    · refine ⟨_, rfl, _, rfl, _, rfl, .of_le (by omega) (by omega) (by omega) (by omega), fun l nl => ?_⟩
      obtain ⟨k7, S7, g7⟩ := S6.made nl (.lst (rgV 0 N))
      refine ⟨st, a, l, _, _, rfl, S7, by rw [rgV_length]; omega, g7, by rw [rgV_length]; omega, fun l' ys H8 pm k8 n8 g8 S8 => ?_⟩
      rw [rgV_map] at pm
      obtain ⟨rs0, pm0, rfl⟩ := perm_map V.int pm _ rfl
      refine ⟨_, rfl, _, rfl, st, a, (N : Int), _, rfl, S8, by rw [rgV_length]; omega, by omega, by omega, fun d3 H9 d4 d5 k9 S9 => ⟨_, _, rfl, rfl, _, rfl, ?_⟩⟩
      refine ⟨l', _, rfl, SqL.of (k9.get g8), fun p np => ?_⟩
      obtain ⟨k, ek⟩ := cut_ints rs0 (some (1 + d3))
      obtain ⟨k10, S10, g10⟩ := S9.made np (.lst (cutV (rs0.map V.int) none (some (1 + d3))))
      have len0 : rs0.length = N := by rw [pm0.length_eq]; simp
      refine ⟨p, rs0.take k, _, k15.trans (k6.trans (k7.trans (k8.trans (k9.trans k10)))), ?_, ?_, ?_, fun x hx => ?_, ?_, ?_, S10, by rw [rgV_length]; omega, by rw [rgV_length]; omega, rfl⟩
      · exact k10 _ _ (k9 _ _ (k8 _ _ (k7 _ _ (k6 _ _ gF))))
      · rw [← ek]
        exact g10
      · exact (pm0.nodup_iff.mpr (rg_nodup N)).sublist (List.take_sublist _ _)
      · have hx := pm0.mem_iff.mp (List.mem_of_mem_take hx)
        obtain ⟨i, hi, rfl⟩ := List.mem_map.mp hx
        have := List.mem_range.mp hi
        exact ⟨by omega, by omega⟩
      · rw [List.length_take]
        omega
      · exact fun z => by
          have := k9 _ _ (k8 _ _ (k7 _ _ (k6 _ _ gF)))
          rw [← z, wo_none np] at this
          cases this
    · exact ⟨R, [], _, k15.trans k6, k6 _ _ gF, k6 _ _ gR, .nil, (fun x hx => by cases hx), by decide, (ne_of_none g3 (wo_none nR)).symm, S6, by omega, by omega, rfl⟩
  rintro σ' H6 ⟨R', rs, c6, k6, gF, gR, ndr, br, lr, RF, S6, c61, c62, rfl⟩
  clear k1 k2 k3 k4 k5 k15 S1 S2 S3 S4 S5 g3 g4 g5 nt
  refine ⟨_, rfl, R', _, rfl, SqL.of (wo_some gR).2.2, ?_⟩
  refine for_enum (xs := rs.map V.int) (fun n σ H1 => ∃ (fs : SL) (c' : Int), Kp st a H H1 ∧ wo st a H1 F = some (.lst (refs fs)) ∧ StepsOk (wo st a H1) fs ∧ BdS N fs ∧ (stps fs).map (·.t) = rs.take n ∧ wo st a H1 R' = some (.lst (rs.map V.int)) ∧ Strm H1 st a c' ∧ c ≤ c' ∧ c' ≤ c + 12 + 5 * n ∧
      ∃ x7 x8, σ = [some (.ref st), some (.int 6), some (.int 14), some (.int N), some (.int way), some (.ref F), some (.ref R'), x7, x8, none, none])
    ⟨[], c6, k6, gF, (fun z hz => by cases hz), (fun z hz => by cases hz), rfl, gR, S6, c61, by omega, none, none, rfl⟩ (fun n σ H1 _ p => ?_) ?_ ?_
  · obtain ⟨_, _, _, _, _, _, _, p, _⟩ := p
    exact SqL.of (wo_some p).2.2
  · rintro n x σ H1 t hx ⟨fs, c1, k1, gF, okf, bdf, ef, gR, S1, c11, c12, x7, x8, rfl⟩ nt
    rw [List.getElem?_map] at hx
    cases hb : rs[n]? with
    | none => rw [hb] at hx; cases hx
    | some z =>
    rw [hb] at hx
    cases hx
    have hlt : n < rs.length := (List.getElem?_eq_some_iff.mp hb).1
    have et : rs.take (n + 1) = rs.take n ++ [z] := by
      rw [List.take_add_one, hb]
      rfl
    obtain ⟨k2, S2, g2⟩ := S1.made nt (.tup [.int (n : Nat), .int z])
    refine ⟨_, _, rfl, SqT.of upd_same, rfl, _, _, rfl, _, _, rfl, rfl, ?_⟩
    have gF2 := k2 _ _ gF
    have gR2 := k2 _ _ gR
    generalize upd H1 t _ = H2 at k2 S2 gF2 gR2 ⊢
    obtain ⟨o, ho, eo⟩ := at_pred hlt
    refine ⟨_, rfl, .inl ⟨rfl, _, SqL.of (wo_some gF2).2.2⟩, _, rfl, _, rfl, _, rfl, _, _, rfl, rfl, R', _, _, _, rfl, rfl, SqL.of (wo_some gR2).2.2, eo, _, rfl, _, rfl, ?_⟩
    refine ⟨st, a, c1, o, z, way, N, rfl, S2, by omega, br o ho, br z (List.mem_of_getElem? hb), fun e p H3 c3 e1 e2 bd k3 w3 S3 c31 c32 => ?_⟩
    have lf : fs.length = n := by
      have := congrArg List.length ef
      simp [stps] at this
      omega
    refine ⟨F, _, _, rfl, rfl, k3.get gF2, small_lt (by rw [refs_len]; omega), ?_⟩
    have k4 := Kp.mut (o := .lst (refs fs ++ [.ref p])) (k1.trans (k2.trans k3)) nF0 F1 F2
    have S4 := S3.upd (o := .lst (refs fs ++ [.ref p])) F1 F2
    have tu : Tups (wo st a H3) (wo st a (upd H3 F (.lst (refs fs ++ [.ref p])))) := by
      rw [wo_upd F1 F2]
      exact .updL (k3 _ _ gF2)
    refine ⟨fs ++ [(p, e)], c3, k4, ?_, fun y hy => ?_, fun y hy => ?_, ?_, ?_, S4, by omega, by omega, _, _, rfl⟩
    · rw [wo_get F1 F2, upd_same]
      simp [refs]
    · rcases List.mem_append.mp hy with hy | hy
      · exact (((okf y hy).up (Tups.of k2)).up (Tups.of k3)).up tu
      · simp at hy
        subst hy
        exact w3.up tu
    · rcases List.mem_append.mp hy with hy | hy
      · exact bdf y hy
      · simp at hy
        subst hy
        exact bd
    · rw [et, ← ef, ← e2]
      simp [stps]
    · rw [wo_upd F1 F2, upd_ne RF]
      exact k3 _ _ gR2
  rintro σ H1 ⟨fs, c1, k1, gF, okf, bdf, ef, gR, S1, c11, c12, x7, x8, rfl⟩
  rw [List.length_map] at ef c12
  rw [List.take_length] at ef
  have ndf : (stps fs).Nodup := by
    have h2 : ((stps fs).map (·.t)).Nodup := by rw [ef]; exact ndr
    exact List.Pairwise.of_map _ (fun a b h z => h (by rw [z])) h2
  have lf : fs.length = rs.length := by
    have := congrArg List.length ef
    simpa [stps] using this
  clear gR ef
  refine ⟨_, rfl, _, rfl, _, rfl, F, _, rfl, .inl (SqL.of (wo_some gF).2.2), _, _, rfl, rfl, _, _, rfl, rfl, ?_⟩
  rw [refs_len]
  refine ⟨st, a, _, c1, rfl, S1, by omega, by omega, by omega, fun m H2 m1 m2 k2 S2 => ?_⟩
  refine ⟨m, rfl, by omega, by omega, ?_⟩
  refine for_range (fun i σ H1 => ∃ (fs : SL) (c' : Int), Kp st a H H1 ∧ wo st a H1 F = some (.lst (refs fs)) ∧ StepsOk (wo st a H1) fs ∧ BdS N fs ∧ (stps fs).Nodup ∧ fs.length + (m.toNat - i) ≤ 14 ∧ Strm H1 st a c' ∧ c ≤ c' ∧ c' ≤ c + 50 + 7 * i ∧
      ∃ x7 x8 x9 x10, σ = [some (.ref st), some (.int 6), some (.int 14), some (.int N), some (.int way), some (.ref F), some (.ref R'), x7, x8, x9, x10])
    ⟨fs, c1 + 1, k1.trans k2, k2 _ _ gF, okf.up (Tups.of k2), bdf, ndf, by omega, S2, by omega, by omega, _, _, _, _, rfl⟩ ?_ ?_
  · rintro i σ H1 hi ⟨fs, c1, k1, gF, okf, bdf, ndf, lf, S1, c11, c12, x7, x8, x9, x10, rfl⟩
    refine ⟨_, rfl, _, rfl, _, rfl, st, a, (N : Int), c1, rfl, S1, by omega, by omega, by omega, fun u H2 u1 u2 k2 S2 => ?_⟩
    refine ⟨_, rfl, _, rfl, st, a, (N : Int), _, rfl, S2, by omega, by omega, by omega, fun v H3 v1 v2 k3 S3 => ?_⟩
    refine ⟨_, rfl, st, a, _, u, v, way, N, rfl, S3, by omega, ⟨u1, u2⟩, ⟨v1, v2⟩, fun e p H4 c4 e1 e2 bd k4 w4 S4 c41 c42 => ?_⟩
    have gF4 := k4 _ _ (k3 _ _ (k2 _ _ gF))
    have okf4 := okf.up (Tups.of (k2.trans (k3.trans k4)))
    have k14 := k1.trans (k2.trans (k3.trans k4))
    refine ⟨_, rfl, .inl ⟨rfl, _, SqL.of (wo_some gF4).2.2⟩, _, rfl, _, rfl, sdat e, (stps fs).map sdat, dp_stp (w4.up (Tups.of wo_same)), .lst (SqL.of (wo_some gF4).2.2) (dp_stps fs (okf4.up (Tups.of wo_same))), shaped_stp e, shaped_stps _, _, rfl, ?_⟩
    rw [any_stp]
    have step : ∀ (H5 : Hp) (b : Addr) (zs : SL), Kp st a H4 H5 → Strm H5 st a c4 → wo st a H5 b = some (.lst (refs zs)) → StepsOk (wo st a H5) zs → BdS N zs → (stps (fs ++ zs)).Nodup → zs.length ≤ 1 →
        rExtend (.ref F) [.ref b] H5 fun _ H' => ∃ (fs : SL) (c' : Int), Kp st a H H' ∧ wo st a H' F = some (.lst (refs fs)) ∧ StepsOk (wo st a H') fs ∧ BdS N fs ∧ (stps fs).Nodup ∧ fs.length + (m.toNat - (i + 1)) ≤ 14 ∧ Strm H' st a c' ∧ c ≤ c' ∧ c' ≤ c + 50 + 7 * ((i + 1 : Nat) : Int) ∧
          ∃ x7' x8' x9' x10', [some (.ref st), some (.int 6), some (.int 14), some (.int N), some (.int way), some (.ref F), some (.ref R'), x7, x8, some (V.int (0 + (i : Int))), some (.ref p)] = [some (.ref st), some (.int 6), some (.int 14), some (.int N), some (.int way), some (.ref F), some (.ref R'), x7', x8', x9', x10'] := fun H5 b zs k5 S5 g5 ok5 bd5 nd5 l5 => by
      have gF5 := k5 _ _ gF4
      refine ⟨F, b, _, _, rfl, rfl, (wo_some gF5).2.2, (wo_some g5).2.2, small_line (by rw [refs_len, refs_len]; omega), ?_⟩
      have k6 := Kp.mut (o := .lst (refs fs ++ refs zs)) (k14.trans k5) nF0 F1 F2
      have tu : Tups (wo st a H5) (wo st a (upd H5 F (.lst (refs fs ++ refs zs)))) := by
        rw [wo_upd F1 F2]
        exact .updL gF5
      refine ⟨fs ++ zs, c4, k6, ?_, fun y hy => ?_, fun y hy => ?_, nd5, by rw [List.length_append]; omega, S5.upd F1 F2, by omega, by omega, _, _, _, _, rfl⟩
      · rw [wo_get F1 F2, upd_same]
        simp [refs]
      · rcases List.mem_append.mp hy with hy | hy
        · exact ((okf4 y hy).up (Tups.of k5)).up tu
        · exact (ok5 y hy).up tu
      · rcases List.mem_append.mp hy with hy | hy
        · exact bdf y hy
        · exact bd5 y hy
    refine ite2 (fun hin => ?_) (fun hin => ?_)
    · have hin : e ∉ stps fs := by simpa using hin
      refine ⟨_, rfl, (by show 1 ≤ sizeLine; decide), fun b nb => ?_⟩
      obtain ⟨k5, S5, g5⟩ := S4.made nb (.lst [.ref p])
      refine step _ b [(p, e)] k5 S5 g5 (fun y hy => ?_) (fun y hy => ?_) ?_ (by simp)
      · simp at hy
        subst hy
        exact w4.up (Tups.of k5)
      · simp at hy
        subst hy
        exact bd
      · rw [stps, List.map_append]
        exact AM.nodup_snoc ndf hin
    · refine ⟨(by show 0 ≤ sizeLine; decide), fun b nb => ?_⟩
      obtain ⟨k5, S5, g5⟩ := S4.made nb (.lst [])
      exact step _ b [] k5 S5 g5 (fun y hy => by cases hy) (fun y hy => by cases hy) (by rw [List.append_nil]; exact ndf) (by simp)
  rintro σ H3 ⟨fs, c3, k3, gF, okf, bdf, ndf, lf, S3, c31, c32, x7, x8, x9, x10, rfl⟩
  refine ⟨_, rfl, _, rfl, _, rfl, st, a, F, c3, refs fs, rfl, S3, by rw [refs_len]; omega, gF, by rw [refs_len]; omega, fun l' ys H4 pm k4 n4 g4 S4 => ?_⟩
  obtain ⟨ss, ps, rfl⟩ := perm_map (fun p : Addr × AM.Stp => V.ref p.1) pm fs rfl
  refine ⟨(by show 2 ≤ sizeLine; decide), fun p np => ?_⟩
  obtain ⟨k5, S5, g5⟩ := S4.made np (.tup [.int N, .ref l'])
  refine q p l' N ss _ _ N1 N6 (by rw [ps.length_eq]; omega) (fun z hz => bdf z (ps.mem_iff.mp hz)) ((ps.map (fun p : Addr × AM.Stp => p.2)).nodup_iff.mpr ndf) (k3.trans (k4.trans k5)) (fun z hz => ((okf z (ps.mem_iff.mp hz)).up (Tups.of k4)).up (Tups.of k5)) g5 (k5 _ _ g4) S5 (by rw [refs_len]; omega) (by rw [refs_len]; omega)
end
end Any
end
section
set_option Elab.async false
set_option linter.all false
set_option maxRecDepth 100000
set_option maxHeartbeats 4000000
namespace Any
open PySem PySem.Spec PyProof.Rows L2
theorem in_ints (x : Int) : ∀ ns : List Int, inV (.int x) (ns.map V.int) = decide (x ∈ ns)
  | [] => by simp [inV]
  | n :: r => by
    have ih := in_ints x r
    unfold inV at ih ⊢
    rw [List.map_cons, List.any_cons, ih]
    show (n == x || decide (x ∈ r)) = _
    rw [Bool.eq_iff_iff, Bool.or_eq_true, beq_iff_eq, decide_eq_true_eq, decide_eq_true_eq, List.mem_cons]
    exact ⟨fun h => h.imp Eq.symm id, fun h => h.imp Eq.symm id⟩
theorem flat_ints (ns : List Int) : (ns.map V.int).all flatV = true := by
  rw [List.all_eq_true]
  intro v hv
  obtain ⟨n, _, rfl⟩ := List.mem_map.mp hv
  rfl
theorem setI (K : PySem.W.Frag) (w : World) {X : Cx} (hc : X.calm = true := by rfl) (hK : X.K = K := by rfl) (hw : X.w = w := by rfl) : CallR X (.type "set") (rSetI K w) := by
  subst hK
  subst hw
  exact cr_setI hc
theorem sortSet (w : World) {X : Cx} (hc : X.calm = true := by rfl) (hw : X.w = w := by rfl) : CallR X (.builtin "sorted") (rSortedSet w) := by
  subst hw
  exact cr_sortedSet hc
def spReached : Sp := fun vs H Q _ => ∃ (l : Addr) (ss : SL) (place : Int), vs = [.ref l, .int place] ∧ H l = some (.lst (refs ss)) ∧ StepsOk H ss ∧ ss.length ≤ 14 ∧
  ∀ (p : Addr) (ks : List Int) H', Same H H' → H' p = some (.lst (ks.map V.int)) → (∀ k, k ∈ ks ↔ AM.Reach (stps ss) place k) → Q (.ref p) H'
def spAhead : Sp := fun vs H Q _ => ∃ (l : Addr) (ss : SL) (place : Int), vs = [.ref l, .int place] ∧ H l = some (.lst (refs ss)) ∧ StepsOk H ss ∧ ss.length ≤ 14 ∧
  ∀ p t H', Same H H' → H p = none → (∀ p ∈ ss, t p = true ↔ AM.Reach (stps ss) place p.2.s) → H' p = some (.lst (refs (ss.filter t))) → Q (.ref p) H'
def spCommon : Sp := fun vs H Q _ => ∃ a b : Int, vs = [.int a, .int b] ∧ Q (.int (Int.gcd a b : Nat)) H
def spLow : Sp := fun vs H Q _ => ∃ (a : Addr) (x y : Int), vs = [.ref a] ∧ H a = some (.tup [.int x, .int y]) ∧ 0 < y ∧ y < 1073741824 ∧
  ∀ p H', Same H H' → H' p = some (.tup [.int (AM.low x y).1, .int (AM.low x y).2]) → Q (.ref p) H'
def spLeft : Sp := fun vs H Q _ => ∃ (l pa ra : Addr) (ss : SL) (p r : Int × Int), vs = [.ref l, .ref pa, .ref ra] ∧ H l = some (.lst (refs ss)) ∧ StepsOk H ss ∧ ss.length ≤ 1000 ∧ H pa = some (.tup [.int p.1, .int p.2]) ∧ H ra = some (.tup [.int r.1, .int r.2]) ∧
  small64 p.1 ∧ small64 p.2 ∧ small64 r.1 ∧ small64 r.2 ∧ ∀ H', Same H H' → Q (.int (AM.wsum (AM.wt p r) (stps ss))) H'
section
variable {P : Program} {w : World} {K : PySem.W.Frag} {mg : Str → Option Value} {base : Heap}
theorem sc_law_reached : FnScope ["_law_steps", "_law_place", "_law_found", "_law_waiting", "_law_here", "_law_more", "_law_step_here"] ["_law_steps", "_law_place"] (defScope st_law_reached) := ⟨rfl, rfl, rfl, by decide +kernel, rfl, by decide +kernel, by decide +kernel⟩
theorem ok_law_reached (T : Txt K mg) : FnK P w K mg base CX0 1 "_law_reached" ["_law_steps", "_law_place"] spReached := by
  refine T.law_reached.ok sc_law_reached (fun vs H Q E h => ?_) (fun cdv A outer s H vs Q E hr h => ?_)
  · obtain ⟨l, ss, place, rfl, _⟩ := h
    rfl
  obtain ⟨l, ss, place, rfl, hl, ok, few, q⟩ := h
  refine ⟨_, (pss_cons (ps_asg (pe_tup (pa_cons (pe_lst (pa_cons (pv 1) pa_nil)) (pa_cons (pe_lst (pa_cons (pv 1) pa_nil)) pa_nil))) (pg_tup rfl (pgs_cons (pg_name (i := 2) sc_law_reached.nd rfl (Or.inr rfl)) (pgs_cons (pg_name (i := 3) sc_law_reached.nd rfl (Or.inl rfl)) pgs_nil))))
    (pss_cons (ps_while (passes_of rfl) (pt_cmpR (op_neD hr.units) (pv 3) (pe_lst pa_nil) (nomark _)) (pss_cons (ps_set (i := 4) sc_law_reached.nd rfl (Or.inr rfl) (pe_bm0 PySem.F.plainAttrs_list PySem.F.slot_list_pop PySem.F.type_list_pop mt_pop (pv 3)))
    (pss_cons (ps_set (i := 5) sc_law_reached.nd rfl (Or.inl rfl) (pe_callB (sortSet w) rfl T.n_sorted (by decide +kernel) (pa_cons (pe_callTy (setI K w) rfl T.n_set (by decide +kernel) (pa_cons (pe_lc (own := [("_law_step_here", 6)]) (g := gName 6) rfl sc_law_reached.nd (pi_list (pv 0)) (blkOk_by (own := [("_law_step_here", 6)]) (N := ["_law_steps", "_law_place", "_law_found", "_law_waiting", "_law_here", "_law_more", "_law_step_here"]) (sc := defScope st_law_reached) (by decide +kernel)) (fun _ _ _ _ _ => (pg_name (i := 6) sc_law_reached.nd rfl (Or.inl rfl))) (fun _ _ _ _ _ => (pts_one (PW.pt (pw_and (pt_cmpR op_eq (pe_ix (ixT K) (pv 6) pe_int (fun _ _ => rfl)) (pv 4) (nomark _)) (pw_and1 (pt_cmpR (notInS K) (pe_ix (ixT K) (pv 6) pe_int (fun _ _ => rfl)) (pv 2) (by rfl))))))) (fun _ _ _ _ _ => (pe_ix (ixT K) (pv 6) pe_int (fun _ _ => rfl)))) pa_nil)) pa_nil)))
    (pss_cons (ps_expr (pe_bm PySem.F.plainAttrs_list PySem.F.slot_list_extend PySem.F.type_list_extend mt_extend (pv 2) (pa_cons (pv 5) pa_nil)))
    (pss_one (ps_expr (pe_bm PySem.F.plainAttrs_list PySem.F.slot_list_extend PySem.F.type_list_extend mt_extend (pv 3) (pa_cons (pv 5) pa_nil))))))))
    (pss_one (ps_ret (pe_callB cr_sortedI rfl T.n_sorted (by decide +kernel) (pa_cons (pv 2) pa_nil)))))), ?_⟩
  refine ⟨_, rfl, (by show 1 ≤ sizeLine; decide), fun F nF => ⟨_, rfl, (by show 1 ≤ sizeLine; decide), fun W nW => ?_⟩⟩
  have sF := same_new nF (.lst [.int place])
  have nW0 : H W = none := not_none_same sF nW
  have sW := sF.trans (same_new nW (.lst [.int place]))
  have nFW : F ≠ W := ne_of_none (upd_same (H := H)) nW
  refine ⟨(by show 2 ≤ sizeLine; decide), fun t nt => ⟨_, _, rfl, SqT.of upd_same, rfl, _, _, rfl, _, _, rfl, rfl, ?_⟩⟩
  have s1 := sW.trans (same_new nt (.tup [.ref F, .ref W]))
  have eF1 := same_new nt (.tup [.ref F, .ref W]) _ _ (same_new nW (.lst [.int place]) _ _ (upd_same (H := H) (a := F) (o := .lst [.int place])))
  have eW1 := same_new nt (.tup [.ref F, .ref W]) _ _ (upd_same (H := upd H F (.lst [.int place])) (a := W) (o := .lst [.int place]))
  generalize upd (upd (upd H F (.lst [.int place])) W (.lst [.int place])) t (.tup [.ref F, .ref W]) = H1 at s1 eF1 eW1 ⊢
  clear sF sW
  have lss : (stps ss).length ≤ 14 := by rw [stps, List.length_map]; exact few
  refine ⟨fun m σ H2 => ∃ ks ws : List Int, Same H H2 ∧ Sr (stps ss) place ks ws (fun _ => False) ∧ m = ws.length + 2 * ((stps ss).length + 1 - ks.length) ∧ H2 F = some (.lst (ks.map V.int)) ∧ H2 W = some (.lst (ws.map V.int)) ∧
      ∃ x4 x5 x6, σ = [some (.ref l), some (.int place), some (.ref F), some (.ref W), x4, x5, x6], ⟨_, [place], [place], s1, ?_, rfl, eF1, eW1, _, _, _, rfl⟩, ?_⟩
  · exact ⟨by simp, fun k h => h, by simp, fun k h => by simp at h; subst h; exact .refl _ _, fun k h => .inl h, Nat.le_refl _⟩
  rintro m σ H2 ⟨ks, ws, s2, S, rfl, eF, eW, x4, x5, x6, rfl⟩
  have lks := S.few
  refine ⟨_, rfl, (by show 0 ≤ sizeLine; decide), fun p np => ?_⟩
  have sp := same_new np (.lst [])
  have s3 := s2.trans sp
  have eF3 := sp _ _ eF
  have eW3 := sp _ _ eW
  have ep : (upd H2 p (.lst [])) p = some (.lst []) := upd_same
  generalize upd H2 p (.lst []) = H3 at s3 eF3 eW3 ep ⊢
  refine ⟨_, _, .lst (SqL.of eW3) (dp_ints ws), .lst (SqL.of ep) .nil, shaped_list (lay_ints ws).1 (lay_ints ws).2 (by decide), shaped_nil, _, rfl, ?_⟩
  rw [eqv_nil]
  refine ite2 (fun c => ?_) (fun c => ?_)
  · have hne : ws ≠ [] := fun z => by rw [z] at c; cases c
    obtain ⟨ws0, here, rfl⟩ : ∃ ws0 here, ws = ws0 ++ [here] := ⟨ws.dropLast, ws.getLast hne, (List.dropLast_concat_getLast hne).symm⟩
    refine ⟨_, fun σ' H' h => h, ?_⟩
    have er : (ws0 ++ [here]).map V.int = ws0.map V.int ++ [.int here] := by simp
    rw [er] at eW3
    refine ⟨_, rfl, .inl ⟨rfl, _, SqL.of eW3⟩, W, _, .int here, rfl, rfl, eW3, by simp, ?_⟩
    rw [List.dropLast_concat]
    have s4 : Same H (upd H3 W (.lst (ws0.map V.int))) := Same.mut s3 nW0
    have eF4 : (upd H3 W (.lst (ws0.map V.int))) F = some (.lst (ks.map V.int)) := by
      rw [upd_ne nFW]
      exact eF3
    have eW4 : (upd H3 W (.lst (ws0.map V.int))) W = some (.lst (ws0.map V.int)) := upd_same
    generalize upd H3 W (.lst (ws0.map V.int)) = H4 at s4 eF4 eW4 ⊢
    refine ⟨_, rfl, l, rfl, ⟨_, SqL.of (s4 _ _ hl)⟩, fun D nD => ?_⟩
    refine lc_filter (bs := ss) (fun p => decide (p.2.s = here) && !decide (p.2.t ∈ ks)) (fun p => .int p.2.t) nD (SqL.of (s4 _ _ hl)) (fun _ => rfl) (small_line (by omega)) (fun b H5 hb s5 Q' q' => ?_) (fun b H5 hb _ s5 Q' q' => ?_) fun H5 s5 e5 => ?_
    · obtain ⟨bb, g1, g2⟩ := ok b hb
      have g5 := s5 _ _ (s4 _ _ g1)
      refine ⟨_, rfl, _, _, _, _, rfl, rfl, SqT.of g5, rfl, _, rfl, rfl, _, rfl, ?_⟩
      have q2 := q' H5 (Same.refl _)
      refine ite2 (fun e => ?_) (fun e => ?_)
      · refine ⟨_, rfl, _, _, _, _, rfl, rfl, SqT.of g5, rfl, _, rfl, F, _, rfl, .inl (SqL.of (s5 _ _ eF4)), rfl, flat_ints _, _, rfl, ?_⟩
        have e : b.2.s = here := V.int.inj (of_decide_eq_true e)
        rw [decide_eq_true e, Bool.true_and] at q2
        show Q' (!inV (.int b.2.t) (ks.map V.int)) H5
        rw [in_ints]
        exact q2
      · have e : ¬ b.2.s = here := fun z => e (decide_eq_true (congrArg V.int z))
        rw [decide_eq_false e, Bool.false_and] at q2
        exact q2
    · obtain ⟨bb, g1, g2⟩ := ok b hb
      exact ⟨_, rfl, _, _, _, _, rfl, rfl, SqT.of (s5 _ _ (s4 _ _ g1)), rfl, q' H5 (Same.refl _)⟩
    have em : ((ss.filter fun p => decide (p.2.s = here) && !decide (p.2.t ∈ ks)).map fun p => V.int p.2.t) = ((ss.filter fun p => decide (p.2.s = here) && !decide (p.2.t ∈ ks)).map fun p => p.2.t).map V.int := by rw [List.map_map]; rfl
    rw [em] at e5
    have hts : ∀ x, x ∈ ((ss.filter fun p => decide (p.2.s = here) && !decide (p.2.t ∈ ks)).map fun p => p.2.t) ↔ ∃ e ∈ stps ss, e.s = here ∧ e.t = x ∧ x ∉ ks := fun x => by
      rw [List.mem_map]
      constructor
      · rintro ⟨z, hz, rfl⟩
        obtain ⟨h1, h2⟩ := List.mem_filter.mp hz
        simp at h2
        exact ⟨z.2, List.mem_map.mpr ⟨z, h1, rfl⟩, h2.1, rfl, h2.2⟩
      · rintro ⟨e, he, h1, h2, h3⟩
        obtain ⟨z, hz, rfl⟩ := List.mem_map.mp he
        exact ⟨z, List.mem_filter.mpr ⟨hz, by simp [h1, h2, h3]⟩, h2⟩
    have lts : ((ss.filter fun p => decide (p.2.s = here) && !decide (p.2.t ∈ ks)).map fun p => p.2.t).length ≤ 14 := by
      rw [List.length_map]
      exact Nat.le_trans (List.length_filter_le ..) few
    generalize ((ss.filter fun p => decide (p.2.s = here) && !decide (p.2.t ∈ ks)).map fun p => p.2.t) = ts at e5 hts lts
    refine ⟨D, ts, rfl, SqL.of e5, by omega, fun p5 n5 hn5 np5 => ?_⟩
    refine ⟨p5, _, n5, rfl, upd_same, by omega, fun ms p6 pw hm lm np6 => ?_⟩
    have s6 := (same_new np5 (SetO w p5 (fun j => decide (j ∈ ts)) n5)).trans (same_new np6 (.lst (ms.map V.int)))
    have e6 : (upd (upd H5 p5 (SetO w p5 (fun j => decide (j ∈ ts)) n5)) p6 (.lst (ms.map V.int))) p6 = some (.lst (ms.map V.int)) := upd_same
    have s46 := s5.trans s6
    have nm : ms.Nodup := pw.imp fun h => by omega
    have hms : ∀ x, x ∈ ms ↔ ∃ e ∈ stps ss, e.s = here ∧ e.t = x ∧ x ∉ ks := fun x => by rw [hm, decide_eq_true_eq, hts]
    show _
    have eF6 := s46 _ _ eF4
    have eW6 := s46 _ _ eW4
    have s06 := s4.trans s46
    have n6F : F ≠ p6 := ne_of_none (same_new np5 _ _ _ (s5 _ _ eF4)) np6
    have n6W : W ≠ p6 := ne_of_none (same_new np5 _ _ _ (s5 _ _ eW4)) np6
    generalize upd (upd H5 p5 (SetO w p5 (fun j => decide (j ∈ ts)) n5)) p6 (.lst (ms.map V.int)) = H6 at e6 eF6 eW6 s06 ⊢
    have lm14 : ms.length ≤ 14 := by omega
    have l0 := S.le
    rw [List.length_append, List.length_singleton] at l0
    refine ⟨_, rfl, .inl ⟨rfl, _, SqL.of eF6⟩, _, rfl, F, p6, _, _, rfl, rfl, eF6, e6, small_line (by rw [List.length_map, List.length_map]; omega), ?_⟩
    have nF0 : H F = none := nF
    have s7 : Same H (upd H6 F (.lst (ks.map V.int ++ ms.map V.int))) := Same.mut s06 nF0
    have eW7 : (upd H6 F (.lst (ks.map V.int ++ ms.map V.int))) W = some (.lst (ws0.map V.int)) := by
      rw [upd_ne nFW.symm]
      exact eW6
    have e7 : (upd H6 F (.lst (ks.map V.int ++ ms.map V.int))) p6 = some (.lst (ms.map V.int)) := by
      rw [upd_ne n6F.symm]
      exact e6
    have eF7 : (upd H6 F (.lst (ks.map V.int ++ ms.map V.int))) F = some (.lst (ks.map V.int ++ ms.map V.int)) := upd_same
    generalize upd H6 F (.lst (ks.map V.int ++ ms.map V.int)) = H7 at s7 eW7 e7 eF7 ⊢
    refine ⟨_, rfl, .inl ⟨rfl, _, SqL.of eW7⟩, _, rfl, W, p6, _, _, rfl, rfl, eW7, e7, small_line (by rw [List.length_map, List.length_map]; omega), ?_⟩
    have mem : ∀ x ∈ ms, x ∉ ks := fun x hx => let ⟨_, _, _, _, h⟩ := (hms x).mp hx; h
    have nd' : (ks ++ ms).Nodup := List.nodup_append.mpr ⟨S.nd, nm, fun x hx y hy z => mem y hy (by rw [← z]; exact hx)⟩
    have hh : here ∈ ks := S.sub _ (by simp)
    have S7 : Sr (stps ss) place (ks ++ ms) (ws0 ++ ms) (fun _ => False) := by
      refine ⟨nd', fun k hk => ?_, List.mem_append_left _ S.fst, fun k hk => ?_, fun k hk => ?_, ?_⟩
      · rcases List.mem_append.mp hk with h | h
        · exact List.mem_append_left _ (S.sub k (List.mem_append_left _ h))
        · exact List.mem_append_right _ h
      · rcases List.mem_append.mp hk with h | h
        · exact S.rch k h
        · obtain ⟨e, he, h1, h2, _⟩ := (hms k).mp h
          rw [← h2]
          exact (h1 ▸ S.rch _ hh : AM.Reach (stps ss) place e.s).step he
      · rcases List.mem_append.mp hk with h | h
        · rcases S.cl k h with h | h | h
          · rcases List.mem_append.mp h with h | h
            · exact .inl (List.mem_append_left _ h)
            · have hk : k = here := by simpa using h
              refine .inr (.inr fun e he z => ?_)
              by_cases ht : e.t ∈ ks
              · exact List.mem_append_left _ ht
              · exact List.mem_append_right _ ((hms _).mpr ⟨e, he, by rw [z, hk], rfl, ht⟩)
          · exact h.elim
          · exact .inr (.inr fun e he z => List.mem_append_left _ (h e he z))
        · exact .inl (List.mem_append_right _ h)
      · rw [List.length_append, List.length_append]
        omega
    have l7 := S7.few
    refine ⟨_, ?_, ks ++ ms, ws0 ++ ms, Same.mut s7 nW0, S7, rfl, ?_, ?_, _, _, _, rfl⟩
    · simp only [List.length_append, List.length_singleton] at l7 ⊢
      omega
    · rw [upd_ne nFW, eF7, List.map_append]
    · rw [upd_same, List.map_append]
  · have hnil : ws = [] := by
      cases ws with
      | nil => rfl
      | cons a r => exact absurd rfl c
    subst hnil
    refine ⟨_, rfl, F, ks, rfl, SqL.of eF3, fun ks' p2 pm _ np2 => ?_⟩
    refine q p2 ks' _ (s3.trans (same_new np2 _)) upd_same fun k => ?_
    rw [pm.mem_iff]
    refine ⟨S.rch k, fun r => r.ind (P := fun v => v ∈ ks) S.fst fun e he hs => ?_⟩
    rcases S.cl _ hs with h | h | h
    · cases h
    · exact h.elim
    · exact h e he rfl
theorem sc_law_ahead : FnScope ["_law_steps", "_law_place", "_law_known", "_law_step_here"] ["_law_steps", "_law_place"] (defScope st_law_ahead) := ⟨rfl, rfl, rfl, by decide +kernel, rfl, by decide +kernel, by decide +kernel⟩
theorem ok_law_ahead (T : Txt K mg) : FnK P w K mg base CX0 2 "_law_ahead" ["_law_steps", "_law_place"] spAhead := by
  refine T.law_ahead.ok sc_law_ahead (fun vs H Q E h => ?_) (fun cdv A outer s H vs Q E hr h => ?_)
  · obtain ⟨l, ss, place, rfl, _⟩ := h
    rfl
  obtain ⟨l, ss, place, rfl, hl, ok, few, q⟩ := h
  refine ⟨_, (pss_cons (ps_set (i := 2) sc_law_ahead.nd rfl (Or.inr rfl) (pe_f T.law_reached (ok_law_reached T) hr pass0 (pa_cons (pv 0) (pa_cons (pv 1) pa_nil))))
    (pss_one (ps_ret (pe_lc (own := [("_law_step_here", 3)]) (g := gName 3) rfl sc_law_ahead.nd (pi_list (pv 0)) (blkOk_by (own := [("_law_step_here", 3)]) (N := ["_law_steps", "_law_place", "_law_known", "_law_step_here"]) (sc := defScope st_law_ahead) (by decide +kernel)) (fun _ _ _ _ _ => (pg_name (i := 3) sc_law_ahead.nd rfl (Or.inl rfl))) (fun _ _ _ _ _ => (pts_one (pt_cmpR (inS K) (pe_ix (ixT K) (pv 3) pe_int (fun _ _ => rfl)) (pv 2) (by rfl)))) (fun _ _ _ _ _ => (pv 3)))))), ?_⟩
  refine ⟨_, rfl, _, rfl, l, ss, place, rfl, hl, ok, few, fun F ks H1 s1 eF hks => ?_⟩
  refine ⟨_, rfl, l, rfl, ⟨_, SqL.of (s1 _ _ hl)⟩, fun D nD => ?_⟩
  refine lc_filter (bs := ss) (fun p => decide (p.2.s ∈ ks)) (fun p => .ref p.1) nD (SqL.of (s1 _ _ hl)) (fun _ => rfl) (small_line (by omega)) (fun p H2 hp s2 Q' q' => ?_) (fun p H2 hp hc s2 Q' q' => ?_) fun H2 s2 e2 => ?_
  · obtain ⟨b, g1, g2⟩ := ok p hp
    refine ⟨_, rfl, _, _, _, _, rfl, rfl, SqT.of (s2 _ _ (s1 _ _ g1)), rfl, _, rfl, F, _, rfl, .inl (SqL.of (s2 _ _ eF)), rfl, flat_ints _, _, rfl, ?_⟩
    show Q' (inV (.int p.2.s) (ks.map V.int)) H2
    rw [in_ints]
    exact q' H2 (Same.refl _)
  · exact ⟨_, rfl, q' H2 (Same.refl _)⟩
  · exact q D _ H2 (s1.trans s2) (not_none_same s1 nD) (fun p hp => by rw [decide_eq_true_eq]; exact hks _) e2
theorem sc_law_sum : FnScope ["_law_walk", "_law_first", "_law_second", "_law_step_here"] ["_law_walk"] (defScope st_law_sum) := ⟨rfl, rfl, rfl, by decide +kernel, rfl, by decide +kernel, by decide +kernel⟩
theorem ok_law_sum (T : Txt K mg) : FnK P w K mg base CX0 1 "_law_sum" ["_law_walk"] spSums := by
  refine T.law_sum.ok sc_law_sum (fun vs H Q E h => ?_) (fun cdv A outer s H vs Q E hr h => ?_)
  · obtain ⟨l, ss, rfl, _⟩ := h
    rfl
  obtain ⟨l, ss, rfl, hl, ok, few, q⟩ := h
  refine ⟨_, (pss_cons (ps_par (i := 1) (j := 2) (by rfl) sc_law_sum.nd rfl rfl (by decide) rfl rfl (pa_cons (pe_callB (cr_sum rfl) rfl T.n_sum (by decide +kernel) (pa_cons (pe_lc (own := [("_law_step_here", 3)]) (g := gName 3) rfl sc_law_sum.nd (pi_list (pv 0)) (blkOk_by (own := [("_law_step_here", 3)]) (N := ["_law_walk", "_law_first", "_law_second", "_law_step_here"]) (sc := defScope st_law_sum) (by decide +kernel)) (fun _ _ _ _ _ => (pg_name (i := 3) sc_law_sum.nd rfl (Or.inl rfl))) (fun _ _ _ _ _ => pts_nil) (fun _ _ _ _ _ => (pe_ix (ixT K) (pe_ix (ixT K) (pv 3) pe_int (fun _ _ => rfl)) pe_int (fun _ _ => rfl)))) pa_nil)) (pa_cons (pe_callB (cr_sum rfl) rfl T.n_sum (by decide +kernel) (pa_cons (pe_lc (own := [("_law_step_here", 3)]) (g := gName 3) rfl sc_law_sum.nd (pi_list (pv 0)) (blkOk_by (own := [("_law_step_here", 3)]) (N := ["_law_walk", "_law_first", "_law_second", "_law_step_here"]) (sc := defScope st_law_sum) (by decide +kernel)) (fun _ _ _ _ _ => (pg_name (i := 3) sc_law_sum.nd rfl (Or.inl rfl))) (fun _ _ _ _ _ => pts_nil) (fun _ _ _ _ _ => (pe_ix (ixT K) (pe_ix (ixT K) (pv 3) pe_int (fun _ _ => rfl)) pe_int (fun _ _ => rfl)))) pa_nil)) pa_nil)) (by rfl))
    (pss_one (ps_ret (pe_tup (pa_cons (pe_tup (pa_cons (pv 1) (pa_cons (pv 2) pa_nil))) (pa_cons (pe_callB (cr_sum rfl) rfl T.n_sum (by decide +kernel) (pa_cons (pe_lc (own := [("_law_step_here", 3)]) (g := gName 3) rfl sc_law_sum.nd (pi_list (pv 0)) (blkOk_by (own := [("_law_step_here", 3)]) (N := ["_law_walk", "_law_first", "_law_second", "_law_step_here"]) (sc := defScope st_law_sum) (by decide +kernel)) (fun _ _ _ _ _ => (pg_name (i := 3) sc_law_sum.nd rfl (Or.inl rfl))) (fun _ _ _ _ _ => pts_nil) (fun _ _ _ _ _ => (pe_ix (ixT K) (pv 3) pe_int (fun _ _ => rfl)))) pa_nil)) (pa_cons (pe_callB (cr_sum rfl) rfl T.n_sum (by decide +kernel) (pa_cons (pe_lc (own := [("_law_step_here", 3)]) (g := gName 3) rfl sc_law_sum.nd (pi_list (pv 0)) (blkOk_by (own := [("_law_step_here", 3)]) (N := ["_law_walk", "_law_first", "_law_second", "_law_step_here"]) (sc := defScope st_law_sum) (by decide +kernel)) (fun _ _ _ _ _ => (pg_name (i := 3) sc_law_sum.nd rfl (Or.inl rfl))) (fun _ _ _ _ _ => pts_nil) (fun _ _ _ _ _ => (pe_ix (ixT K) (pv 3) pe_int (fun _ _ => rfl)))) pa_nil)) pa_nil))))))), ?_⟩
  have few' := small_line (show ss.length ≤ 1000000 by omega)
  have mm : ∀ f : AM.Stp → Int, (ss.map fun p => V.int (f p.2)) = (ss.map fun p => f p.2).map V.int := fun f => by rw [List.map_map]; rfl
  refine ⟨_, rfl, _, rfl, ⟨_, SqL.of hl⟩, fun D1 n1 => lc_map (bs := ss) (fun p => .int p.2.x) n1 (SqL.of hl) (fun _ => rfl) few' (fun p H' hp s1 Q' q' => ?_) fun H1 s1 e1 => ?_⟩
  · obtain ⟨b, h1, h2⟩ := ok p hp
    exact ⟨_, rfl, _, _, _, _, rfl, rfl, SqT.of (s1 _ _ h1), rfl, _, _, _, _, rfl, rfl, SqT.of (s1 _ _ h2), rfl, q' H' (Same.refl _)⟩
  rw [mm] at e1
  refine ⟨D1, _, rfl, SqL.of e1, ?_⟩
  refine ⟨_, rfl, _, rfl, ⟨_, SqL.of (s1 _ _ hl)⟩, fun D2 n2 => lc_map (bs := ss) (fun p => .int p.2.y) n2 (SqL.of (s1 _ _ hl)) (fun _ => rfl) few' (fun p H' hp s2 Q' q' => ?_) fun H2 s2 e2 => ?_⟩
  · obtain ⟨b, h1, h2⟩ := ok p hp
    have s12 := s1.trans s2
    exact ⟨_, rfl, _, _, _, _, rfl, rfl, SqT.of (s12 _ _ h1), rfl, _, _, _, _, rfl, rfl, SqT.of (s12 _ _ h2), rfl, q' H' (Same.refl _)⟩
  have s12 := s1.trans s2
  rw [mm] at e2
  refine ⟨D2, _, rfl, SqL.of e2, _, _, rfl, ?_⟩
  refine ⟨_, rfl, _, rfl, (by show 2 ≤ sizeLine; decide), fun q1 nq1 => ?_⟩
  have s13 := s12.trans (same_new nq1 (.tup [.int (ss.map fun p => p.2.x).sum, .int (ss.map fun p => p.2.y).sum]))
  refine ⟨_, rfl, _, rfl, ⟨_, SqL.of (s13 _ _ hl)⟩, fun D3 n3 => lc_map (bs := ss) (fun p => .int p.2.k) n3 (SqL.of (s13 _ _ hl)) (fun _ => rfl) few' (fun p H' hp s4 Q' q' => ?_) fun H4 s4 e4 => ?_⟩
  · obtain ⟨b, h1, h2⟩ := ok p hp
    have s14 := s13.trans s4
    exact ⟨_, rfl, _, _, _, _, rfl, rfl, SqT.of (s14 _ _ h1), rfl, q' H' (Same.refl _)⟩
  have s14 := s13.trans s4
  rw [mm] at e4
  refine ⟨D3, _, rfl, SqL.of e4, ?_⟩
  refine ⟨_, rfl, _, rfl, ⟨_, SqL.of (s14 _ _ hl)⟩, fun D4 n4 => lc_map (bs := ss) (fun p => .int p.2.c) n4 (SqL.of (s14 _ _ hl)) (fun _ => rfl) few' (fun p H' hp s5 Q' q' => ?_) fun H5 s5 e5 => ?_⟩
  · obtain ⟨b, h1, h2⟩ := ok p hp
    have s15 := s14.trans s5
    exact ⟨_, rfl, _, _, _, _, rfl, rfl, SqT.of (s15 _ _ h1), rfl, q' H' (Same.refl _)⟩
  have s15 := s14.trans s5
  rw [mm] at e5
  refine ⟨D4, _, rfl, SqL.of e5, ?_⟩
  refine ⟨(by show 3 ≤ sizeLine; decide), fun p1 np1 => ?_⟩
  have s16 := s15.trans (same_new np1 (.tup [.ref q1, .int (ss.map fun p => p.2.k).sum, .int (ss.map fun p => p.2.c).sum]))
  refine q p1 q1 _ s16 ?_ ?_
  · rw [← sum_map, ← sum_map]
    exact upd_same
  · rw [← sum_map, ← sum_map, upd_ne (ne_of_none (s5 _ _ (s4 _ _ upd_same)) np1)]
    exact s5 _ _ (s4 _ _ upd_same)
theorem sc_law_common : FnScope ["_law_one", "_law_other"] ["_law_one", "_law_other"] (defScope st_law_common) := ⟨rfl, rfl, rfl, by decide +kernel, rfl, by decide +kernel, by decide +kernel⟩
theorem abs_nat (i : Int) : (if i < 0 then -i else i) = (i.natAbs : Int) := by split <;> omega
theorem ok_law_common (T : Txt K mg) : FnK P w K mg base CX0 1 "_law_common" ["_law_one", "_law_other"] spCommon := by
  refine T.law_common.ok sc_law_common (fun vs H Q E h => ?_) (fun cdv A outer s H vs Q E hr h => ?_)
  · obtain ⟨a, b, rfl, _⟩ := h
    rfl
  obtain ⟨a, b, rfl, q⟩ := h
  refine ⟨_, (pss_cons (ps_par (i := 0) (j := 1) (by rfl) sc_law_common.nd rfl rfl (by decide) rfl rfl (pa_cons (pe_callB call_abs rfl T.n_abs (by decide +kernel) (pa_cons (pv 0) pa_nil)) (pa_cons (pe_callB call_abs rfl T.n_abs (by decide +kernel) (pa_cons (pv 1) pa_nil)) pa_nil)) (by rfl))
    (pss_cons (ps_while (passes_of rfl) (pt_cmpR op_gt (pv 1) pe_int (nomark _)) (pss_one (ps_par (i := 0) (j := 1) (by rfl) sc_law_common.nd rfl rfl (by decide) rfl rfl (pa_cons (pv 1) (pa_cons (pe_op op_mod (pv 0) (pv 1)) pa_nil)) (by rfl))))
    (pss_one (ps_ret (pv 0))))), ?_⟩
  refine ⟨_, rfl, _, rfl, _, rfl, _, rfl, _, _, rfl, ?_⟩
  refine ⟨fun k σ H1 => H1 = H ∧ ∃ x y : Nat, k = y ∧ Nat.gcd x y = Int.gcd a b ∧ σ = [some (.int (x : Int)), some (.int (y : Int))], ⟨_, rfl, a.natAbs, b.natAbs, rfl, rfl, ?_⟩, ?_⟩
  · rw [← abs_nat, ← abs_nat]
    rfl
  rintro k σ H1 ⟨rfl, x, y, rfl, e, rfl⟩
  refine ⟨_, rfl, _, _, rfl, rfl, _, rfl, ite2 (fun c => ?_) (fun c => ?_)⟩
  · have c : 0 < (k : Int) := of_decide_eq_true c
    refine ⟨_, fun σ' H' h => h, ?_⟩
    refine ⟨_, rfl, _, rfl, _, rfl, _, _, rfl, rfl, c, _, _, rfl, ?_⟩
    refine ⟨x % k, Nat.mod_lt _ (by omega), rfl, k, x % k, rfl, ?_, ?_⟩
    · rw [← e, Nat.gcd_comm k, ← Nat.gcd_rec, Nat.gcd_comm]
    · rw [Int.natCast_emod]
      rfl
  · have : ¬ (0 < (k : Int)) := fun z => c (decide_eq_true z)
    have k0 : k = 0 := by omega
    subst k0
    rw [Nat.gcd_zero_right] at e
    rw [← e] at q
    exact ⟨_, rfl, q⟩
theorem sc_law_low : FnScope ["_law_numbers", "_law_common_here", "_law_number"] ["_law_numbers"] (defScope st_law_low) := ⟨rfl, rfl, rfl, by decide +kernel, rfl, by decide +kernel, by decide +kernel⟩
theorem ok_law_low (T : Txt K mg) : FnK P w K mg base CX0 2 "_law_low" ["_law_numbers"] spLow := by
  refine T.law_low.ok sc_law_low (fun vs H Q E h => ?_) (fun cdv A outer s H vs Q E hr h => ?_)
  · obtain ⟨a, x, y, rfl, _⟩ := h
    rfl
  obtain ⟨a, x, y, rfl, ha, h1, h2, q⟩ := h
  refine ⟨_, (pss_cons (ps_set (i := 1) sc_law_low.nd rfl (Or.inr rfl) pe_int)
    (pss_cons (ps_for (passes_of rfl) rfl (pi_tup (pv 0)) (pg_name (i := 2) sc_law_low.nd rfl (Or.inl rfl)) (pss_one (ps_set (i := 1) sc_law_low.nd rfl (Or.inr rfl) (pe_f T.law_common (ok_law_common T) hr pass0 (pa_cons (pv 1) (pa_cons (pv 2) pa_nil))))))
    (pss_one (ps_ret (pe_callTy call_tuple_of rfl T.n_tuple (by decide +kernel) (pa_cons (pe_lc (own := [("_law_number", 2)]) (g := gName 2) rfl sc_law_low.nd (pi_tup (pv 0)) (blkOk_by (own := [("_law_number", 2)]) (N := ["_law_numbers", "_law_common_here", "_law_number"]) (sc := defScope st_law_low) (by decide +kernel)) (fun _ _ _ _ _ => (pg_name (i := 2) sc_law_low.nd rfl (Or.inl rfl))) (fun _ _ _ _ _ => pts_nil) (fun _ _ _ _ _ => (pe_op op_fdiv (pv 2) (pv 1)))) pa_nil)))))), ?_⟩
  refine ⟨_, rfl, a, rfl, ⟨_, SqT.of ha⟩, ?_⟩
  refine for_tup (xs := [.int x, .int y]) (fun i σ H1 => H1 = H ∧ (∃ x2, σ = [some (.ref a), some (.int (if i = 0 then 0 else if i = 1 then (Int.gcd 0 x : Nat) else (Int.gcd ((Int.gcd 0 x : Nat) : Int) y : Nat))), x2])) ⟨rfl, none, rfl⟩ (fun i σ H1 _ p => by rw [p.1]; exact SqT.of ha) ?_ ?_
  · rintro i v σ H1 hv ⟨rfl, x2, rfl⟩
    match i, hv with
    | 0, hv =>
      cases hv
      exact ⟨_, rfl, _, rfl, _, _, rfl, rfl, _, rfl⟩
    | 1, hv =>
      cases hv
      exact ⟨_, rfl, _, rfl, _, _, rfl, rfl, _, rfl⟩
    | n + 2, hv => simp at hv
  · rintro σ H1 ⟨rfl, x2, rfl⟩
    have eg : Int.gcd ((Int.gcd 0 x : Nat) : Int) y = Int.gcd x y := by
      rw [Int.zero_gcd]
      show Nat.gcd _ _ = Nat.gcd _ _
      rw [Int.natAbs_natCast]
    have g1 := AM.gcd_pos (a := x) h1
    have g2 : ((Int.gcd x y : Nat) : Int) ≤ y := Int.gcd_le_right x h1
    refine ⟨_, rfl, a, rfl, ⟨_, SqT.of ha⟩, fun D nD => ?_⟩
    refine lc_relT (xs := [.int x, .int y]) (fun n v _ => ([V.int (AM.low x y).1, V.int (AM.low x y).2])[n]? = some v) (fun _ _ _ _ _ h => h) nD ha (fun _ => rfl) (by show 2 ≤ sizeLine; decide) (fun n v H2 hx s2 Q' q' => ?_) fun ys H2 s2 e2 len hy => ?_
    · match n, hx with
      | 0, hx =>
        cases hx
        refine ⟨_, rfl, _, rfl, _, _, rfl, rfl, ?_, q' _ H2 (Same.refl _) ?_⟩
        · show 0 < ((Int.gcd ((Int.gcd 0 x : Nat) : Int) y : Nat) : Int) ∧ ((Int.gcd ((Int.gcd 0 x : Nat) : Int) y : Nat) : Int) < 1073741824
          rw [eg]
          exact ⟨g1, by omega⟩
        · show some (V.int (x / (Int.gcd x y : Int))) = some (V.int (x / ((Int.gcd ((Int.gcd 0 x : Nat) : Int) y : Nat) : Int)))
          rw [eg]
      | 1, hx =>
        cases hx
        refine ⟨_, rfl, _, rfl, _, _, rfl, rfl, ?_, q' _ H2 (Same.refl _) ?_⟩
        · show 0 < ((Int.gcd ((Int.gcd 0 x : Nat) : Int) y : Nat) : Int) ∧ ((Int.gcd ((Int.gcd 0 x : Nat) : Int) y : Nat) : Int) < 1073741824
          rw [eg]
          exact ⟨g1, by omega⟩
        · show some (V.int (y / (Int.gcd x y : Int))) = some (V.int (y / ((Int.gcd ((Int.gcd 0 x : Nat) : Int) y : Nat) : Int)))
          rw [eg]
      | n + 2, hx => simp at hx
    · have : ys = [.int (AM.low x y).1, .int (AM.low x y).2] := by
        match ys, len with
        | [u, v], _ =>
          have h0 := hy 0 u rfl
          have h1 := hy 1 v rfl
          simp at h0 h1
          rw [h0, h1]
      subst this
      exact ⟨_, _, rfl, .inl ⟨SqL.of e2, fun c nc => q c _ (s2.trans (same_new nc _)) upd_same⟩⟩
theorem sc_law_cost : FnScope ["_law_prices", "_law_amounts_here"] ["_law_prices", "_law_amounts_here"] (defScope st_law_cost) := ⟨rfl, rfl, rfl, by decide +kernel, rfl, by decide +kernel, by decide +kernel⟩
theorem ok_law_cost (T : Txt K mg) : FnK P w K mg base CX0 1 "_law_cost" ["_law_prices", "_law_amounts_here"] (spCostOf K) := by
  refine T.law_cost.ok sc_law_cost (fun vs H Q E h => ?_) (fun cdv A outer s H vs Q E hr h => ?_)
  · obtain ⟨a, b, p, q, x, y, rfl, _⟩ := h
    rfl
  obtain ⟨a, b, p, q, x, y, rfl, h1, h2, hp, hq, k⟩ := h
  refine ⟨_, (pss_one (ps_ret (pe_op op_add (pe_op op_mul (pe_ix ix_tup (pv 0) pe_int (fun _ _ => rfl)) (pe_ix ix_tup (pv 1) pe_int (fun _ _ => rfl))) (pe_op op_mul (pe_ix ix_tup (pv 0) pe_int (fun _ _ => rfl)) (pe_ix ix_tup (pv 1) pe_int (fun _ _ => rfl)))))), ?_⟩
  refine ⟨_, rfl, _, _, _, _, rfl, rfl, SqT.of h1, rfl, _, rfl, _, _, _, _, rfl, rfl, SqT.of h2, rfl, _, _, rfl, rfl, .inl hp, ?_⟩
  refine ⟨_, rfl, _, _, _, _, rfl, rfl, SqT.of h1, rfl, _, rfl, _, _, _, _, rfl, rfl, SqT.of h2, rfl, _, _, rfl, rfl, .inl hq, ?_⟩
  exact ⟨_, _, rfl, rfl, k⟩
theorem sc_law_left : FnScope ["_law_walk", "_law_prices", "_law_rate", "_law_amounts_here", "_law_ticks", "_law_change"] ["_law_walk", "_law_prices", "_law_rate"] (defScope st_law_left) := ⟨rfl, rfl, rfl, by decide +kernel, rfl, by decide +kernel, by decide +kernel⟩
theorem ok_law_left (T : Txt K mg) : FnK P w K mg base CX0 2 "_law_left" ["_law_walk", "_law_prices", "_law_rate"] spLeft := by
  refine T.law_left.ok sc_law_left (fun vs H Q E h => ?_) (fun cdv A outer s H vs Q E hr h => ?_)
  · obtain ⟨l, pa, ra, ss, p, r, rfl, _⟩ := h
    rfl
  obtain ⟨l, pa, ra, ss, p, r, rfl, hl, ok, few, hpa, hra, p1, p2, r1, r2, q⟩ := h
  refine ⟨_, (pss_cons (ps_asg (pe_f T.law_sum (ok_law_sum T) hr pass0 (pa_cons (pv 0) pa_nil)) (pg_tup rfl (pgs_cons (pg_name (i := 3) sc_law_left.nd rfl (Or.inl rfl)) (pgs_cons (pg_name (i := 4) sc_law_left.nd rfl (Or.inl rfl)) (pgs_cons (pg_name (i := 5) sc_law_left.nd rfl (Or.inl rfl)) pgs_nil)))))
    (pss_one (ps_ret (pe_op op_sub (pe_op op_mul (pe_ix ix_tup (pv 2) pe_int (fun _ _ => rfl)) (pe_f T.law_cost (ok_law_cost T) hr pass0 (pa_cons (pv 1) (pa_cons (pv 3) pa_nil)))) (pe_op op_mul (pe_ix ix_tup (pv 2) pe_int (fun _ _ => rfl)) (pv 4)))))), ?_⟩
  refine ⟨_, rfl, l, ss, rfl, hl, ok, few, fun u v H1 s1 eu ev => ?_⟩
  refine ⟨_, _, rfl, SqT.of eu, rfl, _, _, rfl, _, _, rfl, _, _, rfl, rfl, ?_⟩
  refine ⟨_, rfl, _, _, _, _, rfl, rfl, SqT.of (s1 _ _ hra), rfl, _, rfl, _, rfl, pa, v, p.1, p.2, _, _, rfl, s1 _ _ hpa, ev, p1, p2, ?_⟩
  refine ⟨_, _, rfl, rfl, .inl r2, ?_⟩
  refine ⟨_, rfl, _, _, _, _, rfl, rfl, SqT.of (s1 _ _ hra), rfl, _, rfl, _, _, rfl, rfl, .inl r1, _, _, rfl, rfl, ?_⟩
  have := q H1 s1
  rw [AM.wsum_wt, AM.cst_sum] at this
  exact this
end
end Any
end
section
set_option Elab.async false
set_option linter.all false
set_option maxRecDepth 100000
set_option maxHeartbeats 4000000
namespace Any
open PySem PySem.Spec PyProof.Rows L2
/-- the data that pass a test, a new object of each -/
theorem lc_made {K : PySem.W.Frag} {a : Addr} {te : TE} {vs : List Nat} {σ : L2.St} {H : Hp} {D : Addr} {Qd : Hp → Prop} {i : Nat} {β : Type} {bs : List β} {g : β → V} {tt : TT} (t : β → Bool) (Φ : Addr → β → Hp → Prop)
    (hΦ : ∀ p b H1 H2, (∀ c o, c ≠ D → H1 c = some o → H2 c = some o) → Φ p b H1 → Φ p b H2) (hD : H D = none) (ha : SqL K H a (bs.map g)) (hw : ∀ x, wipe ((wipe σ vs).set i (some x)) vs = wipe σ vs) (hz : bs.length ≤ sizeLine)
    (ht : ∀ b H', b ∈ bs → Same H H' → ∀ Q : Bool → Hp → Prop, (∀ H2, Same H' H2 → Q (t b) H2) → tt ((wipe σ vs).set i (some (g b))) H' Q)
    (he : ∀ b H', b ∈ bs → t b = true → Same H H' → H' D ≠ none → ∀ Q : VK, (∀ p H2, Same H' H2 → Φ p b H2 → Q (.ref p) H2) → te ((wipe σ vs).set i (some (g b))) H' Q)
    (hd : ∀ (qs : List (Addr × β)) H', Same H H' → H' D = some (.lst (qs.map fun q => V.ref q.1)) → qs.map (·.2) = bs.filter t → (∀ q ∈ qs, Φ q.1 q.2 H') → Qd H') :
    ∃ W : Nat → Nat → Hp → Prop, (∃ m, W 0 m (upd H D (.lst []))) ∧ ∀ i_1 m H_1, W i_1 m H_1 →
      ((Itl K a).stop i_1 H_1 ∧ Qd H_1) ∨ ((Itl K a).go i_1 H_1 ∧ ∃ Nx : Hp → Prop, (∀ H', Nx H' → ∃ m', m' < m ∧ W (i_1 + 1) m' H') ∧ ∀ x H', (Itl K a).yld i_1 H_1 x H' → gName i x (wipe σ vs) H' fun σ2 H2 => wipe σ2 vs = wipe σ vs ∧ tt σ2 H2 fun b H3 =>
        if b = true then te σ2 H3 fun y H4 => ∃ acc, H4 D = some (.lst acc) ∧ acc.length < sizeLine ∧ Nx (upd H4 D (.lst (acc ++ [y]))) else Nx H3) := by
  have bt : ∀ {H1 H2 : Hp}, Same H1 H2 → ∀ c o, c ≠ D → H1 c = some o → H2 c = some o := fun s c o _ h => s _ _ h
  refine lc_list (K := K) (a := a) (xs := bs.map g) (fun n H' => Same H H' ∧ n ≤ bs.length ∧ ∃ qs : List (Addr × β), H' D = some (.lst (qs.map fun q => V.ref q.1)) ∧ qs.map (·.2) = (bs.take n).filter t ∧ ∀ q ∈ qs, Φ q.1 q.2 H')
    ⟨same_new hD _, Nat.zero_le _, [], upd_same, by simp, fun q hq => by cases hq⟩ (fun n H' _ p => p.1.seq ha) ?_ ?_
  · rintro n x H' hx ⟨s1, h3, qs, h1, h4, h5⟩
    refine ⟨hw x, ?_⟩
    rw [List.getElem?_map] at hx
    cases hb : bs[n]? with
    | none => rw [hb] at hx; cases hx
    | some b =>
    rw [hb] at hx
    cases hx
    have hlt : n < bs.length := (List.getElem?_eq_some_iff.mp hb).1
    have etake : bs.take (n + 1) = bs.take n ++ [b] := by
      rw [List.take_add_one, hb]
      rfl
    refine ht b H' (List.mem_of_getElem? hb) s1 _ fun H2 s2 => ?_
    refine ite2 (fun c => ?_) (fun c => ?_)
    · refine he b H2 (List.mem_of_getElem? hb) c (s1.trans s2) (by rw [s2 _ _ h1]; simp) _ fun p H3 s3 hp => ?_
      have s23 := s2.trans s3
      refine ⟨_, s23 _ _ h1, ?_, Same.mut (Same.trans s1 s23) hD, hlt, qs ++ [(p, b)], ?_, ?_, fun q hq => ?_⟩
      · have e := congrArg List.length h4
        have := List.length_filter_le t (bs.take n)
        rw [List.length_take] at this
        rw [List.length_map] at e ⊢
        omega
      · rw [upd_same, List.map_append]
        rfl
      · rw [etake, List.filter_append, List.map_append, h4]
        simp [c]
      · have up : ∀ c o, c ≠ D → H3 c = some o → (upd H3 D (.lst (qs.map (fun q => V.ref q.1) ++ [.ref p]))) c = some o := fun c o n h => by
          rw [upd_ne n]
          exact h
        rcases List.mem_append.mp hq with hq | hq
        · exact hΦ _ _ _ _ up (hΦ _ _ _ _ (bt s23) (h5 q hq))
        · simp at hq
          subst hq
          exact hΦ _ _ _ _ up hp
    · refine ⟨s1.trans s2, hlt, qs, s2 _ _ h1, ?_, fun q hq => hΦ _ _ _ _ (bt s2) (h5 q hq)⟩
      rw [h4, etake, List.filter_append]
      simp [c]
  · rintro H' ⟨s1, _, qs, h1, h4, h5⟩
    rw [List.length_map, List.take_length] at h4
    exact hd qs H' s1 h1 h4 h5
theorem at_last {α : Type} (xs : List α) (x : α) : atI (xs ++ [x]) (-1) = some x := by
  unfold atI ixN
  rw [if_neg (by decide), if_pos (by simp; omega)]
  have e : ((-1 : Int) + ((xs ++ [x]).length : Nat)).toNat = xs.length := by
    simp
    omega
  rw [Option.bind_some, e]
  simp
/-! ### walks as lists -/
structure DWy (H : Hp) (F W : Addr) (b : Int) (ss : SL) (p : Addr × SL) : Prop where
  nF : p.1 ≠ F
  nW : p.1 ≠ W
  at_ : H p.1 = some (.lst (refs p.2))
  sub : ∀ z ∈ p.2, z ∈ ss
  sim : AM.Simple b (stps p.2)
  walk : ∃ v, AM.IsWalk b (stps p.2) v
theorem DWy.up {H H' : Hp} {F W : Addr} {b : Int} {ss : SL} {p : Addr × SL} (h : DWy H F W b ss p) (s : Same H H') : DWy H' F W b ss p := ⟨h.nF, h.nW, s _ _ h.at_, h.sub, h.sim, h.walk⟩
theorem DWy.updF {H : Hp} {F W : Addr} {b : Int} {ss : SL} {p : Addr × SL} {o : HO} (h : DWy H F W b ss p) : DWy (upd H F o) F W b ss p := ⟨h.nF, h.nW, by rw [upd_ne h.nF]; exact h.at_, h.sub, h.sim, h.walk⟩
theorem DWy.updW {H : Hp} {F W : Addr} {b : Int} {ss : SL} {p : Addr × SL} {o : HO} (h : DWy H F W b ss p) : DWy (upd H W o) F W b ss p := ⟨h.nF, h.nW, by rw [upd_ne h.nW]; exact h.at_, h.sub, h.sim, h.walk⟩
theorem simple_len {N : Nat} {b : Int} {ss w : SL} (hb : 0 ≤ b ∧ b < (N : Int)) (bd : BdS N ss) (sub : ∀ z ∈ w, z ∈ ss) (h : AM.Simple b (stps w)) : w.length + 1 ≤ N := by
  have h1 := len_sub (m := (List.range N).map fun i : Nat => (i : Int)) h (fun x hx => ?_)
  · rw [AM.len_nodes, List.length_map, List.length_range, stps, List.length_map] at h1
    exact h1
  · have key : 0 ≤ x ∧ x < (N : Int) := by
      unfold AM.nodes at hx
      rcases List.mem_cons.mp hx with e | hx
      · rw [e]
        exact hb
      · obtain ⟨e, he, rfl⟩ := List.mem_map.mp hx
        obtain ⟨z, hz, rfl⟩ := List.mem_map.mp he
        exact (bd z (sub z hz)).t
    exact List.mem_map.mpr ⟨x.toNat, List.mem_range.mpr (by omega), by omega⟩
def spSimple : Sp := fun vs H Q _ => ∃ (l : Addr) (ss : SL) (b : Int) (N : Nat), vs = [.ref l, .int b] ∧ H l = some (.lst (refs ss)) ∧ StepsOk H ss ∧ BdS N ss ∧ N ≤ 6 ∧ (0 ≤ b ∧ b < (N : Int)) ∧ ss.length ≤ 14 ∧
  ∀ F (fs : List (Addr × SL)) H', Same H H' → H' F = some (.lst (fs.map fun p => V.ref p.1)) → fs.length ≤ 16000000 → (∀ p ∈ fs, H' p.1 = some (.lst (refs p.2)) ∧ (∀ z ∈ p.2, z ∈ ss) ∧ p.2.length ≤ 5 ∧ ∃ v, AM.IsWalk b (stps p.2) v) →
    (∀ w v, AM.IsWalk b w v → AM.Within (stps ss) w → AM.Simple b w → ∃ p ∈ fs, stps p.2 = w) → Q (.ref F) H'
/-- the walks as data -/
def wdat (p : Addr × SL) : PyData := .list ((stps p.2).map sdat)
theorem dp_ways {K : PySem.W.Frag} {H : Hp} : ∀ qs : List (Addr × SL), (∀ q ∈ qs, H q.1 = some (.lst (refs q.2)) ∧ StepsOk H q.2) → DpAll K H (qs.map fun q => V.ref q.1) (qs.map wdat)
  | [], _ => .nil
  | q :: r, h => .cons (.lst (SqL.of (h q (List.mem_cons_self ..)).1) (dp_stps _ (h q (List.mem_cons_self ..)).2)) (dp_ways r fun p hp => h p (List.mem_cons_of_mem _ hp))
theorem lay_ways : ∀ qs : List (Addr × SL), PyData.canLayAll0 (qs.map wdat) = true ∧ PyData.depthAll (qs.map wdat) ≤ 3
  | [] => by simp [PyData.canLayAll0, PyData.depthAll]
  | q :: r => by
    obtain ⟨h1, h2⟩ := lay_ways r
    have h3 : PyData.canLay0 (wdat q) = true ∧ PyData.depth (wdat q) ≤ 3 := by
      obtain ⟨h3, h4⟩ := lay_stps (stps q.2)
      simp only [wdat, PyData.canLay0, PyData.depth]
      exact ⟨h3, by omega⟩
    simp only [List.map_cons, PyData.canLayAll0, PyData.depthAll]
    rw [h3.1]
    exact ⟨h1, by omega⟩
theorem stps_app (a b : SL) : stps (a ++ b) = stps a ++ stps b := List.map_append
theorem refs_app (a b : SL) : refs (a ++ b) = refs a ++ refs b := List.map_append
section
variable {P : Program} {w : World} {K : PySem.W.Frag} {mg : Str → Option Value} {base : Heap}
theorem sc_law_simple : FnScope ["_law_steps", "_law_begin", "_law_found", "_law_ways", "_law_way", "_law_met", "_law_step_here"] ["_law_steps", "_law_begin"] (defScope st_law_simple) := ⟨rfl, rfl, rfl, by decide +kernel, rfl, by decide +kernel, by decide +kernel⟩
theorem ok_law_simple (T : Txt K mg) : FnK P w K mg base CX0 1 "_law_simple" ["_law_steps", "_law_begin"] spSimple := by
  refine T.law_simple.ok sc_law_simple (fun vs H Q E h => ?_) (fun cdv A outer s H vs Q E hr h => ?_)
  · obtain ⟨l, ss, b, N, rfl, _⟩ := h
    rfl
  obtain ⟨l, ss, b, N, rfl, hl, ok, bd, N6, hb, few, q⟩ := h
  refine ⟨_, (pss_cons (ps_par (i := 2) (j := 3) (by rfl) sc_law_simple.nd rfl rfl (by decide) rfl rfl (pa_cons (pe_lst (pa_cons (pe_lst pa_nil) pa_nil)) (pa_cons (pe_lc (own := [("_law_step_here", 6)]) (g := gName 6) rfl sc_law_simple.nd (pi_list (pv 0)) (blkOk_by (own := [("_law_step_here", 6)]) (N := ["_law_steps", "_law_begin", "_law_found", "_law_ways", "_law_way", "_law_met", "_law_step_here"]) (sc := defScope st_law_simple) (by decide +kernel)) (fun _ _ _ _ _ => (pg_name (i := 6) sc_law_simple.nd rfl (Or.inl rfl))) (fun _ _ _ _ _ => (pts_one (PW.pt (pw_and (pt_cmpR op_eq (pe_ix (ixT K) (pv 6) pe_int (fun _ _ => rfl)) (pv 1) (nomark _)) (pw_and1 (pt_cmpR op_ne (pe_ix (ixT K) (pv 6) pe_int (fun _ _ => rfl)) (pv 1) (nomark _))))))) (fun _ _ _ _ _ => (pe_lst (pa_cons (pv 6) pa_nil)))) pa_nil)) (by rfl))
    (pss_cons (ps_while (passes_of rfl) (pt_cmpR (op_neD hr.units) (pv 3) (pe_lst pa_nil) (nomark _)) (pss_cons (ps_set (i := 4) sc_law_simple.nd rfl (Or.inr rfl) (pe_bm0 PySem.F.plainAttrs_list PySem.F.slot_list_pop PySem.F.type_list_pop mt_pop (pv 3)))
    (pss_cons (ps_expr (pe_bm PySem.F.plainAttrs_list PySem.F.slot_list_append PySem.F.type_list_append mt_append (pv 2) (pa_cons (pv 4) pa_nil)))
    (pss_cons (ps_set (i := 5) sc_law_simple.nd rfl (Or.inr rfl) (pe_op op_cat (pe_lc (own := [("_law_step_here", 6)]) (g := gName 6) rfl sc_law_simple.nd (pi_list (pv 4)) (blkOk_by (own := [("_law_step_here", 6)]) (N := ["_law_steps", "_law_begin", "_law_found", "_law_ways", "_law_way", "_law_met", "_law_step_here"]) (sc := defScope st_law_simple) (by decide +kernel)) (fun _ _ _ _ _ => (pg_name (i := 6) sc_law_simple.nd rfl (Or.inl rfl))) (fun _ _ _ _ _ => pts_nil) (fun _ _ _ _ _ => (pe_ix (ixT K) (pv 6) pe_int (fun _ _ => rfl)))) (pe_lst (pa_cons (pe_ix ix_tup (pe_ix ix_list (pv 4) (pe_un un_neg pe_int) (fun _ _ => rfl)) pe_int (fun _ _ => rfl)) pa_nil))))
    (pss_one (ps_expr (pe_bm PySem.F.plainAttrs_list PySem.F.slot_list_extend PySem.F.type_list_extend mt_extend (pv 3) (pa_cons (pe_lc (own := [("_law_step_here", 6)]) (g := gName 6) rfl sc_law_simple.nd (pi_list (pv 0)) (blkOk_by (own := [("_law_step_here", 6)]) (N := ["_law_steps", "_law_begin", "_law_found", "_law_ways", "_law_way", "_law_met", "_law_step_here"]) (sc := defScope st_law_simple) (by decide +kernel)) (fun _ _ _ _ _ => (pg_name (i := 6) sc_law_simple.nd rfl (Or.inl rfl))) (fun _ _ _ _ _ => (pts_one (PW.pt (pw_and (pt_cmpR op_eq (pe_ix (ixT K) (pv 6) pe_int (fun _ _ => rfl)) (pe_ix (ixT K) (pe_ix (ixL K) (pv 4) (pe_un un_neg pe_int) (fun _ _ => rfl)) pe_int (fun _ _ => rfl)) (nomark _)) (pw_and1 (pt_cmpR (notInS K) (pe_ix (ixT K) (pv 6) pe_int (fun _ _ => rfl)) (pv 5) (by rfl))))))) (fun _ _ _ _ _ => (pe_op op_cat (pv 4) (pe_lst (pa_cons (pv 6) pa_nil))))) pa_nil))))))))
    (pss_one (ps_ret (pv 2))))), ?_⟩
  refine ⟨(by show 0 ≤ sizeLine; decide), fun a0 n0 => ⟨(by show 1 ≤ sizeLine; decide), fun F nF => ?_⟩⟩
  have s1 := (same_new n0 (.lst [])).trans (same_new nF (.lst [.ref a0]))
  have nF0 : H F = none := not_none_same (same_new n0 (.lst [])) nF
  have g0 : (upd (upd H a0 (.lst [])) F (.lst [.ref a0])) a0 = some (.lst []) := same_new nF _ _ _ upd_same
  have gF : (upd (upd H a0 (.lst [])) F (.lst [.ref a0])) F = some (.lst [.ref a0]) := upd_same
  have a0F : a0 ≠ F := ne_of_none upd_same nF
  generalize upd (upd H a0 (.lst [])) F (.lst [.ref a0]) = H1 at s1 g0 gF ⊢
  refine ⟨_, rfl, l, rfl, ⟨_, SqL.of (s1 _ _ hl)⟩, fun W nW => ?_⟩
  have nW0 : H W = none := not_none_same s1 nW
  have WF : W ≠ F := (ne_of_none gF nW).symm
  have a0W : a0 ≠ W := ne_of_none g0 nW
  refine lc_made (bs := ss) (fun p => decide (p.2.s = b) && !decide (p.2.t = b)) (fun p z H' => p ≠ W ∧ p ≠ F ∧ H' p = some (.lst [.ref z.1])) (fun p z H1 H2 h ⟨h1, h2, h3⟩ => ⟨h1, h2, h _ _ h1 h3⟩) nW (SqL.of (s1 _ _ hl)) (fun _ => rfl) (small_line (by omega))
    (fun z H5 hz s5 Q' q' => ?_) (fun z H5 hz _ s5 hD Q' q' => ?_) fun qs H2 s2 e2 eq hq => ?_
  · obtain ⟨bb, g1, g2⟩ := ok z hz
    have g5 := s5 _ _ (s1 _ _ g1)
    refine ⟨_, rfl, _, _, _, _, rfl, rfl, SqT.of g5, rfl, _, rfl, rfl, _, rfl, ?_⟩
    have q2 := q' H5 (Same.refl _)
    refine ite2 (fun e => ?_) (fun e => ?_)
    · refine ⟨_, rfl, _, _, _, _, rfl, rfl, SqT.of g5, rfl, _, rfl, rfl, _, rfl, ?_⟩
      have e : z.2.s = b := V.int.inj (of_decide_eq_true e)
      rw [decide_eq_true e, Bool.true_and] at q2
      have e3 : decide (V.int z.2.t = V.int b) = decide (z.2.t = b) := by rw [decide_eq_decide]; exact ⟨V.int.inj, congrArg V.int⟩
      show Q' (!decide (V.int z.2.t = V.int b)) H5
      rw [e3]
      exact q2
    · have e : ¬ z.2.s = b := fun y => e (decide_eq_true (congrArg V.int y))
      rw [decide_eq_false e, Bool.false_and] at q2
      exact q2
  · refine ⟨_, rfl, (by show 1 ≤ sizeLine; decide), fun p np => q' p _ (same_new np _) ⟨?_, ?_, upd_same⟩⟩
    · exact fun y => hD (by rw [← y]; exact np)
    · exact (ne_of_none (s5 _ _ gF) np).symm
  refine ⟨_, _, rfl, ?_⟩
  -- the search
  have hqs : ∀ y ∈ qs, y.2 ∈ ss ∧ y.2.2.s = b ∧ y.2.2.t ≠ b := fun y hy => by
    have : y.2 ∈ qs.map (·.2) := List.mem_map.mpr ⟨y, hy, rfl⟩
    rw [eq] at this
    obtain ⟨h1, h2⟩ := List.mem_filter.mp this
    simp at h2
    exact ⟨h1, h2⟩
  have lqs : qs.length ≤ 14 := by
    have h1 := congrArg List.length eq
    have := List.length_filter_le (fun p : Addr × AM.Stp => decide (p.2.s = b) && !decide (p.2.t = b)) ss
    rw [List.length_map] at h1
    omega
  have s02 := s1.trans s2
  refine ⟨fun m σ H3 => ∃ fs ws : List (Addr × SL), Same H H3 ∧ H3 F = some (.lst (fs.map fun p => V.ref p.1)) ∧ H3 W = some (.lst (ws.map fun p => V.ref p.1)) ∧ (∀ p ∈ fs, DWy H3 F W b ss p) ∧ (∀ p ∈ ws, DWy H3 F W b ss p ∧ p.2 ≠ []) ∧
      m = (ws.map fun p => AM.tw (6 - p.2.length)).sum ∧ fs.length + m ≤ 14 * AM.tw 5 + 1 ∧ (∀ y v, AM.IsWalk b y v → AM.Within (stps ss) y → AM.Simple b y → (∃ p ∈ fs, stps p.2 = y) ∨ ∃ p ∈ ws, ∃ r, y = stps p.2 ++ r) ∧
      ∃ x4 x5 x6, σ = [some (.ref l), some (.int b), some (.ref F), some (.ref W), x4, x5, x6],
    ⟨_, [(a0, [])], qs.map fun y => (y.1, [y.2]), s02, s2 _ _ gF, ?_, fun p hp => ?_, fun p hp => ?_, rfl, ?_, fun y v h1 h2 h3 => ?_, _, _, _, rfl⟩, ?_⟩
  · rw [List.map_map]
    exact e2
  · simp at hp
    subst hp
    exact ⟨a0F, a0W, s2 _ _ g0, (fun z hz => by cases hz), by simp [AM.Simple, AM.nodes, stps], b, rfl⟩
  · obtain ⟨y, hy, rfl⟩ := List.mem_map.mp hp
    obtain ⟨h1, h2, h3⟩ := hq y hy
    obtain ⟨h4, h5, h6⟩ := hqs y hy
    refine ⟨⟨h2, h1, h3, fun z hz => ?_, ?_, _, ⟨h5, rfl⟩⟩, by simp⟩
    · simp at hz
      rw [hz]
      exact h4
    · simp [AM.Simple, AM.nodes, stps]
      exact fun e => h6 e.symm
  · rw [List.map_map]
    have e : (qs.map ((fun p : Addr × SL => AM.tw (6 - p.2.length)) ∘ fun y => (y.1, [y.2]))).sum ≤ qs.length * AM.tw 5 := AM.sum_le_mul fun x _ => Nat.le_refl _
    have : qs.length * AM.tw 5 ≤ 14 * AM.tw 5 := Nat.mul_le_mul_right _ lqs
    simp only [List.length_singleton]
    omega
  · cases y with
    | nil => exact .inl ⟨(a0, []), by simp, rfl⟩
    | cons e r =>
      refine .inr ?_
      obtain ⟨z, hz, ez⟩ := List.mem_map.mp (h2 e (List.mem_cons_self ..))
      have e1 : e.s = b := h1.1
      have e2 : ¬ e.t = b := fun y => by
        unfold AM.Simple AM.nodes at h3
        rw [List.map_cons, y] at h3
        exact (List.nodup_cons.mp h3).1 (List.mem_cons_self ..)
      have hm : z ∈ qs.map (·.2) := by
        rw [eq]
        refine List.mem_filter.mpr ⟨hz, ?_⟩
        simp [ez, e1, e2]
      obtain ⟨y, hy, ey⟩ := List.mem_map.mp hm
      refine ⟨_, List.mem_map.mpr ⟨y, hy, rfl⟩, r, ?_⟩
      rw [ey]
      simp [stps, ez]
  rintro m σ H3 ⟨fs, ws, s3, eF, eW, hf, hws, rfl, hm, cov, x4, x5, x6, rfl⟩
  refine ⟨_, rfl, (by show 0 ≤ sizeLine; decide), fun p np => ?_⟩
  have sp := same_new np (.lst [])
  have s4 := s3.trans sp
  have eF4 := sp _ _ eF
  have eW4 := sp _ _ eW
  have ep : (upd H3 p (.lst [])) p = some (.lst []) := upd_same
  replace hf := fun y hy => (hf y hy).up sp
  replace hws := fun y hy => (⟨(hws y hy).1.up sp, (hws y hy).2⟩ : DWy (upd H3 p (.lst [])) F W b ss y ∧ y.2 ≠ [])
  generalize upd H3 p (.lst []) = H4 at s4 eF4 eW4 ep hf hws ⊢
  have okw : ∀ y ∈ ws, H4 y.1 = some (.lst (refs y.2)) ∧ StepsOk H4 y.2 := fun y hy => ⟨(hws y hy).1.at_, fun z hz => (ok z ((hws y hy).1.sub z hz)).up (Tups.of s4)⟩
  refine ⟨_, _, .lst (SqL.of eW4) (dp_ways ws okw), .lst (SqL.of ep) .nil, shaped_list (lay_ways ws).1 (lay_ways ws).2 (by decide), shaped_nil, _, rfl, ?_⟩
  rw [eqv_nil]
  have tall := AM.tw_all
  have len5 : ∀ y, DWy H4 F W b ss y → y.2.length ≤ 5 := fun y hy => by
    have := simple_len hb bd hy.sub hy.sim
    omega
  refine ite2 (fun c => ?_) (fun c => ?_)
  · have hne : ws ≠ [] := fun z => by rw [z] at c; cases c
    obtain ⟨ws0, y, rfl⟩ : ∃ ws0 y, ws = ws0 ++ [y] := ⟨ws.dropLast, ws.getLast hne, (List.dropLast_concat_getLast hne).symm⟩
    refine ⟨_, fun σ' H' h => h, ?_⟩
    have er : (ws0 ++ [y]).map (fun p => V.ref p.1) = ws0.map (fun p => V.ref p.1) ++ [.ref y.1] := by simp
    rw [er] at eW4
    obtain ⟨wy, yne⟩ := hws y (by simp)
    have y5 := len5 y wy
    rw [AM.sum_app] at hm
    simp only [List.map_cons, List.map_nil, List.sum_cons, List.sum_nil, Nat.add_zero] at hm
    have tp := AM.tw_pos (6 - y.2.length)
    refine ⟨_, rfl, .inl ⟨rfl, _, SqL.of eW4⟩, W, _, .ref y.1, rfl, rfl, eW4, by simp, ?_⟩
    rw [List.dropLast_concat]
    have s5 : Same H (upd H4 W (.lst (ws0.map fun p => V.ref p.1))) := Same.mut s4 nW0
    have eF5 : (upd H4 W (.lst (ws0.map fun p => V.ref p.1))) F = some (.lst (fs.map fun p => V.ref p.1)) := by
      rw [upd_ne WF.symm]
      exact eF4
    have eW5 : (upd H4 W (.lst (ws0.map fun p => V.ref p.1))) W = some (.lst (ws0.map fun p => V.ref p.1)) := upd_same
    replace hf := fun y hy => (hf y hy).updW (o := .lst (ws0.map fun p => V.ref p.1))
    replace hws := fun z hz => (⟨(hws z hz).1.updW (o := .lst (ws0.map fun p => V.ref p.1)), (hws z hz).2⟩ : _ ∧ _)
    replace wy := wy.updW (o := .lst (ws0.map fun p => V.ref p.1))
    clear okw len5
    generalize upd H4 W (.lst (ws0.map fun p => V.ref p.1)) = H5 at s5 eF5 eW5 hf hws wy ⊢
    refine ⟨_, rfl, .inl ⟨rfl, _, SqL.of eF5⟩, _, rfl, F, _, _, rfl, rfl, eF5, Nat.lt_of_lt_of_le (show _ < 16777216 by rw [List.length_map]; omega) (by decide), ?_⟩
    have s6 : Same H (upd H5 F (.lst (fs.map (fun p => V.ref p.1) ++ [.ref y.1]))) := Same.mut s5 nF0
    have eF6 : (upd H5 F (.lst (fs.map (fun p => V.ref p.1) ++ [.ref y.1]))) F = some (.lst ((fs ++ [y]).map fun p => V.ref p.1)) := by
      rw [upd_same, List.map_append]
      rfl
    have eW6 : (upd H5 F (.lst (fs.map (fun p => V.ref p.1) ++ [.ref y.1]))) W = some (.lst (ws0.map fun p => V.ref p.1)) := by
      rw [upd_ne WF]
      exact eW5
    replace hf := fun u hu => (hf u hu).updF (o := .lst (fs.map (fun p => V.ref p.1) ++ [.ref y.1]))
    replace hws := fun z hz => (⟨(hws z hz).1.updF (o := .lst (fs.map (fun p => V.ref p.1) ++ [.ref y.1])), (hws z hz).2⟩ : _ ∧ _)
    replace wy := wy.updF (o := .lst (fs.map (fun p => V.ref p.1) ++ [.ref y.1]))
    generalize upd H5 F (.lst (fs.map (fun p => V.ref p.1) ++ [.ref y.1])) = H6 at s6 eF6 eW6 hf hws wy ⊢
    -- met
    obtain ⟨v, wv⟩ := wy.walk
    obtain ⟨y0, yz, ey⟩ : ∃ y0 yz, y.2 = y0 ++ [yz] := ⟨y.2.dropLast, y.2.getLast yne, (List.dropLast_concat_getLast yne).symm⟩
    have hyz : yz ∈ ss := wy.sub yz (by rw [ey]; simp)
    have ev : yz.2.t = v := by
      rw [ey, stps_app] at wv
      obtain ⟨u, h1, h2⟩ := wv.split
      exact h2.2
    have elast : atI (refs y.2) (-1) = some (.ref yz.1) := by
      rw [ey, refs_app]
      exact at_last _ _
    refine ⟨_, rfl, y.1, rfl, ⟨_, SqL.of wy.at_⟩, fun D nD => ?_⟩
    refine lc_map (bs := y.2) (fun z => .int z.2.s) nD (SqL.of wy.at_) (fun _ => rfl) (small_line (by omega)) (fun z H' hz s' Q' q' => ?_) fun H7 s7 e7 => ?_
    · obtain ⟨bb, g1, g2⟩ := ok z (wy.sub z hz)
      exact ⟨_, rfl, _, _, _, _, rfl, rfl, SqT.of (s' _ _ (s6 _ _ g1)), rfl, q' H' (Same.refl _)⟩
    obtain ⟨bb, g1, g2⟩ := ok yz hyz
    have s07 := s6.trans s7
    refine ⟨_, rfl, _, rfl, _, _, _, _, rfl, rfl, SqL.of (s7 _ _ wy.at_), elast, _, _, _, _, rfl, rfl, SqT.of (s07 _ _ g1), rfl, (by show 1 ≤ sizeLine; decide), fun c8 nc8 => ?_⟩
    have s8 := same_new nc8 (.lst [.int yz.2.t])
    refine ⟨D, c8, _, _, rfl, rfl, s8 _ _ e7, upd_same, small_line (by rw [List.length_map, List.length_singleton]; omega), fun M nM => ?_⟩
    have s9 := same_new nM (.lst ((y.2.map fun z => V.int z.2.s) ++ [.int yz.2.t]))
    have eM : (upd (upd H7 c8 (.lst [.int yz.2.t])) M (.lst ((y.2.map fun z => V.int z.2.s) ++ [.int yz.2.t]))) M = some (.lst ((AM.nodes b (stps y.2)).map V.int)) := by
      rw [upd_same, ← AM.nodes_src wv, List.map_append, ← ev]
      simp [stps]
    have s69 := (s7.trans s8).trans s9
    have s09 := s6.trans s69
    have eF9 := s69 _ _ eF6
    have eW9 := s69 _ _ eW6
    replace hf := fun y hy => (hf y hy).up s69
    replace hws := fun z hz => (⟨(hws z hz).1.up s69, (hws z hz).2⟩ : _ ∧ _)
    replace wy := wy.up s69
    generalize upd (upd H7 c8 (.lst [.int yz.2.t])) M (.lst ((y.2.map fun z => V.int z.2.s) ++ [.int yz.2.t])) = H9 at eM s09 eF9 eW9 hf hws wy ⊢
    -- the ways that go on
    refine ⟨_, rfl, .inl ⟨rfl, _, SqL.of eW9⟩, _, rfl, l, rfl, ⟨_, SqL.of (s09 _ _ hl)⟩, fun D2 nD2 => ?_⟩
    refine lc_made (bs := ss) (fun z => decide (z.2.s = v) && !decide (z.2.t ∈ AM.nodes b (stps y.2))) (fun p z H' => p ≠ D2 ∧ p ≠ F ∧ p ≠ W ∧ H' p = some (.lst (refs (y.2 ++ [z])))) (fun p z H1 H2 h ⟨h1, h2, h3, h4⟩ => ⟨h1, h2, h3, h _ _ h1 h4⟩) nD2 (SqL.of (s09 _ _ hl)) (fun _ => rfl) (small_line (by omega))
      (fun z H5 hz s5 Q' q' => ?_) (fun z H5 hz _ s5 hD Q' q' => ?_) fun es H10 s10 e10 ees hes => ?_
    · obtain ⟨bb2, g3, g4⟩ := ok z hz
      have g5 := s5 _ _ (s09 _ _ g3)
      have q2 := q' H5 (Same.refl _)
      refine ⟨_, rfl, _, _, _, _, rfl, rfl, SqT.of g5, rfl, _, rfl, _, rfl, _, _, _, _, rfl, rfl, SqL.of (s5 _ _ wy.at_), elast, _, _, _, _, rfl, rfl, SqT.of (s5 _ _ (s09 _ _ g1)), rfl, rfl, _, rfl, ?_⟩
      refine ite2 (fun e => ?_) (fun e => ?_)
      · refine ⟨_, rfl, _, _, _, _, rfl, rfl, SqT.of g5, rfl, _, rfl, M, _, rfl, .inl (SqL.of (s5 _ _ eM)), rfl, flat_ints _, _, rfl, ?_⟩
        have e : z.2.s = v := (V.int.inj (of_decide_eq_true e)).trans ev
        rw [decide_eq_true e, Bool.true_and] at q2
        show Q' (!inV (.int z.2.t) ((AM.nodes b (stps y.2)).map V.int)) H5
        rw [in_ints]
        exact q2
      · have e : ¬ z.2.s = v := fun x => e (decide_eq_true (congrArg V.int (x.trans ev.symm)))
        rw [decide_eq_false e, Bool.false_and] at q2
        exact q2
    · refine ⟨_, rfl, _, rfl, (by show 1 ≤ sizeLine; decide), fun c1 nc1 => ?_⟩
      have t1 := same_new nc1 (.lst [.ref z.1])
      refine ⟨y.1, c1, _, _, rfl, rfl, t1 _ _ (s5 _ _ wy.at_), upd_same, small_line (by rw [refs_len, List.length_singleton]; omega), fun c2 nc2 => ?_⟩
      refine q' c2 _ (t1.trans (same_new nc2 _)) ⟨?_, ?_, ?_, ?_⟩
      · exact fun x => hD (by
          have := not_none_same t1 nc2
          rw [← x]
          exact this)
      · exact (ne_of_none (t1 _ _ (s5 _ _ eF9)) nc2).symm
      · exact (ne_of_none (t1 _ _ (s5 _ _ eW9)) nc2).symm
      · rw [upd_same, refs_app]
        rfl
    have hes2 : ∀ x ∈ es, x.2 ∈ ss ∧ x.2.2.s = v ∧ x.2.2.t ∉ AM.nodes b (stps y.2) := fun x hx => by
      have : x.2 ∈ es.map (·.2) := List.mem_map.mpr ⟨x, hx, rfl⟩
      rw [ees] at this
      obtain ⟨h1, h2⟩ := List.mem_filter.mp this
      simp at h2
      exact ⟨h1, h2⟩
    have les : es.length ≤ 14 := by
      have h1 := congrArg List.length ees
      have := List.length_filter_le (fun z : Addr × AM.Stp => decide (z.2.s = v) && !decide (z.2.t ∈ AM.nodes b (stps y.2))) ss
      rw [List.length_map] at h1
      omega
    have lws : ws0.length ≤ (ws0.map fun p => AM.tw (6 - p.2.length)).sum := AM.len_le_sum fun x _ => AM.tw_pos _
    refine ⟨W, D2, _, _, rfl, rfl, s10 _ _ eW9, e10, Nat.le_trans (show _ ≤ 16777216 by rw [List.length_map, List.length_map]; omega) (by decide), ?_⟩
    have s11 := Same.mut (o := .lst (ws0.map (fun p => V.ref p.1) ++ es.map fun q => V.ref q.1)) (s09.trans s10) nW0
    have hsum : ((ws0 ++ es.map fun x => (x.1, y.2 ++ [x.2])).map fun p : Addr × SL => AM.tw (6 - p.2.length)).sum + 1 ≤ (ws0.map fun p => AM.tw (6 - p.2.length)).sum + AM.tw (6 - y.2.length) := by
      rw [AM.sum_app, List.map_map]
      have e : (es.map ((fun p : Addr × SL => AM.tw (6 - p.2.length)) ∘ fun x => (x.1, y.2 ++ [x.2]))).sum ≤ es.length * AM.tw (6 - (y.2.length + 1)) := AM.sum_le_mul fun x _ => by
        show AM.tw (6 - (y.2 ++ [x.2]).length) ≤ _
        rw [List.length_append]
        exact Nat.le_refl _
      have e2 : es.length * AM.tw (6 - (y.2.length + 1)) ≤ 14 * AM.tw (6 - (y.2.length + 1)) := Nat.mul_le_mul_right _ les
      have := AM.tw_step y5
      omega
    have hsum0 : ((ws0 ++ [y]).map fun p : Addr × SL => AM.tw (6 - p.2.length)).sum = (ws0.map fun p => AM.tw (6 - p.2.length)).sum + AM.tw (6 - y.2.length) := by
      rw [AM.sum_app]
      simp
    refine ⟨_, ?_, fs ++ [y], ws0 ++ es.map fun x => (x.1, y.2 ++ [x.2]), s11, ?_, ?_, fun x hx => ?_, fun x hx => ?_, rfl, ?_, fun u z h1 h2 h3 => ?_, _, _, _, rfl⟩
    · rw [hsum0]
      omega
    · rw [upd_ne WF.symm]
      exact s10 _ _ eF9
    · rw [upd_same, List.map_append, List.map_map]
      rfl
    · rcases List.mem_append.mp hx with hx | hx
      · exact ((hf x hx).up s10).updW
      · simp at hx
        subst hx
        exact (wy.up s10).updW
    · rcases List.mem_append.mp hx with hx | hx
      · have := hws x (List.mem_append_left _ hx)
        exact ⟨(this.1.up s10).updW, this.2⟩
      · obtain ⟨e, he, rfl⟩ := List.mem_map.mp hx
        obtain ⟨h1, h2, h3, h4⟩ := hes e he
        obtain ⟨h5, h6, h7⟩ := hes2 e he
        refine ⟨⟨h2, h3, ?_, fun z hz => ?_, ?_, e.2.2.t, ?_⟩, by simp⟩
        · rw [upd_ne h3]
          exact h4
        · rcases List.mem_append.mp hz with hz | hz
          · exact wy.sub z hz
          · simp at hz
            rw [hz]
            exact h5
        · show AM.Simple b (stps (y.2 ++ [e.2]))
          rw [stps_app]
          exact wy.sim.snoc h7
        · show AM.IsWalk b (stps (y.2 ++ [e.2])) _
          rw [stps_app]
          exact wv.snoc h6
    · rw [List.length_append, List.length_singleton]
      omega
    · rcases cov u z h1 h2 h3 with ⟨p, hp, ep⟩ | ⟨p, hp, r, er⟩
      · exact .inl ⟨p, List.mem_append_left _ hp, ep⟩
      · rcases List.mem_append.mp hp with hp | hp
        · exact .inr ⟨p, List.mem_append_left _ hp, r, er⟩
        · simp at hp
          subst hp
          cases r with
          | nil => exact .inl ⟨p, by simp, by rw [er, List.append_nil]⟩
          | cons e r =>
            subst er
            obtain ⟨i1, i2⟩ := h1.mid wv
            have i3 := h3.snoc_not
            obtain ⟨ze, hze, eze⟩ := List.mem_map.mp (h2 e (by simp))
            have hm : ze ∈ es.map (·.2) := by
              rw [ees]
              refine List.mem_filter.mpr ⟨hze, ?_⟩
              simp [eze, i1, i3]
            obtain ⟨x, hx, ex⟩ := List.mem_map.mp hm
            refine .inr ⟨_, List.mem_append_right _ (List.mem_map.mpr ⟨x, hx, rfl⟩), r, ?_⟩
            show _ = stps (p.2 ++ [x.2]) ++ r
            rw [stps_app, ex, List.append_assoc]
            simp [stps, eze]
  · have hnil : ws = [] := by
      cases ws with
      | nil => rfl
      | cons a r => exact absurd rfl c
    subst hnil
    refine ⟨_, rfl, ?_⟩
    refine q F fs H4 s4 eF4 (by omega) (fun p hp => ⟨(hf p hp).at_, (hf p hp).sub, len5 p (hf p hp), (hf p hp).walk⟩) fun y v h1 h2 h3 => ?_
    rcases cov y v h1 h2 h3 with h | ⟨p, hp, _⟩
    · exact h
    · cases hp
end
end Any
end
section
set_option Elab.async false
set_option linter.all false
set_option maxRecDepth 100000
set_option maxHeartbeats 4000000
namespace Any
open PySem PySem.Spec PyProof.Rows L2
theorem at_zero {α : Type} (x : α) (r : List α) : atI (x :: r) 0 = some x := atI_nat (j := 0) rfl
/-- a pair of a cost and a step, as data -/
def pdat (z : Addr × AM.Stp) : PyData := .tuple [.int (1 * z.2.x + 1 * z.2.y), sdat z.2]
abbrev CL := List (Addr × Addr × AM.Stp)
theorem dp_pairs {K : PySem.W.Frag} {H : Hp} : ∀ qs : CL, (∀ q ∈ qs, H q.1 = some (.tup [.int (1 * q.2.2.x + 1 * q.2.2.y), .ref q.2.1]) ∧ StpAt H q.2.1 q.2.2) → DpAll K H (qs.map fun q => V.ref q.1) (qs.map fun q => pdat q.2)
  | [], _ => .nil
  | q :: r, h => .cons (.tup (SqT.of (h q (List.mem_cons_self ..)).1) (.cons (.int _) (.cons (dp_stp (h q (List.mem_cons_self ..)).2) .nil))) (dp_pairs r fun p hp => h p (List.mem_cons_of_mem _ hp))
theorem lay_pair (z : Addr × AM.Stp) : PyData.canLay0 (pdat z) = true ∧ PyData.depth (pdat z) ≤ 3 := by
  obtain ⟨h1, h2⟩ := lay_stp z.2
  simp only [pdat, PyData.canLay0, PyData.canLayAll0, PyData.depth, PyData.depthAll]
  rw [h1, h2]
  exact ⟨rfl, by omega⟩
theorem lay_pairs : ∀ qs : CL, PyData.canLayAll0 (qs.map fun q => pdat q.2) = true ∧ PyData.depthAll (qs.map fun q => pdat q.2) ≤ 3
  | [] => by simp [PyData.canLayAll0, PyData.depthAll]
  | q :: r => by
    obtain ⟨h1, h2⟩ := lay_pairs r
    obtain ⟨h3, h4⟩ := lay_pair q.2
    simp only [List.map_cons, PyData.canLayAll0, PyData.depthAll]
    rw [h3]
    exact ⟨h1, by omega⟩
theorem alike_stp (e f : AM.Stp) : PySem.W.alike (sdat e) (sdat f) = true := by simp [sdat, PySem.W.alike, PySem.W.alikeAll]
theorem alike_pair (y z : Addr × AM.Stp) : PySem.W.alike (pdat y) (pdat z) = true := by simp [pdat, sdat, PySem.W.alike, PySem.W.alikeAll]
def spLong : Sp := fun vs H Q _ => ∃ (st a l : Addr) (c b many lean : Int) (ss : SL), vs = [.ref st, .ref l, .int b, .int many, .int lean] ∧ Strm H st a c ∧ c + 200 ≤ BIG ∧ (0 ≤ many ∧ many ≤ 60) ∧ wo st a H l = some (.lst (refs ss)) ∧ StepsOk (wo st a H) ss ∧ ss.length ≤ 14 ∧
  ∀ p ws v H' c', Kp st a H H' → wo st a H' p = some (.lst (refs ws)) → (∀ z ∈ ws, z ∈ ss) → AM.IsWalk b (stps ws) v → ws.length ≤ 60 → Strm H' st a c' → c ≤ c' → c' ≤ c + 120 → Q (.ref p) H'
section
variable {P : Program} {w : World} {K : PySem.W.Frag} {mg : Str → Option Value} {base : Heap}
theorem sc_law_long_walk : FnScope ["_law_stream_here", "_law_steps", "_law_begin", "_law_many", "_law_lean", "_law_here", "_law_found", "_law_k", "_law_some", "_law_step_here"] ["_law_stream_here", "_law_steps", "_law_begin", "_law_many", "_law_lean"] (defScope st_law_long_walk) := ⟨rfl, rfl, rfl, by decide +kernel, rfl, by decide +kernel, by decide +kernel⟩
theorem ok_law_long_walk (T : Txt K mg) : FnK P w K mg base CX0 3 "_law_long_walk" ["_law_stream_here", "_law_steps", "_law_begin", "_law_many", "_law_lean"] spLong := by
  refine T.law_long_walk.ok sc_law_long_walk (fun vs H Q E h => ?_) (fun cdv A outer s H vs Q E hr h => ?_)
  · obtain ⟨st, a, l, c, b, many, lean, ss, rfl, _⟩ := h
    rfl
  obtain ⟨st, a, l, c, b, many, lean, ss, rfl, S, hc, hm, hl, ok, few, q⟩ := h
  refine ⟨_, (pss_cons (ps_asg (pe_tup (pa_cons (pv 2) (pa_cons (pe_lst pa_nil) pa_nil))) (pg_tup rfl (pgs_cons (pg_name (i := 5) sc_law_long_walk.nd rfl (Or.inr rfl)) (pgs_cons (pg_name (i := 6) sc_law_long_walk.nd rfl (Or.inl rfl)) pgs_nil))))
    (pss_cons (ps_for (passes_of rfl) rfl (pi_range1 (by rfl) T.n_range (pa_cons (pv 3) pa_nil)) (pg_name (i := 7) sc_law_long_walk.nd rfl (Or.inl rfl)) (pss_cons (ps_set (i := 8) sc_law_long_walk.nd rfl (Or.inl rfl) (pe_callB (cr_sortedG hr.units) rfl T.n_sorted (by decide +kernel) (pa_cons (pe_lc (own := [("_law_step_here", 9)]) (g := gName 9) rfl sc_law_long_walk.nd (pi_list (pv 1)) (blkOk_by (own := [("_law_step_here", 9)]) (N := ["_law_stream_here", "_law_steps", "_law_begin", "_law_many", "_law_lean", "_law_here", "_law_found", "_law_k", "_law_some", "_law_step_here"]) (sc := defScope st_law_long_walk) (by decide +kernel)) (fun _ _ _ _ _ => (pg_name (i := 9) sc_law_long_walk.nd rfl (Or.inl rfl))) (fun _ _ _ _ _ => (pts_one (pt_cmpR op_eq (pe_ix (ixT K) (pv 9) pe_int (fun _ _ => rfl)) (pv 5) (nomark _)))) (fun _ _ _ _ _ => (pe_tup (pa_cons (pe_f T.law_cost (ok_law_cost T) hr pass0 (pa_cons (pe_tup (pa_cons pe_int (pa_cons pe_int pa_nil))) (pa_cons (pe_ix (ixT K) (pv 9) pe_int (fun _ _ => rfl)) pa_nil))) (pa_cons (pv 9) pa_nil))))) pa_nil)))
    (pss_cons (ps_if (pt_cmpR (op_eqD hr.units) (pv 8) (pe_lst pa_nil) (nomark _)) (pss_one (ps_ret (pv 6))) pss_nil)
    (C8.pss_cut (ps_expr (pe_bm PySem.F.plainAttrs_list PySem.F.slot_list_append PySem.F.type_list_append mt_append (pv 6) (pa_cons (pe_ifExp (pt_cmpR op_lt (pe_f T.law_draw (ok_law_draw T) hr pass0 (pa_cons (pv 0) (pa_cons pe_int pa_nil))) (pv 4) (nomark _)) (pe_ix ix_tup (pe_ix ix_list (pv 8) pe_int (fun _ _ => rfl)) pe_int (fun _ _ => rfl)) (pe_ix ix_tup (pe_f T.law_pick (ok_law_pick T) hr pass0 (pa_cons (pv 0) (pa_cons (pv 8) pa_nil))) pe_int (fun _ _ => rfl))) pa_nil)))
    (pss_one (ps_set (i := 5) sc_law_long_walk.nd rfl (Or.inr rfl) (pe_ix ix_tup (pe_ix ix_list (pv 6) (pe_un un_neg pe_int) (fun _ _ => rfl)) pe_int (fun _ _ => rfl))))))))
    (pss_one (ps_ret (pv 6))))), ?_⟩
  refine ⟨_, rfl, (by show 0 ≤ sizeLine; decide), fun F nF => ?_⟩
  obtain ⟨k1, S1, g1⟩ := S.made nF (.lst [])
  have F1 := S.nst nF
  have F2 := S.na nF
  have nF0 : wo st a H F = none := wo_none nF
  refine ⟨(by show 2 ≤ sizeLine; decide), fun t nt => ⟨_, _, rfl, SqT.of upd_same, rfl, _, _, rfl, _, _, rfl, rfl, ?_⟩⟩
  obtain ⟨k2, S2, g2⟩ := S1.made nt (.tup [.int b, .ref F])
  have k12 := k1.trans k2
  have gF := k2 _ _ g1
  generalize upd (upd H F (.lst [])) t (.tup [.int b, .ref F]) = H2 at k12 S2 gF ⊢
  refine ⟨_, rfl, many, rfl, by omega, by omega, ?_⟩
  refine for_range (fun i σ H1 => ∃ (ws : SL) (v c' : Int), Kp st a H H1 ∧ wo st a H1 F = some (.lst (refs ws)) ∧ (∀ z ∈ ws, z ∈ ss) ∧ AM.IsWalk b (stps ws) v ∧ ws.length ≤ i ∧ Strm H1 st a c' ∧ c ≤ c' ∧ c' ≤ c + 2 * i ∧
      ∃ x7 x8 x9, σ = [some (.ref st), some (.ref l), some (.int b), some (.int many), some (.int lean), some (.int v), some (.ref F), x7, x8, x9])
    ⟨[], b, c, k12, gF, (fun z hz => by cases hz), rfl, Nat.le_refl _, S2, Int.le_refl _, by omega, _, _, _, rfl⟩ ?_ ?_
  · rintro i σ H1 hi ⟨ws, v, c1, k1, gF, sub, wk, len, S1, c11, c12, x7, x8, x9, rfl⟩
    have ok1 : StepsOk H1 ss := (ok.up (Tups.of k1)).up (Tups.of wo_same)
    refine ⟨_, rfl, l, rfl, ⟨_, SqL.of (k1.get hl)⟩, fun D nD => ?_⟩
    refine lc_made (bs := ss) (fun z => decide (z.2.s = v)) (fun p z H' => p ≠ D ∧ H' p = some (.tup [.int (1 * z.2.x + 1 * z.2.y), .ref z.1])) (fun p z H1 H2 h ⟨h1, h2⟩ => ⟨h1, h _ _ h1 h2⟩) nD (SqL.of (k1.get hl)) (fun _ => rfl) (small_line (by omega))
      (fun z H5 hz s5 Q' q' => ?_) (fun z H5 hz _ s5 hD Q' q' => ?_) fun qs H3 s3 e3 eq hq => ?_
    · obtain ⟨bb, h1, h2⟩ := ok1 z hz
      refine ⟨_, rfl, _, _, _, _, rfl, rfl, SqT.of (s5 _ _ h1), rfl, _, rfl, rfl, _, rfl, ?_⟩
      have e3 : decide (V.int z.2.s = V.int v) = decide (z.2.s = v) := by rw [decide_eq_decide]; exact ⟨V.int.inj, congrArg V.int⟩
      show Q' (decide (V.int z.2.s = V.int v)) H5
      rw [e3]
      exact q' H5 (Same.refl _)
    · obtain ⟨bb, h1, h2⟩ := ok1 z hz
      refine ⟨(by show 2 ≤ sizeLine; decide), fun u nu => ?_⟩
      have su := same_new nu (.tup [.int 1, .int 1])
      refine ⟨_, rfl, _, _, _, _, rfl, rfl, SqT.of (su _ _ (s5 _ _ h1)), rfl, u, bb, 1, 1, _, _, rfl, upd_same, su _ _ (s5 _ _ h2), ⟨by decide, by decide⟩, ⟨by decide, by decide⟩, ?_⟩
      refine ⟨_, rfl, (by show 2 ≤ sizeLine; decide), fun p np => q' p _ (su.trans (same_new np _)) ⟨fun y => hD ?_, upd_same⟩⟩
      have := not_none_same su np
      rw [← y]
      exact this
    have hqs : ∀ y ∈ qs, y.2 ∈ ss ∧ y.2.2.s = v := fun y hy => by
      have : y.2 ∈ qs.map (·.2) := List.mem_map.mpr ⟨y, hy, rfl⟩
      rw [eq] at this
      obtain ⟨h1, h2⟩ := List.mem_filter.mp this
      exact ⟨h1, of_decide_eq_true h2⟩
    have lqs : qs.length ≤ 14 := by
      have h1 := congrArg List.length eq
      have := List.length_filter_le (fun z : Addr × AM.Stp => decide (z.2.s = v)) ss
      rw [List.length_map] at h1
      omega
    have S3 := S1.up s3
    have k3 : Kp st a H1 H3 := wo_mono s3
    refine ⟨D, _, qs.map fun q => pdat q.2, rfl, SqL.of e3, fun x hx => ?_, dp_pairs qs fun y hy => ⟨(hq y hy).2, (ok1.up (Tups.of s3)) _ (hqs y hy).1⟩, ?_, ?_, fun d hd => ?_, fun ys p pm np => ?_⟩
    · obtain ⟨y, hy, rfl⟩ := List.mem_map.mp hx
      exact ⟨_, rfl⟩
    · exact PySem.W.AllAlike.of fun y z => alike_pair _ _
    · exact PySem.W.Sortable.tuples fun y => ⟨_, _, rfl⟩
    · obtain ⟨y, hy, rfl⟩ := List.mem_map.mp hd
      have := (lay_pair y.2).2
      omega
    obtain ⟨qp, pm2, rfl⟩ := perm_map (fun q : Addr × Addr × AM.Stp => V.ref q.1) pm qs rfl
    obtain ⟨k4, S4, g4⟩ := S3.made np (.lst (qp.map fun q => V.ref q.1))
    have gp := (wo_some g4).2.2
    have s4 := same_new np (.lst (qp.map fun q => V.ref q.1))
    have hqp : ∀ y ∈ qp, y.2 ∈ ss ∧ y.2.2.s = v ∧ (upd H3 p (.lst (qp.map fun q => V.ref q.1))) y.1 = some (.tup [.int (1 * y.2.2.x + 1 * y.2.2.y), .ref y.2.1]) := fun y hy => by
      have hy := pm2.mem_iff.mp hy
      exact ⟨(hqs y hy).1, (hqs y hy).2, s4 _ _ (hq y hy).2⟩
    have lqp : qp.length ≤ 14 := by rw [pm2.length_eq]; exact lqs
    have s34 := s3.trans s4
    have k34 := k3.trans k4
    have gF4 := k34 _ _ gF
    have k04 := k1.trans k34
    generalize upd H3 p (.lst (qp.map fun q => V.ref q.1)) = H4 at k4 S4 g4 gp s4 hqp s34 k34 gF4 k04 ⊢
    refine ⟨_, rfl, (by show 0 ≤ sizeLine; decide), fun p5 n5 => ?_⟩
    obtain ⟨k5, S5, g5⟩ := S4.made n5 (.lst [])
    have s5 := same_new n5 (.lst [])
    have gp5 := k5 _ _ g4
    have gF5 := k5 _ _ gF4
    replace hqp := fun y hy => (⟨(hqp y hy).1, (hqp y hy).2.1, s5 _ _ (hqp y hy).2.2⟩ : _ ∧ _ ∧ _)
    have k05 := k04.trans k5
    have ok5 := ok1.up (Tups.of (s34.trans s5))
    have e5 := (wo_some g5).2.2
    generalize upd H4 p5 (.lst []) = H5 at k5 S5 g5 s5 gp5 gF5 hqp k05 ok5 e5 ⊢
    refine ⟨_, _, .lst (SqL.of (wo_some gp5).2.2) (dp_pairs qp fun y hy => ⟨(hqp y hy).2.2, ok5 _ (hqp y hy).1⟩), .lst (SqL.of e5) .nil, shaped_list (lay_pairs qp).1 (lay_pairs qp).2 (by decide), shaped_nil, _, rfl, ?_⟩
    rw [eqv_nil]
    refine ite2 (fun e => ?_) (fun e => ?_)
    · exact ⟨_, rfl, q F ws v H5 c1 k05 gF5 sub wk (by omega) S5 c11 (by omega)⟩
    have hne : qp ≠ [] := fun z => by
      subst z
      exact e rfl
    refine ⟨fun σ' H' => ∃ (z : Addr × AM.Stp) (c' : Int), z ∈ ss ∧ z.2.s = v ∧ Kp st a H H' ∧ wo st a H' F = some (.lst (refs (ws ++ [z]))) ∧ Strm H' st a c' ∧ c1 ≤ c' ∧ c' ≤ c1 + 2 ∧
      ∃ x7 x8 x9, σ' = [some (.ref st), some (.ref l), some (.int b), some (.int many), some (.int lean), some (.int v), some (.ref F), x7, x8, x9], ?_, ?_⟩
    · refine ⟨_, rfl, .inl ⟨rfl, _, SqL.of (wo_some gF5).2.2⟩, _, rfl, st, a, 3, c1, rfl, S5, by omega, by decide, by decide, fun r H6 r1 r2 k6 S6 => ⟨_, rfl, _, _, rfl, rfl, _, rfl, ?_⟩⟩
      have gp6 := k6 _ _ gp5
      have up6 : ∀ {y xs}, y ∈ qp → H5 y.1 = some (.tup xs) → H6 y.1 = some (.tup xs) := fun {y xs} hy h => by
        refine k6.get ?_
        rw [wo_get]
        · exact h
        · obtain ⟨⟨ns, x, m, h3, h4, _⟩, _⟩ := S5
          exact fun z => by rw [z, h3] at h; cases h
        · obtain ⟨⟨ns, x, m, h3, h4, _⟩, _⟩ := S5
          exact fun z => by rw [z, h4] at h; cases h
      have fin : ∀ (z : Addr × AM.Stp) (H7 : Hp) (c7 : Int), z ∈ ss → z.2.s = v → Kp st a H H7 → wo st a H7 F = some (.lst (refs ws)) → Strm H7 st a c7 → c1 ≤ c7 → c7 ≤ c1 + 2 → Kp st a H (upd H7 F (.lst (refs ws ++ [.ref z.1]))) ∧ wo st a (upd H7 F (.lst (refs ws ++ [.ref z.1]))) F = some (.lst (refs (ws ++ [z]))) ∧ Strm (upd H7 F (.lst (refs ws ++ [.ref z.1]))) st a c7 := fun z H7 c7 h1 h2 h3 h4 h5 _ _ => by
        refine ⟨h3.mut nF0 F1 F2, ?_, h5.upd F1 F2⟩
        rw [wo_get F1 F2, upd_same]
        simp [refs]
      refine ite2 (fun _ => ?_) (fun _ => ?_)
      · obtain ⟨y, yr, rfl⟩ : ∃ y yr, qp = y :: yr := by
          cases qp with
          | nil => exact absurd rfl hne
          | cons y yr => exact ⟨y, yr, rfl⟩
        obtain ⟨h1, h2, h3⟩ := hqp y (List.mem_cons_self ..)
        have gF6 := k6 _ _ gF5
        obtain ⟨f1, f2, f3⟩ := fin y.2 H6 (c1 + 1) h1 h2 (k05.trans k6) gF6 S6 (by omega) (by omega)
        refine ⟨_, rfl, p, _, _, _, rfl, rfl, SqL.of (wo_some gp6).2.2, at_zero _ _, _, _, _, _, rfl, rfl, SqT.of (up6 (List.mem_cons_self ..) h3), rfl, F, _, _, rfl, rfl, (wo_some gF6).2.2, small_lt (by rw [refs_len]; omega), ?_⟩
        exact ⟨y.2, c1 + 1, h1, h2, f1, f2, f3, by omega, by omega, _, _, _, rfl⟩
      · refine ⟨_, rfl, _, rfl, st, a, p, c1 + 1, _, rfl, S6, by omega, gp6, by simpa using hne, by rw [List.length_map]; omega, fun u H7 hu k7 S7 => ?_⟩
        obtain ⟨y, hy, rfl⟩ := List.mem_map.mp hu
        obtain ⟨h1, h2, h3⟩ := hqp y hy
        have gF7 := k7 _ _ (k6 _ _ gF5)
        have h6 := up6 hy h3
        have h7 : H7 y.1 = some (.tup [.int (1 * y.2.2.x + 1 * y.2.2.y), .ref y.2.1]) := by
          refine k7.get ?_
          rw [wo_get]
          · exact h6
          · obtain ⟨⟨ns, x, m, h3, h4, _⟩, _⟩ := S6
            exact fun z => by rw [z, h3] at h6; cases h6
          · obtain ⟨⟨ns, x, m, h3, h4, _⟩, _⟩ := S6
            exact fun z => by rw [z, h4] at h6; cases h6
        obtain ⟨f1, f2, f3⟩ := fin y.2 H7 (c1 + 1 + 1) h1 h2 (k05.trans (k6.trans k7)) gF7 S7 (by omega) (by omega)
        refine ⟨_, _, _, _, rfl, rfl, SqT.of h7, rfl, F, _, _, rfl, rfl, (wo_some gF7).2.2, small_lt (by rw [refs_len]; omega), ?_⟩
        exact ⟨y.2, c1 + 1 + 1, h1, h2, f1, f2, f3, by omega, by omega, _, _, _, rfl⟩
    · rintro σ' H8 ⟨z, c8, hz, hzs, k8, g8, S8, c81, c82, y7, y8, y9, rfl⟩
      obtain ⟨bb, h1, h2⟩ := ((ok.up (Tups.of k8)).up (Tups.of wo_same)) z hz
      have el : atI (refs (ws ++ [z])) (-1) = some (.ref z.1) := by
        rw [refs_app]
        exact at_last _ _
      refine ⟨_, rfl, _, rfl, F, _, _, _, rfl, rfl, SqL.of (wo_some g8).2.2, el, _, _, _, _, rfl, rfl, SqT.of h1, rfl, ?_⟩
      refine ⟨ws ++ [z], z.2.t, c8, k8, g8, fun y hy => ?_, ?_, ?_, S8, by omega, by omega, _, _, _, rfl⟩
      · rcases List.mem_append.mp hy with hy | hy
        · exact sub y hy
        · simp at hy
          rw [hy]
          exact hz
      · rw [stps_app]
        exact wk.snoc hzs
      · rw [List.length_append, List.length_singleton]
        omega
  · rintro σ H1 ⟨ws, v, c1, k1, gF, sub, wk, len, S1, c11, c12, x7, x8, x9, rfl⟩
    exact ⟨_, rfl, q F ws v H1 c1 k1 gF sub wk (by omega) S1 c11 (by omega)⟩
end
end Any
end
section
set_option Elab.async false
set_option linter.all false
set_option maxRecDepth 100000
set_option maxHeartbeats 4000000
namespace Any
open PySem PySem.Spec PyProof.Rows L2
/-! ### == of webs -/
def DId : Eqv := fun x y _ => ∃ a, x = .ref a ∧ y = .ref a
theorem mon_id : Mon DId := fun _ _ _ _ _ d => d
theorem eqG_id {X : Cx} : EqG X 0 DId := by
  intro A pins s σ H x y u v sb I rx ry d
  obtain ⟨a, rfl, rfl⟩ := d
  cases rx
  cases ry
  exact SeqAt.EqAt.same (A := A) (s := s) (.ref a) X.prog X.w X.xe _ ⟨rfl, H, I, Ext.rfl'⟩
theorem op_eqId {X : Cx} (hr : Room 1 X.A) : OpR X (compareOp .Eq) (rEqG (DList DId)) := op_eqG (rcG_list mon_id eqG_id) hr
def SameWeb (K : PySem.W.Frag) (a b : Addr) (H : Hp) : Prop := a = b ∧ ∃ N ss, WebAt K H a N ss
section
variable {P : Program} {w : World} {K : PySem.W.Frag} {mg : Str → Option Value} {base : Heap}
theorem web_ty (T : Txt K mg) {H : Hp} {a : Addr} {N : Nat} {ss : SL} (h : WebAt K H a N ss) : TyY K H (.ref a) (.ref (He.ga K "Web")) := by
  obtain ⟨dx, fs, l, h1, _⟩ := h.ins
  exact .base (.ins h1 T.webC T.webT.ha T.webT.hn T.webT.htk T.webT.hm)
theorem sc_Web_eq : FnScope ["self", "other"] ["self", "other"] (defScope st_Web_eq) := ⟨rfl, rfl, rfl, by decide +kernel, rfl, by decide +kernel, by decide +kernel⟩
theorem ok_Web_eq (T : Txt K mg) : FnOk P w K mg base CX0 2 (He.ma K (He.ga K "Web") "__eq__") (fdOf K (He.ma K (He.ga K "Web") "__eq__")) ["self", "other"] (spEq (SameWeb K)) := by
  refine T.webQ.ok sc_Web_eq (fun vs H Q E h => ?_) (fun cdv A outer s H vs Q E hr h => ?_)
  · obtain ⟨a, b, rfl, _⟩ := h
    rfl
  obtain ⟨a, _, rfl, ⟨rfl, N, ss, W⟩, q⟩ := h
  refine ⟨_, (pss_cons (ps_if (pt_not (pt_val (pe_callB call_isiY rfl T.n_isinstance (by decide +kernel) (pa_cons (pv 1) (pa_cons (pe_glob (v := .ref (He.ga K "Web")) rfl T.c_Web rfl) pa_nil))))) (pss_one (ps_ret pe_bl)) pss_nil)
    (pss_one (ps_ret (pe_and (pe_cmpR op_eq (pe_fld (pv 0) rfl) (pe_fld (pv 1) rfl) (nomark _)) (pe_one (pe_cmpR (op_eqId hr) (pe_fld (pv 0) rfl) (pe_fld (pv 1) rfl) (nomark _))))))), ?_⟩
  have ty := web_ty T W
  obtain ⟨dx, fs, l, h1, h2, h3, h4⟩ := W.ins
  refine ⟨_, rfl, _, _, _, _, true, rfl, .own _, ty, T.webT.kw, true, rfl, iteF ?_⟩
  refine ⟨_, rfl, a, _, dx, fs, _, rfl, h1, T.webC, T.webP, h2, _, rfl, a, _, dx, fs, _, rfl, h1, T.webC, T.webP, h2, rfl, true, congrArg V.bl (decide_eq_true rfl), ?_⟩
  rw [if_pos rfl]
  refine ⟨_, rfl, a, _, dx, fs, _, rfl, h1, T.webC, T.webS, h3, _, rfl, a, _, dx, fs, _, rfl, h1, T.webC, T.webS, h3, ⟨l, l, _, _, rfl, rfl, h4, h4, rfl, fun i x y e1 e2 => ?_⟩, fun H' e => q H' e⟩
  rw [e1] at e2
  cases e2
  rw [refs, List.getElem?_map] at e1
  cases hz : ss[i]? with
  | none => rw [hz] at e1; cases e1
  | some z =>
    rw [hz] at e1
    cases e1
    exact ⟨_, rfl, rfl⟩
/-! ### _law_same -/
/-- one thing on either side -/
inductive At (K : PySem.W.Frag) (H : Hp) : V → Prop where
  | non : At K H .non
  | int (i : Int) : At K H (.int i)
  | str (z : Str) : At K H (.str z)
  | bl (b : Bool) : At K H (.bl b)
  | fn {f : Addr} {o : Obj} (e : K.lookup f = some o) (c : o.cls = .type "function") : At K H (.ref f)
  | web {a : Addr} {N : Nat} {ss : SL} (h : WebAt K H a N ss) : At K H (.ref a)
theorem At.up {H H' : Hp} {v : V} (h : At K H v) (s : Same H H') : At K H' v := by
  cases h with
  | non => exact .non
  | int i => exact .int i
  | str z => exact .str z
  | bl b => exact .bl b
  | fn e c => exact .fn e c
  | web h => exact .web (h.up s)
def Sm (K : PySem.W.Frag) (H : Hp) : Nat → V → V → Prop
  | 0, x, y => x = y ∧ At K H x
  | n + 1, x, y => (x = y ∧ At K H x) ∨
    (∃ a b xs ys, x = .ref a ∧ y = .ref b ∧ H a = some (.tup xs) ∧ H b = some (.tup ys) ∧ xs.length = ys.length ∧ xs.length ≤ 1000 ∧ ∀ (i : Nat) u v, xs[i]? = some u → ys[i]? = some v → Sm K H n u v) ∨
    (∃ a b, x = .ref a ∧ y = .ref b ∧ H a = some (.lst []) ∧ H b = some (.lst [])) ∨ (n ≠ 0 ∧ ∃ a, x = .ref a ∧ y = .ref a ∧ H a = some (.dK []))
theorem Sm.up {H H' : Hp} (s : Same H H') : ∀ {n : Nat} {x y : V}, Sm K H n x y → Sm K H' n x y
  | 0, _, _, h => ⟨h.1, h.2.up s⟩
  | n + 1, _, _, h => by
    rcases h with ⟨h1, h2⟩ | ⟨a, b, xs, ys, h1, h2, h3, h4, h5, h6, h7⟩ | ⟨a, b, h1, h2, h3, h4⟩ | ⟨h0, a, h1, h2, h3⟩
    · exact .inl ⟨h1, h2.up s⟩
    · exact .inr (.inl ⟨a, b, xs, ys, h1, h2, s _ _ h3, s _ _ h4, h5, h6, fun i u v e1 e2 => Sm.up s (h7 i u v e1 e2)⟩)
    · exact .inr (.inr (.inl ⟨a, b, h1, h2, s _ _ h3, s _ _ h4⟩))
    · exact .inr (.inr (.inr ⟨h0, a, h1, h2, s _ _ h3⟩))
theorem At.ty (T : Txt K mg) {H : Hp} {v : V} (h : At K H v) : ∃ t, TyY K H v t ∧ PySem.W.kitOne K t (.type "list") = some false ∧ PySem.W.kitOne K t (.type "tuple") = some false ∧ PySem.W.kitOne K t (.type "dict") = some false ∧
    ∃ b, PySem.W.kitOne K t (.type "bool") = some b ∧ (b = true → ∃ z, v = .bl z) := by
  cases h with
  | non => exact ⟨_, .base .non, kit_ty (by decide +kernel), kit_ty (by decide +kernel), kit_ty (by decide +kernel), false, kit_ty (by decide +kernel), fun z => by cases z⟩
  | int i => exact ⟨_, .base (.int i), kit_ty (by decide +kernel), kit_ty (by decide +kernel), kit_ty (by decide +kernel), false, kit_ty (by decide +kernel), fun z => by cases z⟩
  | str z => exact ⟨_, .base (.str z), kit_ty (by decide +kernel), kit_ty (by decide +kernel), kit_ty (by decide +kernel), false, kit_ty (by decide +kernel), fun z => by cases z⟩
  | bl b => exact ⟨_, .base (.bl b), kit_ty (by decide +kernel), kit_ty (by decide +kernel), kit_ty (by decide +kernel), true, kit_ty (by decide +kernel), fun _ => ⟨b, rfl⟩⟩
  | fn e c => exact ⟨_, .fn e c, kit_ty (by decide +kernel), kit_ty (by decide +kernel), kit_ty (by decide +kernel), false, kit_ty (by decide +kernel), fun z => by cases z⟩
  | web h => exact ⟨_, web_ty T h, T.webT.kl, T.webT.kt, T.webT.kd, false, T.webT.kb, fun z => by cases z⟩
/-- == that says True -/
def rEqS (K : PySem.W.Frag) : R2 := fun x y H Q => x = y ∧ At K H x ∧ ∀ H', Same H H' → Q (.bl true) H'
theorem op_eqS {X : Cx} (T : Txt X.K X.mg) (hr : Room 2 X.A) : OpR X (compareOp .Eq) (rEqS X.K) := by
  intro pins s σ H x y u v Q I rx ry h
  obtain ⟨rfl, at_, q⟩ := h
  have q0 := q H (Same.refl _)
  have flat : scal x x = true → wpAny (model X.prog X.w) X.A (compareOp .Eq u v) (EP X pins σ Q) X.xe s := fun h => op_eq pins s σ H x x u v Q I rx ry ⟨h, by rw [decide_eq_true rfl]; exact q0⟩
  cases at_ with
  | non => exact flat rfl
  | int i => exact flat rfl
  | str z => exact flat rfl
  | bl b => exact flat rfl
  | fn e c =>
    cases rx
    cases ry
    exact fn_eq hr.units0 I e c q0
  | web h =>
    obtain ⟨dx, fs, l, h1, _⟩ := h.ins
    exact op_eqG (rcG_ins (ok_Web_eq T) T.webG T.webF T.webQ.b pass0) hr pins s σ H _ _ u v Q I rx ry ⟨⟨_, _, dx, dx, fs, fs, rfl, rfl, h1, h1, rfl, _, _, h⟩, q⟩
theorem eqS (T : Txt K mg) {X : Cx} (hr : Room 2 X.A) (hK : X.K = K := by rfl) (hm : X.mg = mg := by rfl) : OpR X (compareOp .Eq) (rEqS K) := by
  subst hK
  subst hm
  exact op_eqS T hr
/-- a comprehension whose items are all True -/
theorem lc_trues {J : It} {g : TG} {te : TE} {vs : List Nat} {σ : L2.St} {H : Hp} {D : Addr} {Qd : Hp → Prop} (n : Nat) (hD : H D = none) (hn : n ≤ 1000) (hgo : ∀ i H', i < n → Same H H' → J.go i H') (hstop : ∀ H', Same H H' → J.stop n H')
    (hs : ∀ i v H' H'' (Q : VK), i < n → Same H H' → J.yld i H' v H'' → (∀ H4, Same H' H4 → Q (.bl true) H4) → g v (wipe σ vs) H'' fun σ2 H2 => wipe σ2 vs = wipe σ vs ∧ te σ2 H2 Q)
    (hd : ∀ H', Same H H' → H' D = some (.lst ((List.replicate n true).map V.bl)) → Qd H') :
    ∃ W : Nat → Nat → Hp → Prop, (∃ m, W 0 m (upd H D (.lst []))) ∧ ∀ i_1 m H_1, W i_1 m H_1 →
      (J.stop i_1 H_1 ∧ Qd H_1) ∨ (J.go i_1 H_1 ∧ ∃ Nx : Hp → Prop, (∀ H', Nx H' → ∃ m', m' < m ∧ W (i_1 + 1) m' H') ∧ ∀ x H', J.yld i_1 H_1 x H' → g x (wipe σ vs) H' fun σ2 H2 => wipe σ2 vs = wipe σ vs ∧ tYes σ2 H2 fun b H3 =>
        if b = true then te σ2 H3 fun y H4 => ∃ acc, H4 D = some (.lst acc) ∧ acc.length < sizeLine ∧ Nx (upd H4 D (.lst (acc ++ [y]))) else Nx H3) := by
  refine ⟨fun i m H' => m = n - i ∧ i ≤ n ∧ Same H H' ∧ H' D = some (.lst ((List.replicate i true).map V.bl)), ⟨_, rfl, Nat.zero_le _, same_new hD _, upd_same⟩, ?_⟩
  rintro i m H1 ⟨rfl, hi, s1, e1⟩
  rcases Nat.lt_or_ge i n with lt | ge
  · refine .inr ⟨hgo i H1 lt s1, fun H' => i + 1 ≤ n ∧ Same H H' ∧ H' D = some (.lst ((List.replicate (i + 1) true).map V.bl)), fun H' h => ⟨_, Nat.sub_lt_sub_left lt (Nat.lt_succ_self i), rfl, h⟩, fun v H' y => ?_⟩
    refine hs i v H1 H' (fun y H4 => ∃ acc, H4 D = some (.lst acc) ∧ acc.length < sizeLine ∧ i + 1 ≤ n ∧ Same H (upd H4 D (.lst (acc ++ [y]))) ∧ (upd H4 D (.lst (acc ++ [y]))) D = some (.lst ((List.replicate (i + 1) true).map V.bl))) lt s1 y fun H4 s4 => ?_
    refine ⟨_, s4 _ _ e1, small_lt (by rw [List.length_map, List.length_replicate]; omega), lt, Same.mut (Same.trans s1 s4) hD, ?_⟩
    rw [upd_same, List.replicate_succ', List.map_append]
    rfl
  · have e : i = n := Nat.le_antisymm hi ge
    subst e
    exact .inl ⟨hstop H1 s1, hd H1 s1 e1⟩
def spSame (K : PySem.W.Frag) (n : Nat) : Sp := fun vs H Q _ => ∃ x y, vs = [x, y] ∧ Sm K H n x y ∧ ∀ H', Same H H' → Q (.bl true) H'
theorem all_reps (n : Nat) : (List.replicate n true).all id = true := by
  rw [List.all_eq_true]
  intro b hb
  exact (List.mem_replicate.mp hb).2
theorem any3 {t a b c : Value} {x y z : Bool} (h1 : PySem.W.kitOne K t a = some x) (h2 : PySem.W.kitOne K t b = some y) (h3 : PySem.W.kitOne K t c = some z) : PySem.W.kitAny K t [a, b, c] = some (x || y || z) :=
  kitAny_cons h1 (fun e => by rw [e, any2 h2 h3]; rfl) (fun e => by rw [e]; rfl)
theorem sc_law_same : FnScope ["_law_found", "_law_due", "_law_mine", "_law_theirs"] ["_law_found", "_law_due"] (defScope st_law_same) := ⟨rfl, rfl, rfl, by decide +kernel, rfl, by decide +kernel, by decide +kernel⟩
theorem ok_same0 (T : Txt K mg) : FnK P w K mg base CX0 3 "_law_same" ["_law_found", "_law_due"] (spSame K 0) := by
  refine T.law_same.ok sc_law_same (fun vs H Q E h => ?_) (fun cdv A outer s H vs Q E hr h => ?_)
  · obtain ⟨x, y, rfl, _⟩ := h
    rfl
  obtain ⟨x, y, rfl, h, q⟩ := h
  refine ⟨_, (pss_cons (ps_if (pt_val (pe_callB call_isiTY rfl T.n_isinstance (by decide +kernel) (pa_cons (pv 1) (pa_cons (pe_tup (pa_cons (pe_bltn (v := .ty "list") rfl T.n_list (by decide +kernel) rfl) (pa_cons (pe_bltn (v := .ty "tuple") rfl T.n_tuple (by decide +kernel) rfl) pa_nil))) pa_nil)))) (pss_cons (ps_if (PW.pt (pw_or (pt_cmpR op_ne (pe_callB call_isiY rfl T.n_isinstance (by decide +kernel) (pa_cons (pv 0) (pa_cons (pe_bltn (v := .ty "list") rfl T.n_list (by decide +kernel) rfl) pa_nil))) (pe_callB call_isiY rfl T.n_isinstance (by decide +kernel) (pa_cons (pv 1) (pa_cons (pe_bltn (v := .ty "list") rfl T.n_list (by decide +kernel) rfl) pa_nil))) (nomark _)) (pw_or1 (pt_cmpR op_ne (pe_callB call_isiY rfl T.n_isinstance (by decide +kernel) (pa_cons (pv 0) (pa_cons (pe_bltn (v := .ty "tuple") rfl T.n_tuple (by decide +kernel) rfl) pa_nil))) (pe_callB call_isiY rfl T.n_isinstance (by decide +kernel) (pa_cons (pv 1) (pa_cons (pe_bltn (v := .ty "tuple") rfl T.n_tuple (by decide +kernel) rfl) pa_nil))) (nomark _))))) (pss_one (ps_ret pe_bl)) pss_nil)
    (pss_one (ps_ret (pe_and (pe_cmpR op_eq (pe_callB call_len_seq rfl T.n_len PySem.boot_len (pa_cons (pv 0) pa_nil)) (pe_callB call_len_seq rfl T.n_len PySem.boot_len (pa_cons (pv 1) pa_nil)) (nomark _)) (pe_one (pe_callB (cr_all rfl) rfl T.n_all (by decide +kernel) (pa_cons (pe_lc (own := [("_law_mine", 2), ("_law_theirs", 3)]) (g := gTup K 2 (gCons (gName 2) (gCons (gName 3) gNil))) rfl sc_law_same.nd (RZ.pi_zipA (by rfl) T.n_zip (pa_cons (pv 0) (pa_cons (pv 1) pa_nil))) (blkOk_by (own := [("_law_mine", 2), ("_law_theirs", 3)]) (N := ["_law_found", "_law_due", "_law_mine", "_law_theirs"]) (sc := defScope st_law_same) (by decide +kernel)) (fun _ _ _ _ _ => (pg_tup rfl (pgs_cons (pg_name (i := 2) sc_law_same.nd rfl (Or.inl rfl) (Or.inr rfl)) (pgs_cons (pg_name (i := 3) sc_law_same.nd rfl (Or.inl rfl) (Or.inr rfl)) pgs_nil)))) (fun _ _ _ _ _ => pts_nil) (fun _ _ _ _ _ => (pe_f T.law_same (ok_never (CX := CX0) (k := 0)) hr pass0 (pa_cons (pv 2) (pa_cons (pv 3) pa_nil))))) pa_nil))))))) pss_nil)
    (pss_cons (ps_if (pt_val (pe_callB call_isiY rfl T.n_isinstance (by decide +kernel) (pa_cons (pv 1) (pa_cons (pe_bltn (v := .ty "dict") rfl T.n_dict (by decide +kernel) rfl) pa_nil)))) (pss_one (ps_ret (pe_and (pe_callB call_isiY rfl T.n_isinstance (by decide +kernel) (pa_cons (pv 0) (pa_cons (pe_bltn (v := .ty "dict") rfl T.n_dict (by decide +kernel) rfl) pa_nil))) (pe_one (pe_f T.law_same (ok_never (CX := CX0) (k := 0)) hr pass0 (pa_cons (LiI.pe_listItems rfl (pv 0) rfl T.n_list (by decide +kernel)) (pa_cons (LiI.pe_listItems rfl (pv 1) rfl T.n_list (by decide +kernel)) pa_nil))))))) pss_nil)
    (pss_cons (ps_if (PW.pt (pw_or (pt_val (pe_callB call_isiY rfl T.n_isinstance (by decide +kernel) (pa_cons (pv 1) (pa_cons (pe_bltn (v := .ty "bool") rfl T.n_bool (by decide +kernel) rfl) pa_nil)))) (pw_or1 (pt_val (pe_callB call_isiY rfl T.n_isinstance (by decide +kernel) (pa_cons (pv 0) (pa_cons (pe_bltn (v := .ty "bool") rfl T.n_bool (by decide +kernel) rfl) pa_nil))))))) (pss_one (ps_ret (pe_and (pe_callB call_isiY rfl T.n_isinstance (by decide +kernel) (pa_cons (pv 1) (pa_cons (pe_bltn (v := .ty "bool") rfl T.n_bool (by decide +kernel) rfl) pa_nil))) (pe_and (pe_callB call_isiY rfl T.n_isinstance (by decide +kernel) (pa_cons (pv 0) (pa_cons (pe_bltn (v := .ty "bool") rfl T.n_bool (by decide +kernel) rfl) pa_nil))) (pe_one (pe_cmpR (eqS T (hr.mono (by decide))) (pv 0) (pv 1) (nomark _))))))) pss_nil)
    (pss_one (ps_ret (pe_and (pe_not (pe_callB call_isiTY rfl T.n_isinstance (by decide +kernel) (pa_cons (pv 0) (pa_cons (pe_tup (pa_cons (pe_bltn (v := .ty "list") rfl T.n_list (by decide +kernel) rfl) (pa_cons (pe_bltn (v := .ty "tuple") rfl T.n_tuple (by decide +kernel) rfl) (pa_cons (pe_bltn (v := .ty "dict") rfl T.n_dict (by decide +kernel) rfl) pa_nil)))) pa_nil)))) (pe_one (pe_cmpR (eqS T (hr.mono (by decide))) (pv 0) (pv 1) (nomark _))))))))), ?_⟩
  obtain ⟨rfl, at_⟩ := h
  obtain ⟨t, ty, k1, k2, k3, b, k4, k5⟩ := at_.ty T
  refine ⟨_, rfl, (by show 2 ≤ sizeLine; decide), fun p hp => ?_⟩
  have s1 := same_new hp (.tup [.ty "list", .ty "tuple"])
  refine ⟨_, p, _, t, _, false, rfl, upd_same, .cons (.ty "list") (.cons (.ty "tuple") .nil), tyx_same ty s1, any2 k1 k2, false, rfl, iteF ?_⟩
  refine ⟨_, rfl, _, _, _, _, false, rfl, .ty "dict", tyx_same ty s1, k3, false, rfl, iteF ?_⟩
  refine ⟨_, rfl, _, _, _, _, b, rfl, .ty "bool", tyx_same ty s1, k4, b, rfl, ?_⟩
  cases b with
  | true =>
    refine iteT ⟨_, rfl, _, _, _, _, true, rfl, .ty "bool", tyx_same ty s1, k4, true, rfl, ?_⟩
    rw [if_pos rfl]
    refine ⟨_, rfl, _, _, _, _, true, rfl, .ty "bool", tyx_same ty s1, k4, true, rfl, ?_⟩
    rw [if_pos rfl]
    exact ⟨_, rfl, _, rfl, rfl, at_.up s1, fun H' s2 => q H' (s1.trans s2)⟩
  | false =>
    refine iteF ⟨_, rfl, _, _, _, _, false, rfl, .ty "bool", tyx_same ty s1, k4, false, rfl, iteF ?_⟩
    refine ⟨_, rfl, (by show 3 ≤ sizeLine; decide), fun p2 hp2 => ?_⟩
    have s2 := s1.trans (same_new hp2 (.tup [.ty "list", .ty "tuple", .ty "dict"]))
    refine ⟨_, p2, _, t, _, false, rfl, upd_same, .cons (.ty "list") (.cons (.ty "tuple") (.cons (.ty "dict") .nil)), tyx_same ty s2, any3 k1 k2 k3, false, rfl, true, rfl, ?_⟩
    rw [if_pos rfl]
    exact ⟨_, rfl, _, rfl, rfl, at_.up s2, fun H' s3 => q H' (s2.trans s3)⟩
theorem ok_sameS (T : Txt K mg) {n k : Nat} (F : FnK P w K mg base CX0 (k + 2) "_law_same" ["_law_found", "_law_due"] (spSame K n)) : FnK P w K mg base CX0 (k + 2 + 1) "_law_same" ["_law_found", "_law_due"] (spSame K (n + 1)) := by
  refine T.law_same.ok sc_law_same (fun vs H Q E h => ?_) (fun cdv A outer s H vs Q E hr h => ?_)
  · obtain ⟨x, y, rfl, _⟩ := h
    rfl
  obtain ⟨x, y, rfl, h, q⟩ := h
  refine ⟨_, (pss_cons (ps_if (pt_val (pe_callB call_isiTY rfl T.n_isinstance (by decide +kernel) (pa_cons (pv 1) (pa_cons (pe_tup (pa_cons (pe_bltn (v := .ty "list") rfl T.n_list (by decide +kernel) rfl) (pa_cons (pe_bltn (v := .ty "tuple") rfl T.n_tuple (by decide +kernel) rfl) pa_nil))) pa_nil)))) (pss_cons (ps_if (PW.pt (pw_or (pt_cmpR op_ne (pe_callB call_isiY rfl T.n_isinstance (by decide +kernel) (pa_cons (pv 0) (pa_cons (pe_bltn (v := .ty "list") rfl T.n_list (by decide +kernel) rfl) pa_nil))) (pe_callB call_isiY rfl T.n_isinstance (by decide +kernel) (pa_cons (pv 1) (pa_cons (pe_bltn (v := .ty "list") rfl T.n_list (by decide +kernel) rfl) pa_nil))) (nomark _)) (pw_or1 (pt_cmpR op_ne (pe_callB call_isiY rfl T.n_isinstance (by decide +kernel) (pa_cons (pv 0) (pa_cons (pe_bltn (v := .ty "tuple") rfl T.n_tuple (by decide +kernel) rfl) pa_nil))) (pe_callB call_isiY rfl T.n_isinstance (by decide +kernel) (pa_cons (pv 1) (pa_cons (pe_bltn (v := .ty "tuple") rfl T.n_tuple (by decide +kernel) rfl) pa_nil))) (nomark _))))) (pss_one (ps_ret pe_bl)) pss_nil)
    (pss_one (ps_ret (pe_and (pe_cmpR op_eq (pe_callB call_len_seq rfl T.n_len PySem.boot_len (pa_cons (pv 0) pa_nil)) (pe_callB call_len_seq rfl T.n_len PySem.boot_len (pa_cons (pv 1) pa_nil)) (nomark _)) (pe_one (pe_callB (cr_all rfl) rfl T.n_all (by decide +kernel) (pa_cons (pe_lc (own := [("_law_mine", 2), ("_law_theirs", 3)]) (g := gTup K 2 (gCons (gName 2) (gCons (gName 3) gNil))) rfl sc_law_same.nd (RZ.pi_zipA (by rfl) T.n_zip (pa_cons (pv 0) (pa_cons (pv 1) pa_nil))) (blkOk_by (own := [("_law_mine", 2), ("_law_theirs", 3)]) (N := ["_law_found", "_law_due", "_law_mine", "_law_theirs"]) (sc := defScope st_law_same) (by decide +kernel)) (fun _ _ _ _ _ => (pg_tup rfl (pgs_cons (pg_name (i := 2) sc_law_same.nd rfl (Or.inl rfl) (Or.inr rfl)) (pgs_cons (pg_name (i := 3) sc_law_same.nd rfl (Or.inl rfl) (Or.inr rfl)) pgs_nil)))) (fun _ _ _ _ _ => pts_nil) (fun _ _ _ _ _ => (pe_f T.law_same F hr pass0 (pa_cons (pv 2) (pa_cons (pv 3) pa_nil)) (Nat.le_refl _)))) pa_nil))))))) pss_nil)
    (pss_cons (ps_if (pt_val (pe_callB call_isiY rfl T.n_isinstance (by decide +kernel) (pa_cons (pv 1) (pa_cons (pe_bltn (v := .ty "dict") rfl T.n_dict (by decide +kernel) rfl) pa_nil)))) (pss_one (ps_ret (pe_and (pe_callB call_isiY rfl T.n_isinstance (by decide +kernel) (pa_cons (pv 0) (pa_cons (pe_bltn (v := .ty "dict") rfl T.n_dict (by decide +kernel) rfl) pa_nil))) (pe_one (pe_f T.law_same F hr pass0 (pa_cons (LiI.pe_listItems rfl (pv 0) rfl T.n_list (by decide +kernel)) (pa_cons (LiI.pe_listItems rfl (pv 1) rfl T.n_list (by decide +kernel)) pa_nil)) (Nat.le_refl _)))))) pss_nil)
    (pss_cons (ps_if (PW.pt (pw_or (pt_val (pe_callB call_isiY rfl T.n_isinstance (by decide +kernel) (pa_cons (pv 1) (pa_cons (pe_bltn (v := .ty "bool") rfl T.n_bool (by decide +kernel) rfl) pa_nil)))) (pw_or1 (pt_val (pe_callB call_isiY rfl T.n_isinstance (by decide +kernel) (pa_cons (pv 0) (pa_cons (pe_bltn (v := .ty "bool") rfl T.n_bool (by decide +kernel) rfl) pa_nil))))))) (pss_one (ps_ret (pe_and (pe_callB call_isiY rfl T.n_isinstance (by decide +kernel) (pa_cons (pv 1) (pa_cons (pe_bltn (v := .ty "bool") rfl T.n_bool (by decide +kernel) rfl) pa_nil))) (pe_and (pe_callB call_isiY rfl T.n_isinstance (by decide +kernel) (pa_cons (pv 0) (pa_cons (pe_bltn (v := .ty "bool") rfl T.n_bool (by decide +kernel) rfl) pa_nil))) (pe_one (pe_cmpR (eqS T (hr.mono (Nat.le_add_left 2 k))) (pv 0) (pv 1) (nomark _))))))) pss_nil)
    (pss_one (ps_ret (pe_and (pe_not (pe_callB call_isiTY rfl T.n_isinstance (by decide +kernel) (pa_cons (pv 0) (pa_cons (pe_tup (pa_cons (pe_bltn (v := .ty "list") rfl T.n_list (by decide +kernel) rfl) (pa_cons (pe_bltn (v := .ty "tuple") rfl T.n_tuple (by decide +kernel) rfl) (pa_cons (pe_bltn (v := .ty "dict") rfl T.n_dict (by decide +kernel) rfl) pa_nil)))) pa_nil)))) (pe_one (pe_cmpR (eqS T (hr.mono (Nat.le_add_left 2 k))) (pv 0) (pv 1) (nomark _))))))))), ?_⟩
  rcases h with h | ⟨a, b, xs, ys, rfl, rfl, ha, hb, hl, hn, hsm⟩ | ⟨a, b, rfl, rfl, ha, hb⟩ | ⟨n0, a, rfl, rfl, ha⟩
  · obtain ⟨rfl, at_⟩ := h
    obtain ⟨t, ty, k1, k2, k3, b, k4, k5⟩ := at_.ty T
    refine ⟨_, rfl, (by show 2 ≤ sizeLine; decide), fun p hp => ?_⟩
    have s1 := same_new hp (.tup [.ty "list", .ty "tuple"])
    refine ⟨_, p, _, t, _, false, rfl, upd_same, .cons (.ty "list") (.cons (.ty "tuple") .nil), tyx_same ty s1, any2 k1 k2, false, rfl, iteF ?_⟩
    refine ⟨_, rfl, _, _, _, _, false, rfl, .ty "dict", tyx_same ty s1, k3, false, rfl, iteF ?_⟩
    refine ⟨_, rfl, _, _, _, _, b, rfl, .ty "bool", tyx_same ty s1, k4, b, rfl, ?_⟩
    cases b with
    | true =>
      refine iteT ⟨_, rfl, _, _, _, _, true, rfl, .ty "bool", tyx_same ty s1, k4, true, rfl, ?_⟩
      rw [if_pos rfl]
      refine ⟨_, rfl, _, _, _, _, true, rfl, .ty "bool", tyx_same ty s1, k4, true, rfl, ?_⟩
      rw [if_pos rfl]
      exact ⟨_, rfl, _, rfl, rfl, at_.up s1, fun H' s2 => q H' (s1.trans s2)⟩
    | false =>
      refine iteF ⟨_, rfl, _, _, _, _, false, rfl, .ty "bool", tyx_same ty s1, k4, false, rfl, iteF ?_⟩
      refine ⟨_, rfl, (by show 3 ≤ sizeLine; decide), fun p2 hp2 => ?_⟩
      have s2 := s1.trans (same_new hp2 (.tup [.ty "list", .ty "tuple", .ty "dict"]))
      refine ⟨_, p2, _, t, _, false, rfl, upd_same, .cons (.ty "list") (.cons (.ty "tuple") (.cons (.ty "dict") .nil)), tyx_same ty s2, any3 k1 k2 k3, false, rfl, true, rfl, ?_⟩
      rw [if_pos rfl]
      exact ⟨_, rfl, _, rfl, rfl, at_.up s2, fun H' s3 => q H' (s2.trans s3)⟩
  · refine ⟨_, rfl, (by show 2 ≤ sizeLine; decide), fun p hp => ?_⟩
    have s1 := same_new hp (.tup [.ty "list", .ty "tuple"])
    have k1 : PySem.W.kitOne K (.type "tuple") (.type "list") = some false := kit_ty (by decide +kernel)
    have k2 : PySem.W.kitOne K (.type "tuple") (.type "tuple") = some true := kit_ty (by decide +kernel)
    refine ⟨_, p, _, _, _, true, rfl, upd_same, .cons (.ty "list") (.cons (.ty "tuple") .nil), .base (.tup (s1 _ _ hb)), any2 k1 k2, true, rfl, iteT ?_⟩
    refine ⟨_, rfl, _, _, _, _, false, rfl, .ty "list", .base (.tup (s1 _ _ ha)), k1, _, rfl, _, _, _, _, false, rfl, .ty "list", .base (.tup (s1 _ _ hb)), k1, rfl, false, rfl, iteF ?_⟩
    refine ⟨_, rfl, _, _, _, _, true, rfl, .ty "tuple", .base (.tup (s1 _ _ ha)), k2, _, rfl, _, _, _, _, true, rfl, .ty "tuple", .base (.tup (s1 _ _ hb)), k2, rfl, false, rfl, iteF ?_⟩
    refine ⟨_, rfl, _, _, rfl, .inr (SqT.of (s1 _ _ ha)), _, rfl, _, _, rfl, .inr (SqT.of (s1 _ _ hb)), rfl, _, rfl, ?_⟩
    rw [if_pos (decide_eq_true (by rw [hl]))]
    refine ⟨_, rfl, _, rfl, a, b, xs, ys, rfl, .inr ⟨SqT.of (s1 _ _ ha), SqT.of (s1 _ _ hb), fun D nD => ?_⟩⟩
    have sq : ∀ {H'}, Same (upd H p (.tup [.ty "list", .ty "tuple"])) H' → SqT K H' a xs ∧ SqT K H' b ys := fun s => ⟨SqT.of (s _ _ (s1 _ _ ha)), SqT.of (s _ _ (s1 _ _ hb))⟩
    refine lc_trues xs.length nD hn (fun i H' hi s2 => ?_) (fun H' s2 => ⟨xs, ys, (sq s2).1, (sq s2).2, .inl (Nat.le_refl _)⟩) (fun i v H' H'' Q' hi s2 y q' => ?_) fun H' s2 e => ?_
    · exact ⟨xs, ys, _, _, (sq s2).1, (sq s2).2, List.getElem?_eq_getElem hi, List.getElem?_eq_getElem (by omega)⟩
    · obtain ⟨t, x', y', rfl, nt, rfl, f1, f2⟩ := y
      have st := same_new nt (.tup [x', y'])
      refine ⟨_, _, rfl, SqT.of upd_same, rfl, _, _, rfl, _, _, rfl, rfl, rfl, ?_⟩
      exact ⟨_, rfl, _, rfl, x', y', rfl, (hsm i x' y' (f1 xs (sq s2).1) (f2 ys (sq s2).2)).up (s1.trans (s2.trans st)), fun H4 s4 => q' H4 (st.trans s4)⟩
    · refine ⟨D, _, rfl, SqL.of e, ?_⟩
      rw [all_reps]
      exact q H' (s1.trans s2)
  · refine ⟨_, rfl, (by show 2 ≤ sizeLine; decide), fun p hp => ?_⟩
    have s1 := same_new hp (.tup [.ty "list", .ty "tuple"])
    have k1 : PySem.W.kitOne K (.type "list") (.type "list") = some true := kit_ty (by decide +kernel)
    have k2 : PySem.W.kitOne K (.type "list") (.type "tuple") = some false := kit_ty (by decide +kernel)
    refine ⟨_, p, _, _, _, true, rfl, upd_same, .cons (.ty "list") (.cons (.ty "tuple") .nil), .base (.lst (s1 _ _ hb)), any2 k1 k2, true, rfl, iteT ?_⟩
    refine ⟨_, rfl, _, _, _, _, true, rfl, .ty "list", .base (.lst (s1 _ _ ha)), k1, _, rfl, _, _, _, _, true, rfl, .ty "list", .base (.lst (s1 _ _ hb)), k1, rfl, false, rfl, iteF ?_⟩
    refine ⟨_, rfl, _, _, _, _, false, rfl, .ty "tuple", .base (.lst (s1 _ _ ha)), k2, _, rfl, _, _, _, _, false, rfl, .ty "tuple", .base (.lst (s1 _ _ hb)), k2, rfl, false, rfl, iteF ?_⟩
    refine ⟨_, rfl, _, _, rfl, .inl (SqL.of (s1 _ _ ha)), _, rfl, _, _, rfl, .inl (SqL.of (s1 _ _ hb)), rfl, true, rfl, ?_⟩
    rw [if_pos rfl]
    refine ⟨_, rfl, _, rfl, a, b, [], [], rfl, .inl ⟨SqL.of (s1 _ _ ha), SqL.of (s1 _ _ hb), fun D nD => ?_⟩⟩
    refine lc_trues 0 nD (by decide) (fun i H' hi s2 => by omega) (fun H' s2 => ⟨[], [], SqL.of (s2 _ _ (s1 _ _ ha)), SqL.of (s2 _ _ (s1 _ _ hb)), .inl (Nat.le_refl _)⟩) (fun i v H' H'' Q' hi s2 y q' => by omega) fun H' s2 e => ?_
    refine ⟨D, _, rfl, SqL.of e, ?_⟩
    rw [all_reps]
    exact q H' (s1.trans s2)
  · refine ⟨_, rfl, (by show 2 ≤ sizeLine; decide), fun p hp => ?_⟩
    have s1 := same_new hp (.tup [.ty "list", .ty "tuple"])
    have k1 : PySem.W.kitOne K (.type "dict") (.type "list") = some false := kit_ty (by decide +kernel)
    have k2 : PySem.W.kitOne K (.type "dict") (.type "tuple") = some false := kit_ty (by decide +kernel)
    have k3 : PySem.W.kitOne K (.type "dict") (.type "dict") = some true := kit_ty (by decide +kernel)
    have ha1 := s1 _ _ ha
    refine ⟨_, p, _, _, _, false, rfl, upd_same, .cons (.ty "list") (.cons (.ty "tuple") .nil), .base (.dK ha1), any2 k1 k2, false, rfl, iteF ?_⟩
    refine ⟨_, rfl, _, _, _, _, true, rfl, .ty "dict", .base (.dK ha1), k3, true, rfl, iteT ?_⟩
    refine ⟨_, rfl, _, _, _, _, true, rfl, .ty "dict", .base (.dK ha1), k3, true, rfl, ?_⟩
    rw [if_pos rfl]
    refine ⟨_, rfl, a, [], rfl, ha1, fun H2 p2 ts2 s2 n2 _ _ e2 pr2 => ?_⟩
    cases pr2
    refine ⟨_, rfl, a, [], rfl, s2 _ _ ha1, fun H3 p3 ts3 s3 n3 _ _ e3 pr3 => ?_⟩
    cases pr3
    obtain ⟨m, rfl⟩ : ∃ m, n = m + 1 := ⟨n - 1, by omega⟩
    exact ⟨_, _, rfl, .inr (.inr (.inl ⟨p2, p3, rfl, rfl, s3 _ _ e2, e3⟩)), fun H4 s4 => q H4 (s1.trans (Same.trans s2 (Same.trans s3 s4)))⟩
theorem ok_same1 (T : Txt K mg) : FnK P w K mg base CX0 4 "_law_same" ["_law_found", "_law_due"] (spSame K 1) := ok_sameS (k := 1) T (ok_same0 T)
theorem ok_same2 (T : Txt K mg) : FnK P w K mg base CX0 5 "_law_same" ["_law_found", "_law_due"] (spSame K 2) := ok_sameS (k := 2) T (ok_same1 T)
theorem ok_same3 (T : Txt K mg) : FnK P w K mg base CX0 6 "_law_same" ["_law_found", "_law_due"] (spSame K 3) := ok_sameS (k := 3) T (ok_same2 T)
end
end Any
end
section
set_option Elab.async false
set_option linter.all false
set_option maxRecDepth 100000
set_option maxHeartbeats 4000000
namespace Any
open PySem PySem.Spec PyProof.Rows L2
theorem Strm.neT {H : Hp} {st a p : Addr} {c : Int} {xs : List V} (S : Strm H st a c) (h : H p = some (.tup xs)) : wo st a H p = some (.tup xs) := by
  obtain ⟨⟨ns, x, m, h3, h4, h5⟩, h6, h7⟩ := S
  rw [wo_get]
  · exact h
  · exact fun z => by rw [z, h3] at h; cases h
  · exact fun z => by rw [z, h4] at h; cases h
theorem Strm.neD {H : Hp} {st a p : Addr} {c : Int} {xs : List (Key × V)} (S : Strm H st a c) (h : H p = some (.dK xs)) : wo st a H p = some (.dK xs) := by
  obtain ⟨⟨ns, x, m, h3, h4, h5⟩, h6, h7⟩ := S
  rw [wo_get]
  · exact h
  · exact fun z => by rw [z, h3] at h; cases h
  · exact fun z => by rw [z, h4] at h; cases h
theorem wsum_rep (f : AM.Stp → Int) (rs : SL) : ∀ n : Nat, AM.wsum f (stps (List.replicate n rs).flatten) = n * AM.wsum f (stps rs)
  | 0 => by simp [stps, AM.wsum]
  | n + 1 => by
    rw [List.replicate_succ, List.flatten_cons, stps_app, AM.wsum_app, wsum_rep f rs n]
    have : ((n + 1 : Nat) : Int) = 1 + (n : Int) := by omega
    rw [this, Int.add_mul, Int.one_mul]
theorem refs_rep (rs : SL) : ∀ n : Nat, (List.replicate n (refs rs)).flatten = refs (List.replicate n rs).flatten
  | 0 => rfl
  | n + 1 => by rw [List.replicate_succ, List.replicate_succ, List.flatten_cons, List.flatten_cons, refs_app, refs_rep rs n]
theorem low_zero0 {b : Int} (hb : 0 < b) : AM.low (0 - 0) b = (0, 1) := AM.low_zero hb
def spPlaceRight (K : PySem.W.Frag) : Sp := fun vs H Q _ => ∃ (st a wb l : Addr) (c place : Int) (N : Nat) (ss s0 : SL), vs = [.ref st, .ref wb, .ref l, .int place] ∧ Strm H st a c ∧ c + 700 ≤ BIG ∧ WebAt K (wo st a H) wb N ss ∧ wo st a H l = some (.lst (refs s0)) ∧ StepsOk (wo st a H) s0 ∧ s0.length ≤ 14 ∧
  BdS N s0 ∧ (∀ e, e ∈ stps s0 ↔ e ∈ stps ss) ∧ (0 ≤ place ∧ place < (N : Int)) ∧ ∀ H' c', Kp st a H H' → Strm H' st a c' → c ≤ c' → c' ≤ c + 700 → Q (.bl true) H'
theorem Reach.mem {es fs : List AM.Stp} {u v : Int} (h : ∀ e, e ∈ es ↔ e ∈ fs) : AM.Reach es u v ↔ AM.Reach fs u v := ⟨fun r => r.congr fun e he => (h e).mp he, fun r => r.congr fun e he => (h e).mpr he⟩
section
variable {P : Program} {w : World} {K : PySem.W.Frag} {mg : Str → Option Value} {base : Heap}
theorem sc_law_place_right : FnScope ["_law_stream_here", "_law_web_here", "_law_steps", "_law_place", "_law_prices", "_law_ahead_here", "_law_rate", "_law_told", "_law_walk", "_law_least", "_law_tall", "_law_k", "_law_left_here", "_law_end"] ["_law_stream_here", "_law_web_here", "_law_steps", "_law_place"] (defScope st_law_place_right) := ⟨rfl, rfl, rfl, by decide +kernel, rfl, by decide +kernel, by decide +kernel⟩
theorem ok_law_place_right (T : Txt K mg) : FnK P w K mg base CX0 8 "_law_place_right" ["_law_stream_here", "_law_web_here", "_law_steps", "_law_place"] (spPlaceRight K) := by
  refine T.law_place_right.ok sc_law_place_right (fun vs H Q E h => ?_) (fun cdv A outer s H vs Q E hr h => ?_)
  · obtain ⟨st, a, wb, l, c, place, N, ss, s0, rfl, _⟩ := h
    rfl
  obtain ⟨st, a, wb, l, c, place, N, ss, s0, rfl, S, hc, W, hl, ok0, few0, bd0, mem, hb, q⟩ := h
  have hu := hu_of hr
  refine ⟨_, (pss_cons (ps_set (i := 4) sc_law_place_right.nd rfl (Or.inr rfl) (pe_tup (pa_cons (pe_op op_add pe_int (pe_f T.law_draw (ok_law_draw T) hr pass0 (pa_cons (pv 0) (pa_cons pe_int pa_nil)))) (pa_cons (pe_op op_add pe_int (pe_f T.law_draw (ok_law_draw T) hr pass0 (pa_cons (pv 0) (pa_cons pe_int pa_nil)))) pa_nil))))
    (pss_cons (ps_set (i := 5) sc_law_place_right.nd rfl (Or.inl rfl) (pe_f T.law_ahead (ok_law_ahead T) hr pass0 (pa_cons (pv 2) (pa_cons (pv 3) pa_nil))))
    (pss_cons (ps_asg (pe_tup (pa_cons (pe_f T.rate_at (ok_rate_at T) hr pass0 (pa_cons (pv 1) (pa_cons (pv 3) (pa_cons (pv 4) pa_nil)))) (pa_cons (pe_f T.credit (ok_credit T) hr passF (pa_cons (pv 1) (pa_cons (pv 3) (pa_cons (pe_f T.law_pick (ok_law_pick T) hr pass0 (pa_cons (pv 0) (pa_cons (pe_lst (pa_cons (pv 4) (pa_cons (pe_callTy call_list_of rfl T.n_list (by decide +kernel) (pa_cons (pv 4) pa_nil)) pa_nil))) pa_nil))) pa_nil)))) pa_nil))) (pg_tup rfl (pgs_cons (pg_name (i := 6) sc_law_place_right.nd rfl (Or.inr rfl)) (pgs_cons (pg_name (i := 7) sc_law_place_right.nd rfl (Or.inl rfl)) pgs_nil))))
    (pss_cons (ps_if (pt_cmpR op_isN (pv 6) pe_non (nomark _)) (pss_one (ps_ret (pe_and (pe_cmpR op_isN (pv 7) pe_non (nomark _)) (pe_one (pe_cmpR op_isN (pe_kw (ok_credit T) (hr.mono (by decide)) rfl T.credit.m T.credit.F.kp (credit_kb T) passF (pk_cons (pv 4) (pk_cons (pv 3) (pk_cons (pv 1) pk_nil)))) pe_non (nomark _)))))) pss_nil)
    (pss_cons (ps_set (i := 9) sc_law_place_right.nd rfl (Or.inl rfl) (pe_callB (cr_min rfl) rfl T.n_min (by decide +kernel) (pa_cons (pe_lc (own := [("_law_walk", 8)]) (g := gName 8) rfl sc_law_place_right.nd (pi_list (pe_f T.law_simple (ok_law_simple T) hr pass0 (pa_cons (pv 5) (pa_cons (pv 3) pa_nil)))) (blkOk_by (own := [("_law_walk", 8)]) (N := ["_law_stream_here", "_law_web_here", "_law_steps", "_law_place", "_law_prices", "_law_ahead_here", "_law_rate", "_law_told", "_law_walk", "_law_least", "_law_tall", "_law_k", "_law_left_here", "_law_end"]) (sc := defScope st_law_place_right) (by decide +kernel)) (fun _ _ _ _ _ => (pg_name (i := 8) sc_law_place_right.nd rfl (Or.inl rfl))) (fun _ _ _ _ _ => pts_nil) (fun _ _ _ _ _ => (pe_f T.law_left (ok_law_left T) hr pass0 (pa_cons (pv 8) (pa_cons (pv 4) (pa_cons (pv 6) pa_nil)))))) pa_nil)))
    (C8.pss_cut (ps_if (pt_not (pt_val (pe_f T.law_same (ok_same1 T) hr pass0 (pa_cons (pv 7) (pa_cons (pe_ifExp (pt_cmpR op_ne (pv 9) pe_int (nomark _)) (pe_f T.law_low (ok_law_low T) hr pass0 (pa_cons (pe_tup (pa_cons (pe_op op_sub pe_int (pv 9)) (pa_cons (pe_ix ix_tup (pv 6) pe_int (fun _ _ => rfl)) pa_nil))) pa_nil)) (pe_tup (pa_cons pe_int (pa_cons pe_int pa_nil)))) pa_nil))))) (pss_one (ps_ret pe_bl)) pss_nil)
    (pss_cons (ps_set (i := 10) sc_law_place_right.nd rfl (Or.inl rfl) (pe_f T.heights (ok_heights T) hr pass0 (pa_cons (pv 1) (pa_cons (pv 3) (pa_cons (pv 4) (pa_cons (pv 6) pa_nil))))))
    (pss_cons (ps_for (passes_of rfl) rfl (pi_range1 (by rfl) T.n_range (pa_cons pe_int pa_nil)) (pg_name (i := 11) sc_law_place_right.nd rfl (Or.inl rfl)) (pss_cons (ps_set (i := 8) sc_law_place_right.nd rfl (Or.inl rfl) (pe_f T.law_long_walk (ok_law_long_walk T) hr pass0 (pa_cons (pv 0) (pa_cons (pv 5) (pa_cons (pv 3) (pa_cons (pe_f T.law_draw (ok_law_draw T) hr pass0 (pa_cons (pv 0) (pa_cons pe_int pa_nil))) (pa_cons (pv 11) pa_nil)))))))
    (C8.pss_cut (ps_par (i := 12) (j := 13) (by rfl) sc_law_place_right.nd rfl rfl (by decide) rfl rfl (pa_cons (pe_f T.law_left (ok_law_left T) hr pass0 (pa_cons (pv 8) (pa_cons (pv 4) (pa_cons (pv 6) pa_nil)))) (pa_cons (pe_ifExp (pt_cmpR (op_neD hr.units) (pv 8) (pe_lst pa_nil) (nomark _)) (pe_ix ix_tup (pe_ix ix_list (pv 8) (pe_un un_neg pe_int) (fun _ _ => rfl)) pe_int (fun _ _ => rfl)) (pv 3)) pa_nil)) (by rfl))
    (pss_one (ps_if (PW.pt (pw_or (pt_cmpR op_lt (pe_op op_mul (pv 12) (pe_ix ix_tup (pv 7) pe_int (fun _ _ => rfl))) (pe_op op_sub pe_int (pe_op op_mul (pe_ix ix_tup (pv 7) pe_int (fun _ _ => rfl)) (pe_ix ix_tup (pv 6) pe_int (fun _ _ => rfl)))) (nomark _)) (pw_or1 (pt_cmpR op_lt (pv 12) (pe_op op_sub (pe_dget hu (pv 10) (pv 13) (fun _ _ => rfl)) (pe_dget hu (pv 10) (pv 3) (fun _ _ => rfl))) (nomark _))))) (pss_one (ps_ret pe_bl)) pss_nil)))))
    (pss_one (ps_ret (pe_cmpR op_eq (pe_f T.law_left (ok_law_left T) hr pass0 (pa_cons (pe_op op_rep (pe_f T.best_ring (ok_best_ring T) hr pass0 (pa_cons (pv 1) (pa_cons (pv 3) (pa_cons (pv 4) pa_nil)))) pe_int) (pa_cons (pv 4) (pa_cons (pv 6) pa_nil)))) pe_int (nomark _)))))))))))), ?_⟩
  have Wn : ∀ {H' : Hp}, Kp st a H H' → WebAt K H' wb N ss := fun k => (W.up k).up wo_same
  have okn : ∀ {H' : Hp}, Kp st a H H' → StepsOk H' s0 := fun k => (ok0.up (Tups.of k)).up (Tups.of wo_same)
  have tp : AM.ticksPos (stps ss) := fun e he => (bds W.bd he).k.1
  -- prices
  refine ⟨_, rfl, st, a, 9, c, rfl, S, by omega, by decide, by decide, fun x H1 x1 x2 k1 S1 => rAdd rfl ?_⟩
  refine ⟨_, rfl, st, a, 9, _, rfl, S1, by omega, by decide, by decide, fun y H2 y1 y2 k2 S2 => rAdd rfl ?_⟩
  refine ⟨(by show 2 ≤ sizeLine; decide), fun pr nr => ?_⟩
  obtain ⟨k3, S3, g3⟩ := S2.made nr (.tup [.int (1 + x), .int (1 + y)])
  have k03 := k1.trans (k2.trans k3)
  obtain ⟨p, hp, ep⟩ : ∃ p : Int × Int, PrB p ∧ (HO.tup [.int (1 + x), .int (1 + y)]) = .tup [.int p.1, .int p.2] := ⟨(1 + x, 1 + y), ⟨⟨by show 1 ≤ 1 + x; omega, by show 1 + x ≤ 9; omega⟩, ⟨by show 1 ≤ 1 + y; omega, by show 1 + y ≤ 9; omega⟩⟩, rfl⟩
  replace g3 : wo st a (upd H2 pr (.tup [.int (1 + x), .int (1 + y)])) pr = some (.tup [.int p.1, .int p.2]) := g3.trans (congrArg some ep)
  generalize upd H2 pr (.tup [.int (1 + x), .int (1 + y)]) = H3 at k3 S3 g3 k03 ⊢
  -- ahead
  refine ⟨_, rfl, _, rfl, l, s0, place, rfl, (Kp.get k03 hl), okn k03, few0, fun al t H4 s4 n4 ht eal => ?_⟩
  have S4 := S3.up s4
  have gal4 : wo st a H4 al = some (.lst (refs (s0.filter t))) := by
    rw [wo_get (S3.nst n4) (S3.na n4)]
    exact eal
  have k04 := k03.trans (wo_mono (st := st) (a := a) s4)
  have gp4 := (wo_mono (st := st) (a := a) s4) _ _ g3
  have hpa1 := hp.a
  have hpb1 := hp.b
  have sp1 : small64 p.1 := ⟨by omega, by omega⟩
  have sp2 : small64 p.2 := ⟨by omega, by omega⟩
  -- rate
  refine ⟨_, rfl, _, rfl, _, rfl, wb, pr, place, N, ss, p, rfl, Wn k04, hb, (wo_some gp4).2.2, hp, fun H5 s5 no => ?_, fun ra H5 rs s5 era hin len best => ?_⟩
  · have S5 := S4.up s5
    have k5 : Kp st a H H5 := k04.trans (wo_mono s5)
    have gp5 := (wo_mono (st := st) (a := a) s5) _ _ gp4
    have gal5 := (wo_mono (st := st) (a := a) s5) _ _ gal4
    refine ⟨_, rfl, _, rfl, _, rfl, _, rfl, _, rfl, pr, _, rfl, .inr (SqT.of (wo_some gp5).2.2), fun pl npl => ?_⟩
    obtain ⟨k6, S6, g6⟩ := S5.made npl (.lst [.int p.1, .int p.2])
    refine ⟨(by show 2 ≤ sizeLine; decide), fun dl ndl => ?_⟩
    obtain ⟨k7, S7, g7⟩ := S6.made ndl (.lst [.ref pr, .ref pl])
    have k57 := k6.trans k7
    have gp7 := k57 _ _ gp5
    have gl7 := k7 _ _ g6
    refine ⟨st, a, dl, _, _, rfl, S7, by omega, g7, by simp, (by show 2 ≤ 1000000; decide), fun v H8 hv k8 S8 => ?_⟩
    obtain ⟨pa, rfl, hpa⟩ : ∃ pa, v = .ref pa ∧ Sq K H8 pa [.int p.1, .int p.2] := by
      simp at hv
      rcases hv with rfl | rfl
      · exact ⟨pr, rfl, .inr ((Kp.get k8 gp7))⟩
      · exact ⟨pl, rfl, .inl ((Kp.get k8 gl7))⟩
    have k58 := k57.trans k8
    have k08 := k5.trans k58
    refine ⟨wb, .int place, _, N, ss, rfl, Wn k08, .inr ⟨place, rfl, hb, .inr ⟨pa, p, rfl, hpa, hp, fun H9 s9 no2 => ?_, fun tq H9 rs2 m es SM s9 etq hin2 len2 best2 rest cov hmem hle => ?_⟩⟩⟩
    · have S9 := S8.up s9
      have k09 := k08.trans (wo_mono (st := st) (a := a) s9)
      refine ⟨(by show 2 ≤ sizeLine; decide), fun tp2 nt => ?_⟩
      obtain ⟨k10, S10, g10⟩ := S9.made nt (.tup [.non, .non])
      have k010 := k09.trans k10
      have gp10 := k10 _ _ ((wo_mono (st := st) (a := a) s9) _ _ (k58 _ _ gp5))
      refine ⟨_, _, rfl, SqT.of upd_same, rfl, _, _, rfl, _, _, rfl, rfl, ?_⟩
      generalize upd H9 tp2 (.tup [.non, .non]) = H10 at k10 S10 g10 k010 gp10 ⊢
      refine ⟨_, rfl, rfl, _, rfl, iteT ?_⟩
      refine ⟨_, rfl, rfl, true, rfl, ?_⟩
      rw [if_pos rfl]
      refine ⟨_, rfl, _, rfl, _, rfl, wb, .int place, .ref pr, N, ss, rfl, Wn k010, .inr ⟨place, rfl, hb, .inr ⟨pr, p, rfl, .inr (wo_some gp10).2.2, hp, fun H11 s11 _ => ?_, fun tq H11 rs2 m es SM s11 etq hin2 len2 best2 rest cov hmem hle => ?_⟩⟩⟩
      · exact ⟨rfl, q H11 _ (k010.trans (wo_mono s11)) (S10.up s11) (by omega) (by omega)⟩
      · obtain ⟨z, z1, z2⟩ := best2.ring.at_
        exact absurd (no z _ z1 z2 best2.ring.win) best2.ring.ne
    · obtain ⟨z, z1, z2⟩ := best2.ring.at_
      exact absurd (no z _ z1 z2 best2.ring.win) best2.ring.ne
  · have gra5 := (S4.up s5).neT era
    have S5 := S4.up s5
    have k5 : Kp st a H H5 := k04.trans (wo_mono s5)
    have gp5 := (wo_mono (st := st) (a := a) s5) _ _ gp4
    have gal5 := (wo_mono (st := st) (a := a) s5) _ _ gal4
    refine ⟨_, rfl, _, rfl, _, rfl, _, rfl, _, rfl, pr, _, rfl, .inr (SqT.of (wo_some gp5).2.2), fun pl npl => ?_⟩
    obtain ⟨k6, S6, g6⟩ := S5.made npl (.lst [.int p.1, .int p.2])
    refine ⟨(by show 2 ≤ sizeLine; decide), fun dl ndl => ?_⟩
    obtain ⟨k7, S7, g7⟩ := S6.made ndl (.lst [.ref pr, .ref pl])
    have k57 := k6.trans k7
    have gp7 := k57 _ _ gp5
    have gl7 := k7 _ _ g6
    refine ⟨st, a, dl, _, _, rfl, S7, by omega, g7, by simp, (by show 2 ≤ 1000000; decide), fun v H8 hv k8 S8 => ?_⟩
    obtain ⟨pa, rfl, hpa⟩ : ∃ pa, v = .ref pa ∧ Sq K H8 pa [.int p.1, .int p.2] := by
      simp at hv
      rcases hv with rfl | rfl
      · exact ⟨pr, rfl, .inr ((Kp.get k8 gp7))⟩
      · exact ⟨pl, rfl, .inl ((Kp.get k8 gl7))⟩
    have k58 := k57.trans k8
    have k08 := k5.trans k58
    refine ⟨wb, .int place, _, N, ss, rfl, Wn k08, .inr ⟨place, rfl, hb, .inr ⟨pa, p, rfl, hpa, hp, fun H9 s9 no2 => ?_, fun tq H9 rs2 m es SM s9 etq hin2 len2 best2 rest cov hmem hle => ?_⟩⟩⟩
    · obtain ⟨z, z1, z2⟩ := best.ring.at_
      exact absurd (no2 z _ z1 z2 best.ring.win) best.ring.ne
    have er := best.same tp best2
    rw [er] at gra5
    have rne : rs2 ≠ [] := fun z => best2.ring.ne (by rw [z]; rfl)
    have bd2 : BdS N rs2 := fun z hz => W.bd z (hin2 z hz)
    obtain ⟨rb1, rb2, rb3⟩ := rate_small hp bd2 rne len2
    have hlow := low_rate (p := p) bd2 rne
    have nn : NonNeg (stps ss) place (AM.wt p (AM.rate p (stps rs2))) := best2.least
    obtain ⟨lo, ⟨v1, w1, i1, i2, i3, i4⟩, m0⟩ := rest.least cov hmem hle
    have ring3 : ∀ rs3 : SL, AM.Best (stps ss) place p (stps rs3) → AM.rate p (stps rs3) = AM.rate p (stps rs2) := fun rs3 b3 => b3.same tp best2
    have S9 := S8.up s9
    have k9 : Kp st a H8 H9 := wo_mono s9
    have k09 := k08.trans k9
    have gra9 := k9 _ _ (k58 _ _ gra5)
    have gp9 := k9 _ _ (k58 _ _ gp5)
    have gal9 := k9 _ _ (k58 _ _ gal5)
    have gtq9 := S9.neT etq
    generalize AM.rate p (stps rs2) = r at gra9 gtq9 rb1 rb2 rb3 hlow nn lo i4 ring3 rest
    have sr1 : small64 r.1 := ⟨by omega, by omega⟩
    have sr2 : small64 r.2 := ⟨by omega, by omega⟩
    refine ⟨(by show 2 ≤ sizeLine; decide), fun tp2 nt => ?_⟩
    obtain ⟨k10, S10, g10⟩ := S9.made nt (.tup [.ref ra, .ref tq])
    have k010 := k09.trans k10
    have gra := k10 _ _ gra9
    have gp := k10 _ _ gp9
    have gal := k10 _ _ gal9
    have gtq := k10 _ _ gtq9
    refine ⟨_, _, rfl, SqT.of upd_same, rfl, _, _, rfl, _, _, rfl, rfl, ?_⟩
    generalize upd H9 tp2 (.tup [.ref ra, .ref tq]) = H10 at k10 S10 k010 gra gp gal gtq ⊢
    clear S1 S2 S3 S4 S5 S6 S7 S8 S9 k1 k2 k3 k03 k04 k5 k6 k7 k8 k57 k58 k08 k9 k09 gra5 gra9 gp9 gal9 gtq9 gp5 gp7 gl7 gp4 gal4 gal5 g3 g6 g7 g10 eal etq era hpa
    refine ⟨_, rfl, rfl, _, rfl, iteF ?_⟩
    have okf : StepsOk H10 (s0.filter t) := fun z hz => okn k010 z (List.mem_filter.mp hz).1
    have bdf : BdS N (s0.filter t) := fun z hz => bd0 z (List.mem_filter.mp hz).1
    have fewf : (s0.filter t).length ≤ 14 := Nat.le_trans (List.length_filter_le ..) few0
    have inss : ∀ {ws : SL}, (∀ z ∈ ws, z ∈ s0.filter t) → AM.Within (stps ss) (stps ws) := fun h e he => by
      obtain ⟨z, hz, rfl⟩ := List.mem_map.mp he
      exact (mem _).mp (List.mem_map.mpr ⟨z, (List.mem_filter.mp (h z hz)).1, rfl⟩)
    -- the least one
    refine ⟨_, rfl, _, rfl, al, s0.filter t, place, N, rfl, (wo_some gal).2.2, okf, bdf, W.n6, hb, fewf, fun F fs H11 s11 eF lF hfs hall => ?_⟩
    refine ⟨F, rfl, ⟨_, SqL.of eF⟩, fun D nD => ?_⟩
    refine lc_map (bs := fs) (fun y => .int (AM.wsum (AM.wt p r) (stps y.2))) nD (SqL.of eF) (fun _ => rfl) (Nat.le_trans (show _ ≤ 16777216 by omega) (by decide)) (fun y H' hy s' Q' q' => ?_) fun H12 s12 e12 => ?_
    · obtain ⟨f1, f2, f3, f4⟩ := hfs y hy
      have su := s11.trans s'
      exact ⟨_, rfl, _, rfl, _, rfl, y.1, pr, ra, y.2, p, r, rfl, s' _ _ f1, fun z hz => (okf z (f2 z hz)).up (Tups.of su), by omega, su _ _ (wo_some gp).2.2, su _ _ (wo_some gra).2.2, sp1, sp2, sr1, sr2, fun H'' s'' => q' H'' s''⟩
    have em12 : (fs.map fun y => V.int (AM.wsum (AM.wt p r) (stps y.2))) = (fs.map fun y => AM.wsum (AM.wt p r) (stps y.2)).map V.int := by rw [List.map_map]; rfl
    rw [em12] at e12
    have minmem : m ∈ fs.map fun y => AM.wsum (AM.wt p r) (stps y.2) := by
      have i2' : AM.Within (stps s0) w1 := fun e he => (mem e).mpr (i2 e he)
      have i5 := reach_filter ht (AM.Reach.refl _ _) i1 i2'
      obtain ⟨y, hy, ey⟩ := hall w1 v1 i1 i5 i3
      exact List.mem_map.mpr ⟨y, hy, by rw [ey, i4]⟩
    refine ⟨D, _, rfl, SqL.of e12, List.length_pos_of_mem minmem, fun mm hmm hle2 => ?_⟩
    have emm : mm = m := by
      have h1 := hle2 m minmem
      obtain ⟨y, hy, ey⟩ := List.mem_map.mp hmm
      obtain ⟨f1, f2, f3, v2, f4⟩ := hfs y hy
      have h2 := lo v2 (stps y.2) f4 (inss f2)
      omega
    subst emm
    have s1012 := s11.trans s12
    have S12 := S10.up s1012
    have k12 : Kp st a H10 H12 := wo_mono s1012
    have k012 := k010.trans k12
    replace gra := k12 _ _ gra
    replace gp := k12 _ _ gp
    replace gal := k12 _ _ gal
    replace gtq := k12 _ _ gtq
    -- told the same
    refine ⟨fun σ' H' => Same H12 H' ∧ σ' = [some (.ref st), some (.ref wb), some (.ref l), some (.int place), some (.ref pr), some (.ref al), some (.ref ra), some (.ref tq), none, some (.int mm), none, none, none, none], ?_, ?_⟩
    · have fin : ∀ (qd : Addr) (H' : Hp), Same H12 H' → H' qd = some (.tup [.int (AM.low (0 - mm) r.2).1, .int (AM.low (0 - mm) r.2).2]) → Sm K H' 1 (.ref tq) (.ref qd) := fun qd H' s' e' => by
        refine .inr (.inl ⟨tq, qd, _, _, rfl, rfl, s' _ _ (wo_some gtq).2.2, e', rfl, (by show 2 ≤ 1000; decide), fun i u v h1 h2 => ?_⟩)
        match i, h1, h2 with
        | 0, h1, h2 =>
          cases h1
          cases h2
          exact ⟨rfl, .int _⟩
        | 1, h1, h2 =>
          cases h1
          cases h2
          exact ⟨rfl, .int _⟩
        | i + 2, h1, h2 => simp at h1
      refine ⟨_, rfl, _, rfl, rfl, _, rfl, ite2 (fun z => ?_) (fun z => ?_)⟩
      · refine ⟨_, rfl, _, _, rfl, rfl, _, rfl, _, _, _, _, rfl, rfl, SqT.of (wo_some gra).2.2, rfl, (by show 2 ≤ sizeLine; decide), fun u nu => ?_⟩
        have su := same_new nu (.tup [.int (0 - mm), .int r.2])
        refine ⟨u, 0 - mm, r.2, rfl, upd_same, rb2, by omega, fun qd H14 s14 e14 => ?_⟩
        exact ⟨_, _, rfl, fin qd H14 (su.trans s14) e14, fun H15 s15 => ⟨_, rfl, iteF ⟨su.trans (s14.trans s15), rfl⟩⟩⟩
      · have m00 : mm = 0 := by
          by_cases e : mm = 0
          · exact e
          · exact absurd (by simp [e]) z
        subst m00
        refine ⟨(by show 2 ≤ sizeLine; decide), fun u nu => ?_⟩
        have su := same_new nu (.tup [.int 0, .int 1])
        refine ⟨_, _, rfl, fin u _ su ?_, fun H15 s15 => ⟨_, rfl, iteF ⟨su.trans s15, rfl⟩⟩⟩
        rw [low_zero0 rb2]
        exact upd_same
    rintro σ' H13 ⟨s13, rfl⟩
    have S13 := S12.up s13
    have k13 : Kp st a H12 H13 := wo_mono s13
    have k013 := k012.trans k13
    replace gra := k13 _ _ gra
    replace gp := k13 _ _ gp
    replace gal := k13 _ _ gal
    replace gtq := k13 _ _ gtq
    -- heights
    refine ⟨_, rfl, _, rfl, _, rfl, _, rfl, wb, pr, ra, place, N, ss, p, r, rfl, Wn k013, hb, .inr (wo_some gp).2.2, hp, (wo_some gra).2.2, rb1, ⟨rb2, rb3⟩, hlow, nn, fun TD H14 S' es2 S2 s14 eD hS' R2 cov2 => ?_⟩
    have S14 := S13.up s14
    have k14 : Kp st a H13 H14 := wo_mono s14
    have k014 := k013.trans k14
    replace gra := k14 _ _ gra
    replace gp := k14 _ _ gp
    replace gal := k14 _ _ gal
    replace gtq := k14 _ _ gtq
    have gD := S14.neD eD
    clear k13 k12 k012 k013 S10 S12 S13 k010 okf
    refine ⟨4, rfl, by decide, by decide, ?_⟩
    refine for_range (n := 4) (fun i σ H1 => ∃ c', Kp st a H14 H1 ∧ Strm H1 st a c' ∧ c ≤ c' ∧ c' ≤ c + 10 + 130 * i ∧ ∃ x8 x11 x12 x13, σ = [some (.ref st), some (.ref wb), some (.ref l), some (.int place), some (.ref pr), some (.ref al), some (.ref ra), some (.ref tq), x8, some (.int mm), some (.ref TD), x11, x12, x13])
      ⟨_, Same.refl _, S14, by omega, by omega, _, _, _, _, rfl⟩ ?_ ?_
    · rintro i σ H1 hi ⟨c1, k1, S1, c11, c12, x8, x11, x12, x13, rfl⟩
      refine ⟨_, rfl, _, rfl, _, rfl, _, rfl, st, a, 61, c1, rfl, S1, by omega, by decide, by decide, fun mny H2 m1 m2 k2 S2' => ?_⟩
      have k12 := k1.trans k2
      refine ⟨_, rfl, st, a, al, _, place, mny, _, s0.filter t, rfl, S2', by omega, ⟨m1, by omega⟩, k12 _ _ gal, fun z hz => (ok0 z (List.mem_filter.mp hz).1).up (Tups.of (k014.trans k12)), fewf, fun wk ws v H3 c3 k3 g3 sub walk lw S3 c31 c32 => ?_⟩
      have k13 := k12.trans k3
      have k013 := k014.trans k13
      have okw : StepsOk H3 ws := fun z hz => okn k013 z (List.mem_filter.mp (sub z hz)).1
      have L1 := lo v (stps ws) walk (inss sub)
      refine ⟨fun σ' H' => Same H3 H' ∧ ∃ x11, σ' = [some (.ref st), some (.ref wb), some (.ref l), some (.int place), some (.ref pr), some (.ref al), some (.ref ra), some (.ref tq), some (.ref wk), some (.int mm), some (.ref TD), x11, some (.int (AM.wsum (AM.wt p r) (stps ws))), some (.int v)], ?_, ?_⟩
      · refine ⟨_, rfl, _, rfl, _, rfl, wk, pr, ra, ws, p, r, rfl, (wo_some g3).2.2, okw, by omega, (Kp.get k13 gp), (Kp.get k13 gra), sp1, sp2, sr1, sr2, fun H4 s4 => ?_⟩
        refine ⟨_, rfl, (by show 0 ≤ sizeLine; decide), fun e ne => ?_⟩
        have se := same_new ne (.lst [])
        have s34 := s4.trans se
        refine ⟨_, _, .lst (SqL.of (s34 _ _ (wo_some g3).2.2)) (dp_stps ws (okw.up (Tups.of s34))), .lst (SqL.of upd_same) .nil, shaped_stps _, shaped_nil, _, rfl, ?_⟩
        rw [eqv_nil]
        refine ite2 (fun z => ?_) (fun z => ?_)
        · have hne : ws ≠ [] := fun y => by
            rw [y] at z
            cases z
          obtain ⟨w0, y, rfl⟩ : ∃ w0 y, ws = w0 ++ [y] := ⟨ws.dropLast, ws.getLast hne, (List.dropLast_concat_getLast hne).symm⟩
          obtain ⟨bb, h1, h2⟩ := okw y (by simp)
          have el : atI (refs (w0 ++ [y])) (-1) = some (.ref y.1) := by
            rw [refs_app]
            exact at_last _ _
          have ev : y.2.t = v := by
            rw [stps_app] at walk
            obtain ⟨u, h1, h2⟩ := walk.split
            exact h2.2
          rw [← ev]
          exact ⟨_, rfl, _, rfl, wk, _, _, _, rfl, rfl, SqL.of (s34 _ _ (wo_some g3).2.2), el, _, _, _, _, rfl, rfl, SqT.of (s34 _ _ h1), rfl, _, _, rfl, s34, _, rfl⟩
        · have hnil : ws = [] := by
            cases ws with
            | nil => rfl
            | cons y r => exact absurd rfl z
          subst hnil
          have ev : place = v := walk
          rw [← ev]
          exact ⟨_, rfl, _, _, rfl, s34, _, rfl⟩
      rintro σ' H5 ⟨s5', x11', rfl⟩
      have k5' : Kp st a H14 H5 := k13.trans (wo_mono s5')
      have S5' := S3.up s5'
      have hra := (Kp.get k5' gra)
      have htq := (Kp.get k5' gtq)
      have low1 := AM.low_pos (a := 0 - mm) rb2
      have low2 := AM.low_snd_le (a := 0 - mm) rb2
      have cb := AM.credit_bound rb2 L1
      refine ⟨_, rfl, _, rfl, _, _, _, _, rfl, rfl, SqT.of htq, rfl, _, _, rfl, rfl, .inr ⟨by omega, by omega⟩, _, rfl, _, _, _, _, rfl, rfl, SqT.of htq, rfl, _, rfl, _, _, _, _, rfl, rfl, SqT.of hra, rfl, _, _, rfl, rfl, .inr ⟨by omega, by omega⟩, _, _, rfl, rfl, _, _, rfl, rfl, _, rfl, ?_⟩
      refine ite2 (fun z => ?_) (fun _ => ?_)
      · have z := of_decide_eq_true z
        exact absurd cb (Int.not_le.mpr z)
      have reachp := AM.Reach.refl (stps ss) place
      obtain ⟨dv, d1, d2⟩ := R2.bound cov2 reachp R2.root walk (inss sub)
      have hTD := (Kp.get k5' gD)
      have g1 : DGet H5 TD (.int v) (some (.int dv)) := by
        have := dg hTD v
        rw [sd_get, hS', d1] at this
        exact this
      have g2 : DGet H5 TD (.int place) (some (.int 0)) := by
        have := dg hTD place
        rw [sd_get, hS', R2.root] at this
        exact this
      refine ⟨_, rfl, _, rfl, _, rfl, TD, _, rfl, g1, _, rfl, _, rfl, TD, _, rfl, g2, _, _, rfl, rfl, _, _, rfl, rfl, _, rfl, ?_⟩
      refine ite2 (fun z => ?_) (fun _ => ?_)
      · have z := of_decide_eq_true z
        exact absurd d2 (Int.not_le.mpr z)
      exact ⟨c3, k5', S5', by omega, by omega, _, _, _, _, rfl⟩
    · rintro σ H1 ⟨c1, k1, S1, c11, c12, x8, x11, x12, x13, rfl⟩
      have k01 := k014.trans k1
      have hra := (Kp.get k1 gra)
      have hp1 := (Kp.get k1 gp)
      refine ⟨_, rfl, _, rfl, _, rfl, wb, pr, place, N, ss, p, rfl, Wn k01, hb, .inr hp1, hp, fun H2 s2 no => ?_, fun rl H2 rs3 s2 el hin3 len3 best3 => ?_⟩
      · obtain ⟨z, z1, z2⟩ := best2.ring.at_
        exact absurd (no z _ z1 z2 best2.ring.win) best2.ring.ne
      have e3 := ring3 rs3 best3
      have tk3 := best3.ring.ticks tp
      have z3 := AM.rate_zero (p := p) tk3
      rw [e3] at z3
      refine ⟨rl, 7, refs rs3, rfl, rfl, el, by decide, by decide, Nat.le_trans (show _ ≤ 1000000 by rw [refs_len]; show rs3.length * 7 ≤ _; omega) (by decide), fun wl nw => ?_⟩
      have sw := same_new nw (.lst (List.replicate (7 : Int).toNat (refs rs3)).flatten)
      have s12 := s2.trans sw
      refine ⟨_, rfl, _, rfl, wl, pr, ra, (List.replicate 7 rs3).flatten, p, r, rfl, ?_, fun z hz => ?_, ?_, s12 _ _ hp1, s12 _ _ hra, sp1, sp2, sr1, sr2, fun H3 s3 => ?_⟩
      · rw [← refs_rep]
        exact upd_same
      · obtain ⟨y, hy, hz⟩ := List.mem_flatten.mp hz
        rw [(List.mem_replicate.mp hy).2] at hz
        exact ((Wn k01).ok.up (Tups.of s12)) z (hin3 z hz)
      · rw [List.length_flatten, List.map_replicate, List.sum_replicate_nat]
        omega
      · refine ⟨rfl, ?_⟩
        rw [wsum_rep, z3]
        exact q H3 c1 (k01.trans (wo_mono (s12.trans s3))) (S1.up (s12.trans s3)) c11 (by omega)
end
end Any
end
section
set_option Elab.async false
set_option linter.all false
set_option maxRecDepth 100000
set_option maxHeartbeats 4000000
namespace Any
open PySem PySem.Spec PyProof.Rows L2
open LamX (lamEnv lamCx CodeO Tabs ExtN TabB TabS)
/-! ### defs that make lambdas: their code objects and tables -/
abbrev cI (K : PySem.W.Frag) : Addr × Addr := He.cT K ("Web", some "__init__")
abbrev cL (K : PySem.W.Frag) : Addr × Addr := He.cT K ("law", none)
def qI : Str := ("Web.__init__" : Str) ++ ".<locals>." ++ "<lambda>"
def qL : Str := ("law" : Str) ++ ".<locals>." ++ "<lambda>"
def TT2 (K : PySem.W.Frag) : List (Addr × Str) := [((cI K).2, qI), ((cL K).2, qL)]
theorem tt2_I {K : PySem.W.Frag} {mg : Str → Option Value} (T : Txt K mg) : ((cI K).2, qI) ∈ TT2 K ∧ ∀ p ∈ TT2 K, p.1 = (cI K).2 → p.2 = qI := by
  refine ⟨List.mem_cons_self .., fun p hp e => ?_⟩
  rcases List.mem_cons.mp hp with h | h
  · rw [h]
  · have h : p = ((cL K).2, qL) := by simpa using h
    rw [h] at e
    exact absurd e.symm T.tne
theorem tt2_L {K : PySem.W.Frag} {mg : Str → Option Value} (T : Txt K mg) : ((cL K).2, qL) ∈ TT2 K ∧ ∀ p ∈ TT2 K, p.1 = (cL K).2 → p.2 = qL := by
  refine ⟨List.mem_cons_of_mem _ (List.mem_cons_self ..), fun p hp e => ?_⟩
  rcases List.mem_cons.mp hp with h | h
  · rw [h] at e
    exact absurd e T.tne
  · have h : p = ((cL K).2, qL) := by simpa using h
    rw [h]
def lamPB (sc scope : Scope) (y : Str) : Bool := decide (scope.kind = .function) && !scope.isCoroutine && !scope.isGenerator && decide (scope.names.lookup y = some .local) &&
  scope.names.all fun z => !decide (z.2 = .cell) && (!decide (z.2 = .local) || decide (z.1 = y)) && (!decide (z.2 = .free) || decide (sc.names.lookup z.1 = some .cell) || decide (sc.names.lookup z.1 = some .free))
theorem lamP_by {sc scope : Scope} {y : Str} (h : lamPB sc scope y = true) : LamP sc scope y := by
  unfold lamPB at h
  simp only [Bool.and_eq_true, Bool.or_eq_true, Bool.not_eq_true', decide_eq_true_eq, decide_eq_false_iff_not, List.all_eq_true] at h
  obtain ⟨⟨⟨⟨h1, h2⟩, h3⟩, h4⟩, h5⟩ := h
  refine ⟨h1, h2, h3, fun z hz => ⟨(h5 z hz).1.1, fun e => (h5 z hz).1.2.resolve_left fun n => n e⟩, h4, fun z hz e => ?_⟩
  rcases (h5 z hz).2 with (n | n) | n
  · exact absurd e n
  · exact .inl n
  · exact .inr n
/-- all but one object and the tables stay -/
def ExtB (x : Addr) (H H' : Hp) : Prop := ∀ b o, b ≠ x → H b = some o → (∀ ps, o ≠ .tbl ps) → H' b = some o
theorem tabs_upd {H : Hp} {x C dx : Addr} {fs : List (Str × V)} {o : HO} {L : List (Addr × Str)} (t : Tabs L H) (h : H x = some (.ins C dx fs)) : Tabs L (upd H x o) := fun p hp => by
  obtain ⟨ps, h1, h2, h3⟩ := t p hp
  have n1 : p.1 ≠ x := fun z => by
    rw [z, h] at h1
    cases h1
  refine ⟨ps, by rw [upd_ne n1]; exact h1, h2, fun pos cv hc => ?_⟩
  obtain ⟨c, e1, e2⟩ := h3 pos cv hc
  refine ⟨c, e1, ?_⟩
  have n2 : c ≠ x := fun z => by
    rw [z, h] at e2
    unfold CodeO at e2
    cases e2
  rw [upd_ne n2]
  exact e2
theorem steps_of {H : Hp} : ∀ (ys : List V) (ss : SL), ys.length = ss.length → (∀ (n : Nat) (y : V), ys[n]? = some y → ∃ (a : Addr) (z : Addr × AM.Stp), y = V.ref a ∧ ss[n]? = some z ∧ StpAt H a z.2) → ∃ s2 : SL, ys = refs s2 ∧ stps s2 = stps ss ∧ StepsOk H s2
  | [], [], _, _ => ⟨[], rfl, rfl, fun _ hz => (by cases hz)⟩
  | [], _ :: _, h, _ => by cases h
  | _ :: _, [], h, _ => by cases h
  | y :: ys, z :: ss, h, g => by
    obtain ⟨s2, h1, h2, h3⟩ := steps_of ys ss (Nat.succ.inj h) fun n y' hy => g (n + 1) y' hy
    obtain ⟨a, z', e1, e2, e3⟩ := g 0 y rfl
    cases e2
    refine ⟨(a, z.2) :: s2, ?_, ?_, fun x hx => ?_⟩
    · rw [e1, h1]
      rfl
    · show z.2 :: stps s2 = z.2 :: stps ss
      rw [h2]
    · rcases List.mem_cons.mp hx with hx | hx
      · subst hx
        exact e3
      · exact h3 x hx
theorem StepsOk.out {H : Hp} {ss : SL} {y1 y2 : Addr} {zs1 zs2 : List V} (h : StepsOk H ss) (g1 : H y1 = some (.lst zs1)) (g2 : H y2 = some (.lst zs2)) : StepsOk (wo y1 y2 H) ss := fun z hz => by
  obtain ⟨b, h1, h2⟩ := h z hz
  have ne : ∀ {c : Addr} {xs : List V}, H c = some (.tup xs) → wo y1 y2 H c = some (.tup xs) := fun {c xs} e => by
    rw [wo_get]
    · exact e
    · exact fun n => by rw [n, g1] at e; cases e
    · exact fun n => by rw [n, g2] at e; cases e
  exact ⟨b, ne h1, ne h2⟩
def spWebInit (K : PySem.W.Frag) : Sp := fun vs H Q _ => ∃ (x dx l : Addr) (N : Nat) (ss : SL), vs = [.ref x, .int (N : Int), .ref l] ∧ H x = some (.ins (He.ga K "Web") dx []) ∧ H l = some (.lst (refs ss)) ∧ StepsOk H ss ∧ BdS N ss ∧ (stps ss).Nodup ∧ ss.length ≤ 14 ∧ 1 ≤ N ∧ N ≤ 6 ∧ Tabs (TT2 K) H ∧
  ∀ H' s2, ExtB x H H' → Tabs (TT2 K) H' → (∀ y1 y2 zs1 zs2, H y1 = some (.lst zs1) → H y2 = some (.lst zs2) → WebAt K (wo y1 y2 H') x N s2) → (stps s2).Perm (stps ss) → Q .non H'
theorem FunD_okC {P : Program} {w : World} {K : PySem.W.Frag} {mg : Str → Option Value} {base : Heap} {x qual : Str} {params : Arguments} {body : List Stmt} {scope : Scope} {dvs : List V} {kws : List (Str × V)} {f : Addr} {fd : FuncData} {CX : CXT} {N ps : List Str} {k : Nat} {sp : Sp}
    (F : FunD K x qual params body scope dvs kws f fd) (S : FnScope N ps scope) (len : ∀ vs H Q E, sp vs H Q E → vs.length = ps.length)
    (hbody : ∀ (A : Around) (outer : List Env) (s : Shared) (H : Hp) (vs : List V) (Q : VK) (E : XK), Room k (A.deeper (envOfC qual scope s.heap.objs.size f fd.code)) → sp vs H Q E →
      ∃ t, PSs (cxOf CX P w K mg base N qual scope f fd.code A outer s H E) body t ∧ t { nx := fun _ H' => Q .non H', rt := Q } (start N vs) H) : FnOk P w K mg base CX (k + 1) f fd ps sp := by
  obtain ⟨oc, od, dV, kV, doc, pm, an, cdv, ct, osl, rfl, lk, hcd, _, _⟩ := F.ex
  exact fn_of lk hcd S len fun A outer s H vs Q E hr hsp => hbody A outer s H vs Q E hr hsp
section
variable {P : Program} {w : World} {K : PySem.W.Frag} {mg : Str → Option Value} {base : Heap}
theorem sc_Web_init : FnScope ["self", "places", "steps", "wrong", "step"] ["self", "places", "steps"] (defScope st_Web_init) := ⟨rfl, rfl, rfl, by decide +kernel, rfl, by decide +kernel, by decide +kernel⟩
theorem ok_Web_init (T : Txt K mg) (TBI : TabB base mg (cI K).1 (cI K).2) : FnOk P w K mg base CX0 7 (He.ma K (He.ga K "Web") "__init__") (fdOf K (He.ma K (He.ga K "Web") "__init__")) ["self", "places", "steps"] (spWebInit K) := by
  refine FunD_okC T.webI.F sc_Web_init (fun vs H Q E h => ?_) (fun A outer s H vs Q E hr h => ?_)
  · obtain ⟨x, dx, l, N, ss, rfl, _⟩ := h
    rfl
  obtain ⟨x, dx, l, N, ss, rfl, hx, hl, ok, bd, nd, few, n1, n6, tabs, q⟩ := h
  obtain ⟨oc, od, dV, kV, doc, pm, an, cdg, ct, osl, efd, lk, hcg, _, _⟩ := T.first_bad.F.ex
  have hbd := T.first_bad.b
  rw [efd] at lk hbd
  refine ⟨_, (pss_cons (ps_if (pt_not (pt_val (pe_f T.is_positive (ok_is_positive T) hr pass0 (pa_cons (pv 1) pa_nil)))) (pss_one ps_never) pss_nil)
    (pss_cons (ps_set (i := 3) sc_Web_init.nd rfl (Or.inl rfl) (pe_lamcall1 (T := TT2 K) (y := "thing") (b := "things") (a := "is_right") (k := 4) (X := cxOf CX0 P w K mg base ["self", "places", "steps", "wrong", "step"] "Web.__init__" (defScope st_Web_init) (He.ma K (He.ga K "Web") "__init__") (fdOf K (He.ma K (He.ga K "Web") "__init__")).code A outer s H E) rfl T.first_bad.m T.first_bad.F.kp lk hcg hbd sc_first_bad rfl (.inl rfl) (fb_gives T) TBI T.cdI (tt2_I T).1 (tt2_I T).2 hr (lamP_by (sc := defScope st_Web_init) (by decide +kernel)) (show ("thing" : Str) ∉ (["self", "places", "steps", "wrong", "step"] : List Str) by decide +kernel) rfl (fun _ _ _ _ _ _ => rfl) (pv 2) (fun A outer s H f c' hr => pe_f T.is_step (ok_is_step T) hr pass0 (pa_cons (pv 5) (pa_cons (pv 1) pa_nil)))))
    (pss_cons (ps_if (pt_cmpR op_notN (pv 3) pe_non (nomark _)) (pss_one ps_never) pss_nil)
    (pss_cons (ps_fld (pv 0) (pv 1) rfl)
    (pss_one (ps_fld (pv 0) (pe_callB (cr_sortedG hr.units) rfl T.n_sorted (by decide +kernel) (pa_cons (pe_lc (own := [("step", 4)]) (g := gName 4) rfl sc_Web_init.nd (pi_list (pv 2)) (blkOk_by (own := [("step", 4)]) (N := ["self", "places", "steps", "wrong", "step"]) (sc := defScope st_Web_init) (by decide +kernel)) (fun _ _ _ _ _ => (pg_name (i := 4) sc_Web_init.nd rfl (Or.inl rfl))) (fun _ _ _ _ _ => pts_nil) (fun _ _ _ _ _ => (pe_f T.as_tuples (ok_at2 T) hr pass0 (pa_cons (pv 4) pa_nil)))) pa_nil)) rfl)))))), ?_⟩
  refine ⟨_, rfl, (N : Int), rfl, _, rfl, ?_⟩
  rw [decide_eq_true (show (1 : Int) ≤ N by omega)]
  refine iteF ?_
  refine ⟨_, rfl, tabs, fun H1 e1 t1 => ⟨l, ss, rfl, e1 _ _ hl (fun _ z => by cases z), ?_, nd, few, fun z hz H' Q' s' q' => ?_, fun H2 s2 => ?_⟩⟩
  · exact ok.up fun a xs h => e1 _ _ h fun _ z => by cases z
  · have ok1 : StepsOk H1 ss := ok.up fun a xs h => e1 _ _ h fun _ z => by cases z
    have b := bd z hz
    exact ⟨_, rfl, _, rfl, z.1, z.2, N, rfl, (ok1 z hz).up (Tups.of s'), b.s, b.t, b.k.1, q'⟩
  have ok2 : StepsOk H2 ss := (ok.up fun a xs h => e1 _ _ h fun _ z => by cases z).up (Tups.of s2)
  have hx2 := s2 _ _ (e1 _ _ hx fun _ z => by cases z)
  have hl2 := s2 _ _ (e1 _ _ hl fun _ z => by cases z)
  have t2 : Tabs (TT2 K) H2 := t1.ext s2
  have eb2 : ExtB x H H2 := fun b o _ h n => s2 _ _ (e1 _ _ h n)
  refine ⟨_, rfl, rfl, _, rfl, iteF ?_⟩
  refine ⟨_, rfl, _, rfl, x, _, dx, [], rfl, hx2, T.webC, T.webP, by decide, ?_⟩
  have hx3 : (upd H2 x (.ins (He.ga K "Web") dx (putF "own_places" (.int N) []))) x = some (.ins (He.ga K "Web") dx (putF "own_places" (.int N) [])) := upd_same
  have lx : l ≠ x := fun z => by
    rw [z, hx2] at hl2
    cases hl2
  have hl3 : (upd H2 x (.ins (He.ga K "Web") dx (putF "own_places" (.int N) []))) l = some (.lst (refs ss)) := by
    rw [upd_ne lx]
    exact hl2
  have ok3 := ok2.up (Tups.upd (H := H2) (p := x) (o := .ins (He.ga K "Web") dx (putF "own_places" (.int N) [])) fun xs z => by rw [hx2] at z; cases z)
  have t3 := tabs_upd (o := .ins (He.ga K "Web") dx (putF "own_places" (.int N) [])) t2 hx2
  have eb3 : ExtB x H (upd H2 x (.ins (He.ga K "Web") dx (putF "own_places" (.int N) []))) := fun b o h1 h n => by
    rw [upd_ne h1]
    exact eb2 b o h1 h n
  generalize upd H2 x (.ins (He.ga K "Web") dx (putF "own_places" (.int N) [])) = H3 at hx3 hl3 ok3 t3 eb3 ⊢
  refine ⟨_, rfl, l, rfl, ⟨_, SqL.of hl3⟩, fun D nD => ?_⟩
  refine lc_rel (xs := refs ss) (fun n y H' => ∃ a z, y = V.ref a ∧ ss[n]? = some z ∧ StpAt H' a z.2) (fun n y H1 H2 t ⟨a, z, h1, h2, h3⟩ => ⟨a, z, h1, h2, h3.up t⟩) nD (SqL.of hl3) (fun _ => rfl)
    (small_line (by rw [refs_len]; omega)) (fun n y H' hy s' Q' q' => ?_) fun ys H4 s4 e4 len hys => ?_
  · rw [refs, List.getElem?_map] at hy
    cases hb : ss[n]? with
    | none => rw [hb] at hy; cases hy
    | some z =>
    rw [hb] at hy
    cases hy
    exact ⟨_, rfl, z.1, z.2, rfl, (ok3 z (List.mem_of_getElem? hb)).up (Tups.of s'), fun a' H'' s'' h => q' _ H'' s'' ⟨a', z, rfl, hb, h⟩⟩
  obtain ⟨s5, rfl, e5, ok5⟩ := steps_of ys ss (by rw [len, refs_len]) hys
  refine ⟨D, refs s5, (stps s5).map sdat, rfl, SqL.of e4, fun y hy => ?_, dp_stps s5 ok5, ?_, ?_, fun d hd => ?_, fun zs p pm np => ?_⟩
  · obtain ⟨z, _, rfl⟩ := List.mem_map.mp hy
    exact ⟨_, rfl⟩
  · exact PySem.W.AllAlike.of fun y z => alike_stp _ _
  · exact PySem.W.Sortable.tuples fun y => ⟨_, _, rfl⟩
  · obtain ⟨z, _, rfl⟩ := List.mem_map.mp hd
    rw [(lay_stp z).2]
    decide
  obtain ⟨s6, p6, rfl⟩ := perm_map (fun p : Addr × AM.Stp => V.ref p.1) pm s5 rfl
  have sp := same_new np (.lst (refs s6))
  have s46 := s4.trans sp
  have hx6 := s46 _ _ hx3
  refine ⟨_, rfl, x, _, dx, _, rfl, hx6, T.webC, T.webS, ?_, ?_⟩
  · exact (by decide : (1 : Nat) < 1000)
  have pms : (stps s6).Perm (stps ss) := by
    rw [← e5]
    exact p6.map _
  have ok6 : StepsOk (upd H4 p (.lst (refs s6))) s6 := StepsOk.up (H := H4) (fun z hz => ok5 z (p6.mem_iff.mp hz)) (Tups.of sp)
  have px : p ≠ x := (ne_of_none (s4 _ _ hx3) np).symm
  have eb6 : ExtB x H (upd (upd H4 p (.lst (refs s6))) x (.ins (He.ga K "Web") dx (putF "own_steps" (.ref p) (putF "own_places" (.int N) [])))) := fun b o h1 h n => by
    rw [upd_ne h1]
    exact s46 _ _ (eb3 b o h1 h n)
  refine q _ s6 eb6 (tabs_upd (t3.ext s46) hx6) (fun y1 y2 zs1 zs2 g1 g2 => ?_) pms
  have n1 : y1 ≠ x := fun z => by
    rw [z, hx] at g1
    cases g1
  have n2 : y2 ≠ x := fun z => by
    rw [z, hx] at g2
    cases g2
  have p1 : p ≠ y1 := (ne_of_none (s4 _ _ (eb3 _ _ n1 g1 fun _ z => by cases z)) np).symm
  have p2 : p ≠ y2 := (ne_of_none (s4 _ _ (eb3 _ _ n2 g2 fun _ z => by cases z)) np).symm
  have ok7 : StepsOk (upd (upd H4 p (.lst (refs s6))) x (.ins (He.ga K "Web") dx (putF "own_steps" (.ref p) (putF "own_places" (.int N) [])))) s6 := ok6.up (.upd fun xs z => by rw [hx6] at z; cases z)
  refine ⟨⟨dx, _, p, (wo_get n1.symm n2.symm).trans upd_same, ?_, ?_, (wo_get p1 p2).trans ?_⟩, ok7.out (eb6 _ _ n1 g1 fun _ z => by cases z) (eb6 _ _ n2 g2 fun _ z => by cases z), fun z hz => ?_, ?_, ‹1 ≤ N›, n6⟩
  · rw [lookup_putF, if_neg (by decide +kernel), lookup_putF, if_pos rfl]
  · rw [lookup_putF, if_pos rfl]
  · rw [upd_ne px]
    exact upd_same
  · obtain ⟨y, hy, ey⟩ := List.mem_map.mp (pms.mem_iff.mp (List.mem_map.mpr ⟨z, hz, rfl⟩))
    rw [← ey]
    exact bd y hy
  · have := pms.length_eq
    simp [stps] at this
    omega
end
end Any
end
section
set_option Elab.async false
set_option linter.all false
set_option maxRecDepth 100000
set_option maxHeartbeats 4000000
namespace Any
open PySem PySem.Spec PyProof.Rows L2
open LamX (lamEnv lamCx CodeO Tabs ExtN TabB TabS LamS GivesTo)
structure TxtX (K : PySem.W.Frag) : Prop where
  xP : XfC K (He.ga K "BadPlace")
  xR : XfC K (He.ga K "BadPrices")
  fnD : ∃ o, K.lookup (He.ga K "_law_draw") = some o ∧ o.cls = .type "function"
theorem takes_len {X : Cx} {W : WX} (t : Takes X W) : Takes X (fun cls d σ H => σ.length = X.N.length → W cls d σ H) := fun u s' ⟨a, B, sI, pins, σ, H, cls, d, e, I, nb, up, sky, na, os, ag, w⟩ =>
  t u s' ⟨a, B, sI, pins, σ, H, cls, d, e, I, nb, up, sky, na, os, ag, w I.len⟩
/-- what is made of an exception -/
def ExcT (K : PySem.W.Frag) (Q : VK) : XK := fun cls d H => (∃ dd v, cls = .ref (He.ga K "BadPlace") ∧ d = some dd ∧ H dd = some (.xd [("place", v)]) ∧ ∀ p, H p = none → Q (.ref p) (upd H p (.tup [.str "place", v]))) ∨
  ∃ dd v, cls = .ref (He.ga K "BadPrices") ∧ d = some dd ∧ H dd = some (.xd [("thing", v)]) ∧ ∀ p, H p = none → Q (.ref p) (upd H p (.tup [.str "prices", v]))
def TTried (K : PySem.W.Frag) : (XK → Hp → VK → Prop) → Hp → VK → Prop := fun tl H Q => tl (ExcT K Q) H fun v H' => 2 ≤ sizeLine ∧ ∀ p, H' p = none → Q (.ref p) (upd H' p (.tup [.str "told", v]))
theorem sc_law_tried : FnScope ["_law_ask", "e"] ["_law_ask"] (defScope st_law_tried) := ⟨rfl, rfl, rfl, by decide +kernel, rfl, by decide +kernel, by decide +kernel⟩
abbrev triedCx (X : Cx) (cdv : Value) (s : Shared) (H : Hp) : Cx := (cxOf C8.CX0 X.prog X.w X.K X.mg X.base ["_law_ask", "e"] "_law_tried" (defScope st_law_tried) (He.ga X.K "_law_tried") cdv X.A X.stack s H C8.E0).nox
theorem tried_gives {X : Cx} (T : Txt X.K X.mg) (U : TxtX X.K) {q : Str} {cdv : Value} : GivesTo X ["_law_ask", "e"] "_law_tried" (defScope st_law_tried) (He.ga X.K "_law_tried") cdv (defBody st_law_tried) "_law_ask" q (TTried X.K) := by
  intro f c' s H Q tl act hc h
  refine ⟨_, pss_one (ps_tryAs (X := triedCx X cdv s H) (i := 1)
      (l := [(.ref (He.ga X.K "BadPlace"), _), (.ref (He.ga X.K "BadPrices"), _)]) (tb := fun W D σ H => ∃ Ech : XK, (∀ cls d (σ' : L2.St) H', σ'.length = 2 → Ech cls d H' → W cls d σ' H') ∧ σ[0]? = some (some (.ref f)) ∧ H c' = some (CodeO c' q) ∧ tl Ech H fun v H1 => 2 ≤ sizeLine ∧ ∀ p, H1 p = none → D.rt (.ref p) (upd H1 p (.tup [.str "told", v])))
      rfl rfl sc_law_tried.nd rfl rfl takes0 (fun W pn xe tk _ => ?_)
      (.cons ⟨rfl, by decide, .inl T.c_BadPlace⟩ (fun a oe cls d pn hz hf => pss_one (ps_ret (pe_tup (pa_cons pe_str (pa_cons (pe_xf (X := triedCx X cdv s H) U.xP T.a_BadPlace hz hf (pv 1)) pa_nil)))))
        (.cons ⟨rfl, by decide, .inl T.c_BadPrices⟩ (fun a oe cls d pn hz hf => pss_one (ps_ret (pe_tup (pa_cons pe_str (pa_cons (pe_xf (X := triedCx X cdv s H) U.xR T.a_BadPrices hz hf (pv 1)) pa_nil))))) .nil))), ?_⟩
  · constructor
    intro pins s' σ H' D I h'
    obtain ⟨Ech, hW, h1, h2, h3⟩ := h'
    have hp := fun p1 p2 => act _ pn xe Ech p1 p2 (takes_len tk) (fun cls d σ' H' e l => hW cls d σ' H' l e)
    exact (pss_one (ps_ret (pe_tup (pa_cons pe_str (pa_cons (hp _ _) pa_nil))))).run pins s' σ H' D I ⟨h1, h2, h3⟩
  · refine ⟨ExcT X.K Q, fun cls d σ' H' l e => ?_, rfl, hc, ?_⟩
    · have s1 : ∀ a : Addr, (σ'.set 1 (some (V.ref a)))[1]? = some (some (.ref a)) := fun a => by rw [List.getElem?_set_self (by omega)]
      rcases e with ⟨dd, v, rfl, rfl, e1, e2⟩ | ⟨dd, v, rfl, rfl, e1, e2⟩
      · exact ⟨true, T.x_BadPlace_BadPlace, fun _ a na => ⟨_, s1 a, rfl, rfl, dd, _, v, rfl, e1, rfl, (by show 2 ≤ sizeLine; decide), e2⟩, fun z => by cases z⟩
      · exact ⟨false, T.x_BadPrices_BadPlace, (fun z => by cases z), fun _ => ⟨true, T.x_BadPrices_BadPrices, fun _ a na => ⟨_, s1 a, rfl, rfl, dd, _, v, rfl, e1, rfl, (by show 2 ≤ sizeLine; decide), e2⟩, fun z => by cases z⟩⟩
    · exact h
end Any
end
section
set_option Elab.async false
set_option linter.all false
set_option maxRecDepth 100000
set_option maxHeartbeats 4000000
namespace Any
open PySem PySem.Spec PyProof.Rows L2
open LamX (lamEnv lamCx CodeO Tabs ExtN TabB TabS LamS GivesTo)
/-! ### heaps whose tables change -/
section
variable {K : PySem.W.Frag} {H H' : Hp} {st a : Addr} {c : Int}
theorem ext_wo (e : ExtN H H') : ExtN (wo st a H) (wo st a H') := fun b o h n => by
  obtain ⟨h1, h2, h3⟩ := wo_some h
  rw [wo_get h1 h2]
  exact e _ _ h3 n
theorem ext_tups (e : ExtN H H') : Tups H H' := fun a xs h => e _ _ h fun _ z => by cases z
theorem ext_same (s : Same H H') : ExtN H H' := .of s
theorem Strm.ext (S : Strm H st a c) (e : ExtN H H') : Strm H' st a c := by
  obtain ⟨⟨ns, x, m, h1, h2, h3⟩, h4, h5⟩ := S
  exact ⟨⟨ns, x, m, e _ _ h1 (fun _ z => by cases z), e _ _ h2 (fun _ z => by cases z), h3⟩, h4, h5⟩
theorem WebAt.ext {wb : Addr} {N : Nat} {ss : SL} (h : WebAt K H wb N ss) (e : ExtN H H') : WebAt K H' wb N ss := by
  obtain ⟨⟨dx, fs, l, h1, h2, h3, h4⟩, h5, h6, h7, h8, h9⟩ := h
  exact ⟨⟨dx, fs, l, e _ _ h1 (fun _ z => by cases z), h2, h3, e _ _ h4 (fun _ z => by cases z)⟩, h5.up (ext_tups e), h6, h7, h8, h9⟩
theorem At.ext {v : V} (h : At K H v) (e : ExtN H H') : At K H' v := by
  cases h with
  | non => exact .non
  | int i => exact .int i
  | str z => exact .str z
  | bl b => exact .bl b
  | fn h c => exact .fn h c
  | web h => exact .web (h.ext e)
theorem tabs_wo {L : List (Addr × Str)} (S : Strm H st a c) (t : Tabs L H) : Tabs L (wo st a H) := fun p hp => by
  obtain ⟨ps, h1, h2, h3⟩ := t p hp
  obtain ⟨⟨ns, x, m, g1, g2, _⟩, _⟩ := S
  have get : ∀ {b : Addr} {o : HO}, H b = some o → (∀ xs, o ≠ .lst xs) → wo st a H b = some o := fun {b o} h n => by
    rw [wo_get]
    · exact h
    · exact fun z => by rw [z, g1] at h; exact n _ (Option.some.inj h).symm
    · exact fun z => by rw [z, g2] at h; exact n _ (Option.some.inj h).symm
  refine ⟨ps, get h1 (fun _ z => by cases z), h2, fun pos cv hc => ?_⟩
  obtain ⟨c, e1, e2⟩ := h3 pos cv hc
  exact ⟨c, e1, get e2 fun _ z => by unfold CodeO at z; cases z⟩
end
/-! ### odd things -/
inductive It where
  | at_ (v : V)
  | tup (a : Addr) (xs : List V)
  | nil (a : Addr)
  | dic (a : Addr)
def It.val : It → V
  | .at_ v => v
  | .tup a _ => .ref a
  | .nil a => .ref a
  | .dic a => .ref a
def It.ok (K : PySem.W.Frag) (H : Hp) : It → Prop
  | .at_ v => At K H v
  | .tup a xs => H a = some (.tup xs) ∧ xs.length ≤ 10 ∧ ∀ x ∈ xs, At K H x
  | .nil a => H a = some (.lst [])
  | .dic a => H a = some (.dK [])
def It.noPrices : It → Prop
  | .tup _ xs => xs.length ≠ 2 ∨ xs = [.int 1, .int 0] ∨ xs = [.bl true, .int 1]
  | _ => True
def It.noPlace (N : Nat) : It → Prop
  | .at_ v => (∃ n : Int, v = .int n ∧ ¬ (0 ≤ n ∧ n < (N : Int))) ∨ ∀ n, v ≠ .int n
  | _ => True
section
variable {K : PySem.W.Frag} {mg : Str → Option Value} {H H' : Hp} {st a : Addr} {c : Int}
theorem It.ok.ext : ∀ {i : It}, i.ok K H → ExtN H H' → i.ok K H'
  | .at_ v, h, e => At.ext h e
  | .tup a xs, h, e => ⟨e _ _ h.1 (fun _ z => by cases z), h.2.1, fun x hx => (h.2.2 x hx).ext e⟩
  | .nil a, h, e => e _ _ h fun _ z => by cases z
  | .dic a, h, e => e _ _ h fun _ z => by cases z
theorem It.ok.sm : ∀ {i : It}, i.ok K H → Sm K H 2 i.val i.val
  | .at_ v, h => .inl ⟨rfl, h⟩
  | .tup a xs, h => .inr (.inl ⟨a, a, xs, xs, rfl, rfl, h.1, h.1, rfl, by have := h.2.1; omega, fun i u v h1 h2 => by
    rw [h1] at h2
    cases h2
    exact .inl ⟨rfl, h.2.2 u (List.mem_of_getElem? h1)⟩⟩)
  | .nil a, h => .inr (.inr (.inl ⟨a, a, rfl, rfl, h, h⟩))
  | .dic a, h => .inr (.inr (.inr ⟨by decide, a, rfl, rfl, h⟩))
theorem It.ok.prices (T : Txt K mg) : ∀ {i : It}, i.ok K H → i.noPrices → (PairV K H i.val false ∨ ∃ (a : Addr) (x y : Int), i.val = .ref a ∧ Sq K H a [.int x, .int y] ∧ ¬ (0 < x ∧ 0 < y))
  | .at_ v, h, _ => by
    obtain ⟨t, ty, k1, k2, _⟩ := At.ty T h
    exact .inl (.noSeq ty (any2 k1 k2))
  | .tup a xs, h, n => by
    rcases n with n | rfl | rfl
    · exact .inl (.len (.inr h.1) n)
    · exact .inr ⟨a, 1, 0, rfl, .inr h.1, by decide⟩
    · exact .inl (.odd (.inr h.1) (.base (.bl true)) (.inr ⟨bool_int, bool_bool⟩))
  | .nil a, h, _ => .inl (.len (.inl h) (by decide))
  | .dic a, h, _ => .inl (.noSeq (.base (.dK h)) (any2 (kit_ty (a := "dict") (b := "list") (r := false) (by decide +kernel)) (kit_ty (a := "dict") (b := "tuple") (r := false) (by decide +kernel))))
theorem It.ok.place (T : Txt K mg) {N : Nat} : ∀ {i : It}, i.ok K H → i.noPlace N → BadP K H i.val N
  | .at_ v, h, n => by
    rcases n with n | n
    · exact .inl n
    · have g : At K H v := h
      show BadP K H v N
      cases g with
      | int i => exact absurd rfl (n i)
      | non => exact .inr ⟨_, .base .non, .inl (kit_ty (by decide +kernel))⟩
      | str z => exact .inr ⟨_, .base (.str z), .inl (kit_ty (by decide +kernel))⟩
      | bl b => exact .inr ⟨_, .base (.bl b), .inr ⟨bool_int, bool_bool⟩⟩
      | fn e c => exact .inr ⟨_, .fn e c, .inl (kit_ty (by decide +kernel))⟩
      | web w => exact .inr ⟨_, web_ty T w, .inl T.webT.ki⟩
  | .tup a xs, h, _ => .inr ⟨_, .base (.tup h.1), .inl (kit_ty (by decide +kernel))⟩
  | .nil a, h, _ => .inr ⟨_, .base (.lst h), .inl (kit_ty (by decide +kernel))⟩
  | .dic a, h, _ => .inr ⟨_, .base (.dK h), .inl (kit_ty (by decide +kernel))⟩
end
def spStream (K : PySem.W.Frag) : Sp := fun vs H Q _ => ∃ (a : Addr) (ns : List Int), vs = [.ref a] ∧ SqL K H a (ns.map V.int) ∧ ∀ st b H', Same H H' → H st = none → H b = none → Strm H' st b 0 → Q (.ref st) H'
section
variable {P : Program} {w : World} {K : PySem.W.Frag} {mg : Str → Option Value} {base : Heap}
theorem sc_law_stream : FnScope ["_law_script"] ["_law_script"] (defScope st_law_stream) := ⟨rfl, rfl, rfl, by decide +kernel, rfl, by decide +kernel, by decide +kernel⟩
theorem ok_law_stream (T : Txt K mg) : FnK P w K mg base CX0 1 "_law_stream" ["_law_script"] (spStream K) := by
  refine T.law_stream.ok sc_law_stream (fun vs H Q E h => ?_) (fun cdv A outer s H vs Q E hr h => ?_)
  · obtain ⟨a, ns, rfl, _⟩ := h
    rfl
  obtain ⟨a, ns, rfl, hl, q⟩ := h
  refine ⟨_, (pss_one (ps_ret (pe_lst (pa_cons (pe_callTy call_list_of rfl T.n_list (by decide +kernel) (pa_cons (pv 0) pa_nil)) (pa_cons pe_int (pa_cons pe_int (pa_cons pe_int pa_nil))))))), ?_⟩
  refine ⟨_, rfl, a, _, rfl, .inl hl, fun b nb => ⟨(by show 4 ≤ sizeLine; decide), fun st ns' => ?_⟩⟩
  have s1 := same_new nb (.lst (ns.map V.int))
  have e1 : (upd H b (.lst (ns.map V.int))) b = some (.lst (ns.map V.int)) := upd_same
  have s2 := same_new ns' (.lst [.ref b, .int 0, .int 0, .int 17])
  refine q st b _ (s1.trans s2) (not_none_same s1 ns') nb ⟨⟨ns, 0, 17, upd_same, s2 _ _ e1, by decide, by decide, by decide⟩, (ne_of_none e1 ns').symm, by decide⟩
end
end Any
end
section
set_option Elab.async false
set_option linter.all false
set_option maxRecDepth 100000
set_option maxHeartbeats 4000000
namespace Any
open PySem PySem.Spec PyProof.Rows L2
open LamX (lamEnv lamCx CodeO Tabs ExtN TabB TabS LamS GivesTo)
theorem new2 {H : Hp} {p : Addr} (h : H p = none) (o : HO) : Same H (upd H p o) ∧ upd H p o p = some o := ⟨same_new h o, upd_same⟩
theorem of_nil {α : Type} {P : α → Prop} : ∀ i ∈ ([] : List α), P i := fun i h => by cases h
theorem of_cons {α : Type} {P : α → Prop} {x : α} {r : List α} (h : P x) (g : ∀ i ∈ r, P i) : ∀ i ∈ x :: r, P i := fun i hi => by
  rcases List.mem_cons.mp hi with e | e
  · rw [e]
    exact h
  · exact g i e
def spLaw (K : PySem.W.Frag) : Sp := fun vs H Q _ => ∃ (a : Addr) (ns : List Int), vs = [.ref a] ∧ SqL K H a (ns.map V.int) ∧ ns.length ≤ 63 ∧ Tabs (TT2 K) H ∧ ∀ H', Q (.bl true) H'
section
variable {P : Program} {w : World} {K : PySem.W.Frag} {mg : Str → Option Value} {base : Heap}
theorem sc_law : FnScope ["_law_script", "_law_stream_here", "_law_turn", "_law_places", "_law_steps", "_law_odd", "_law_web_here", "_law_place"] ["_law_script"] (defScope st_law) := ⟨rfl, rfl, rfl, by decide +kernel, rfl, by decide +kernel, by decide +kernel⟩
theorem ok_law (T : Txt K mg) (U : TxtX K) (TBI : TabB base mg (cI K).1 (cI K).2) (TBL : TabB base mg (cL K).1 (cL K).2) : FnOk P w K mg base CX0 9 (He.ga K "law") (fdOf K (He.ga K "law")) ["_law_script"] (spLaw K) := by
  refine FunD_okC T.law.F sc_law (fun vs H Q E h => ?_) (fun A outer s H vs Q E hr h => ?_)
  · obtain ⟨a, ns, rfl, _⟩ := h
    rfl
  obtain ⟨a0, ns, rfl, hl, few, tabs, q⟩ := h
  obtain ⟨oc, od, dV, kV, doc, pm, an, cdg, ct, osl, efd, lk, hcg, _, _⟩ := T.law_tried.F.ex
  have hbd := T.law_tried.b
  rw [efd] at lk hbd
  refine ⟨_, (pss_cons (ps_set (i := 1) sc_law.nd rfl (Or.inr rfl) (pe_f T.law_stream (ok_law_stream T) hr pass0 (pa_cons (pv 0) pa_nil)))
    (pss_cons (ps_for (passes_of rfl) rfl (pi_range1 (by rfl) T.n_range (pa_cons pe_int pa_nil)) (pg_name (i := 2) sc_law.nd rfl (Or.inl rfl)) (pss_cons (ps_asg (pe_f T.law_web (ok_law_web T) hr pass0 (pa_cons (pv 1) (pa_cons pe_int (pa_cons pe_int pa_nil)))) (pg_tup rfl (pgs_cons (pg_name (i := 3) sc_law.nd rfl (Or.inl rfl)) (pgs_cons (pg_name (i := 4) sc_law.nd rfl (Or.inr rfl)) pgs_nil))))
    (pss_cons (ps_set (i := 6) sc_law.nd rfl (Or.inr rfl) (pe_make T.webM (ok_Web_init T TBI) hr rfl T.c_Web T.webI.b .nil pass0 (pa_cons (pv 3) (pa_cons (pv 4) pa_nil))))
    (pss_cons (ps_if (pt_not (pt_val (pe_callB (cr_all rfl) rfl T.n_all (by decide +kernel) (pa_cons (pe_lc (own := [("_law_place", 7)]) (g := gName 7) rfl sc_law.nd (pi_range1 (by rfl) T.n_range (pa_cons (pv 3) pa_nil)) (blkOk_by (own := [("_law_place", 7)]) (N := ["_law_script", "_law_stream_here", "_law_turn", "_law_places", "_law_steps", "_law_odd", "_law_web_here", "_law_place"]) (sc := defScope st_law) (by decide +kernel)) (fun _ _ _ _ _ => (pg_name (i := 7) sc_law.nd rfl (Or.inl rfl))) (fun _ _ _ _ _ => pts_nil) (fun _ _ _ _ _ => (pe_f T.law_place_right (ok_law_place_right T) hr pass0 (pa_cons (pv 1) (pa_cons (pv 6) (pa_cons (pv 4) (pa_cons (pv 7) pa_nil))))))) pa_nil)))) (pss_one (ps_ret pe_bl)) pss_nil)
    (pss_cons (ps_for (passes_of rfl) rfl (pi_list (pe_lst (pa_cons pe_non (pa_cons pe_int (pa_cons pe_str (pa_cons (pe_tup (pa_cons pe_int pa_nil)) (pa_cons (pe_tup (pa_cons pe_int (pa_cons pe_int pa_nil))) (pa_cons (pe_tup (pa_cons pe_bl (pa_cons pe_int pa_nil))) (pa_cons (pe_tup (pa_cons pe_int (pa_cons pe_int (pa_cons pe_int pa_nil)))) (pa_cons pe_dnewK (pa_cons (pe_glob (v := .ref (He.ga K "_law_draw")) rfl T.law_draw.m rfl) (pa_cons (pv 6) pa_nil)))))))))))) (pg_name (i := 5) sc_law.nd rfl (Or.inr rfl)) (pss_one (ps_if (pt_not (pt_val (pe_f T.law_same (ok_same3 T) hr pass0 (pa_cons (LamX.pe_lamcall (T := TT2 K) (a := "_law_ask") (k := 6) (X := cxOf CX0 P w K mg base ["_law_script", "_law_stream_here", "_law_turn", "_law_places", "_law_steps", "_law_odd", "_law_web_here", "_law_place"] "law" (defScope st_law) (He.ga K "law") (fdOf K (He.ga K "law")).code A outer s H E) rfl T.law_tried.m T.law_tried.F.kp lk hcg hbd sc_law_tried rfl (.inl rfl) (tried_gives T U) TBL T.cdL (tt2_L T).1 (tt2_L T).2 hr (LamX.lamS_by (sc := defScope st_law) (by decide +kernel)) rfl (fun _ _ _ _ _ => rfl) (fun A outer s H E f c' hr => pe_f T.credit (ok_credit T) hr (passes_call (takes_of rfl rfl rfl rfl) (fun _ _ _ _ h => h)) (pa_cons (pv 6) (pa_cons pe_int (pa_cons (pv 5) pa_nil))))) (pa_cons (pe_tup (pa_cons pe_str (pa_cons (pv 5) pa_nil))) pa_nil))))) (pss_one (ps_ret pe_bl)) pss_nil)))
    (pss_one (ps_for (passes_of rfl) rfl (pi_list (pe_lst (pa_cons pe_non (pa_cons (pe_un un_neg pe_int) (pa_cons (pv 3) (pa_cons pe_bl (pa_cons pe_str (pa_cons (pe_tup (pa_cons pe_int pa_nil)) (pa_cons (pe_lst pa_nil) (pa_cons pe_dnewK (pa_cons (pv 6) pa_nil))))))))))) (pg_name (i := 5) sc_law.nd rfl (Or.inr rfl)) (pss_one (ps_if (pt_not (pt_val (pe_f T.law_same (ok_same3 T) hr pass0 (pa_cons (LamX.pe_lamcall (T := TT2 K) (a := "_law_ask") (k := 6) (X := cxOf CX0 P w K mg base ["_law_script", "_law_stream_here", "_law_turn", "_law_places", "_law_steps", "_law_odd", "_law_web_here", "_law_place"] "law" (defScope st_law) (He.ga K "law") (fdOf K (He.ga K "law")).code A outer s H E) rfl T.law_tried.m T.law_tried.F.kp lk hcg hbd sc_law_tried rfl (.inl rfl) (tried_gives T U) TBL T.cdL (tt2_L T).1 (tt2_L T).2 hr (LamX.lamS_by (sc := defScope st_law) (by decide +kernel)) rfl (fun _ _ _ _ _ => rfl) (fun A outer s H E f c' hr => pe_f T.credit (ok_credit T) hr (passes_call (takes_of rfl rfl rfl rfl) (fun _ _ _ _ h => h)) (pa_cons (pv 6) (pa_cons (pv 5) (pa_cons pe_non pa_nil))))) (pa_cons (pe_tup (pa_cons pe_str (pa_cons (pv 5) pa_nil))) pa_nil))))) (pss_one (ps_ret pe_bl)) pss_nil)))))))))
    (pss_one (ps_ret pe_bl)))), ?_⟩
  refine ⟨_, rfl, a0, ns, rfl, hl, fun st a H1 s1 n1 n2 S1 => ?_⟩
  have t1 : Tabs (TT2 K) H1 := tabs.ext s1
  refine ⟨5, rfl, by decide, by decide, ?_⟩
  refine for_range (n := 5) (fun i σ H2 => ∃ c', Tabs (TT2 K) H2 ∧ Strm H2 st a c' ∧ c' ≤ 5000 * i ∧ ∃ x2 x3 x4 x5 x6 x7, σ = [some (.ref a0), some (.ref st), x2, x3, x4, x5, x6, x7]) ⟨0, t1, S1, by omega, _, _, _, _, _, _, rfl⟩ ?_ ?_
  · rintro i σ H2 hi ⟨c, t2, S2, hc, x2, x3, x4, x5, x6, x7, rfl⟩
    refine ⟨_, rfl, st, a, c, rfl, S2, (by show _ ≤ (1099511627776 : Int); omega), fun q0 l N ss H3 c3 N1 N6 ls bd nd k3 ok3 gq gl S3 _ c31 => ?_⟩
    have t3 : Tabs (TT2 K) H3 := ((tabs_wo S2 t2).ext k3).ext wo_same
    refine ⟨_, _, rfl, SqT.of (wo_some gq).2.2, rfl, _, _, rfl, _, _, rfl, rfl, ?_⟩
    refine ⟨_, rfl, _, rfl, fun x dx nx nd2 ne => ?_⟩
    have nx2 : (upd H3 dx (.own x)) x = none := (upd_ne ne.symm).trans nx
    have s34 : Same H3 (upd (upd H3 dx (.own x)) x (.ins (He.ga K "Web") dx [])) := (same_new nd2 _).trans (same_new nx2 _)
    have gx : (upd (upd H3 dx (.own x)) x (.ins (He.ga K "Web") dx [])) x = some (.ins (He.ga K "Web") dx []) := upd_same
    generalize upd (upd H3 dx (.own x)) x (.ins (He.ga K "Web") dx []) = H4 at s34 gx ⊢
    refine ⟨x, dx, l, N, ss, rfl, gx, s34 _ _ (wo_some gl).2.2, (ok3.up (Tups.of wo_same)).up (Tups.of s34), bd, nd, ls, N1, N6, t3.ext s34, fun H5 s2 eb t5 wat pm => ⟨rfl, ?_⟩⟩
    have e35 : ExtN H3 H5 := fun b o h n => eb b o (ne_of_none h nx) (s34 _ _ h) n
    have W5 : WebAt K (wo st a H5) x N s2 := by
      obtain ⟨⟨ns', x', m', g1, g2, _⟩, _⟩ := S3.up s34
      exact wat st a _ _ g1 g2
    have S5 := S3.ext e35
    have w35 := ext_wo (st := st) (a := a) e35
    have gl5 := w35 _ _ gl (fun _ z => by cases z)
    have ok5 := ok3.up (ext_tups w35)
    clear gx s34 eb wat nx nx2 nd2 ne t2 S2 t3
    refine ⟨_, rfl, (N : Int), rfl, by omega, by omega, fun D nD => ?_⟩
    have D1 := S5.nst nD
    have D2 := S5.na nD
    refine lc_range (lo := 0) (n := N) (fun j H' => ∃ c', Kp st a H5 H' ∧ wo st a H' D = some (.lst ((List.replicate j true).map V.bl)) ∧ Strm H' st a c' ∧ c' ≤ c3 + 700 * j) ?_ ?_ ?_
    · obtain ⟨k, S, g⟩ := S5.made nD (.lst [])
      exact ⟨c3, k, g, S, by omega⟩
    · rintro j H6 hj ⟨c6, k6, gD, S6, c61⟩
      refine ⟨rfl, _, rfl, _, rfl, _, rfl, _, rfl, st, a, x, l, c6, 0 + (j : Int), N, s2, ss, rfl, S6, (by show _ ≤ (1099511627776 : Int); omega), W5.up k6, k6 _ _ gl5, ok5.up (Tups.of k6), ls, bd, fun e => pm.mem_iff.symm, ⟨by omega, by omega⟩, fun H7 c7 k7 S7 _ c71 => ?_⟩
      have gD7 := k7 _ _ gD
      refine ⟨_, (wo_some gD7).2.2, small_lt (by simp; omega), c7, Kp.mut (k6.trans k7) (wo_none nD) D1 D2, ?_, S7.upd D1 D2, by omega⟩
      rw [wo_upd D1 D2, upd_same, List.replicate_succ', List.map_append]
      rfl
    · rintro H6 ⟨c6, k6, gD, S6, c61⟩
      refine ⟨D, _, rfl, SqL.of (wo_some gD).2.2, ?_⟩
      rw [all_reps]
      have t6 : Tabs (TT2 K) H6 := ((tabs_wo S5 t5).ext k6).ext wo_same
      have W6 : WebAt K H6 x N s2 := (W5.up k6).up wo_same
      have c62 : c6 ≤ 5000 * ↑(i + 1) := by omega
      clear gD k6 W5 S5 t5 w35 gl5 ok5 nD D1 D2 S3 k3 ok3 gq gl e35
      refine ⟨true, rfl, iteF ?_⟩
      refine ⟨(by decide), fun p1 m1 => ?_⟩
      obtain ⟨u1, g1⟩ := new2 m1 (.tup [.int 1])
      generalize upd H6 p1 (.tup [.int 1]) = Ha at u1 g1 ⊢
      refine ⟨(by decide), fun p2 m2 => ?_⟩
      obtain ⟨u2, g2⟩ := new2 m2 (.tup [.int 1, .int 0])
      generalize upd Ha p2 (.tup [.int 1, .int 0]) = Hb at u2 g2 ⊢
      refine ⟨(by decide), fun p3 m3 => ?_⟩
      obtain ⟨u3, g3⟩ := new2 m3 (.tup [.bl true, .int 1])
      generalize upd Hb p3 (.tup [.bl true, .int 1]) = Hc at u3 g3 ⊢
      refine ⟨(by decide), fun p4 m4 => ?_⟩
      obtain ⟨u4, g4⟩ := new2 m4 (.tup [.int 1, .int 2, .int 3])
      generalize upd Hc p4 (.tup [.int 1, .int 2, .int 3]) = Hd at u4 g4 ⊢
      refine fun d md => ?_
      obtain ⟨u5, g5⟩ := new2 md (.dK [])
      generalize upd Hd d (.dK []) = Hg at u5 g5 ⊢
      refine ⟨_, rfl, (by show 10 ≤ sizeLine; decide), fun L nL => ?_⟩
      obtain ⟨u6, gL⟩ := new2 nL (.lst [.non, .int 5, .str "12", .ref p1, .ref p2, .ref p3, .ref p4, .ref d, .ref (He.ga K "_law_draw"), .ref x])
      generalize upd Hg L _ = Hf at u6 gL ⊢
      obtain ⟨its, eits, okits⟩ : ∃ its : List It, its.map It.val = [.non, .int 5, .str "12", .ref p1, .ref p2, .ref p3, .ref p4, .ref d, .ref (He.ga K "_law_draw"), .ref x] ∧ ∀ i ∈ its, i.ok K Hf ∧ i.noPrices := by
        refine ⟨[.at_ .non, .at_ (.int 5), .at_ (.str "12"), .tup p1 [.int 1], .tup p2 [.int 1, .int 0], .tup p3 [.bl true, .int 1], .tup p4 [.int 1, .int 2, .int 3], .dic d, .at_ (.ref (He.ga K "_law_draw")), .at_ (.ref x)], rfl, ?_⟩
        obtain ⟨o, eo, ec⟩ := U.fnD
        refine of_cons ⟨.non, trivial⟩ (of_cons ⟨.int 5, trivial⟩ (of_cons ⟨.str _, trivial⟩ (of_cons ⟨⟨u6 _ _ (u5 _ _ (u4 _ _ (u3 _ _ (u2 _ _ g1)))), by decide, ?_⟩, .inl (by decide)⟩ (of_cons ⟨⟨u6 _ _ (u5 _ _ (u4 _ _ (u3 _ _ g2))), by decide, ?_⟩, .inr (.inl rfl)⟩
          (of_cons ⟨⟨u6 _ _ (u5 _ _ (u4 _ _ g3)), by decide, ?_⟩, .inr (.inr rfl)⟩ (of_cons ⟨⟨u6 _ _ (u5 _ _ g4), by decide, ?_⟩, .inl (by decide)⟩ (of_cons ⟨u6 _ _ g5, trivial⟩ (of_cons ⟨.fn eo ec, trivial⟩ (of_cons ⟨.web (W6.up (u1.trans (u2.trans (u3.trans (u4.trans (u5.trans u6)))))), trivial⟩ of_nil)))))))))
        · exact of_cons (.int _) of_nil
        · exact of_cons (.int _) (of_cons (.int _) of_nil)
        · exact of_cons (.bl _) (of_cons (.int _) of_nil)
        · exact of_cons (.int _) (of_cons (.int _) (of_cons (.int _) of_nil))
      rw [← eits] at gL
      have s6f : Same H6 Hf := u1.trans (u2.trans (u3.trans (u4.trans (u5.trans u6))))
      have tf := t6.ext s6f
      have Sf := S6.up s6f
      have Wf := W6.up s6f
      clear u1 u2 u3 u4 u5 u6 g1 g2 g3 g4 g5 m1 m2 m3 m4 md nL t6 S6 W6 eits s6f
      refine ⟨L, rfl, ⟨_, SqL.of gL⟩, ?_⟩
      refine for_list (xs := its.map It.val) (fun j σ H' => ∃ x5, Tabs (TT2 K) H' ∧ ExtN Hf H' ∧ σ = [some (.ref a0), some (.ref st), some (.int (0 + (i : Int))), some (.int (N : Int)), some (.ref l), x5, some (.ref x), x7])
        ⟨_, tf, fun b o h _ => h, rfl⟩ (fun j σ H' _ ⟨_, _, e, _⟩ => SqL.of (e _ _ gL fun _ z => by cases z)) ?_ ?_
      · rintro j v σ Hh hv ⟨x5, th, eh, rfl⟩
        rw [List.getElem?_map] at hv
        obtain ⟨it, hit, rfl⟩ : ∃ it, its[j]? = some it ∧ v = it.val := by
          cases e : its[j]? with
          | none => rw [e] at hv; cases hv
          | some it =>
            rw [e] at hv
            exact ⟨it, rfl, (Option.some.inj hv).symm⟩
        obtain ⟨oki, noi⟩ := okits it (List.mem_of_getElem? hit)
        refine ⟨th, fun Hi ei ti => ?_⟩
        have efi : ExtN Hf Hi := fun b o h n => ei _ _ (eh _ _ h n) n
        have oki1 := oki.ext efi
        refine ⟨_, rfl, _, rfl, x, .int 0, it.val, N, s2, rfl, Wf.ext efi, .inr ⟨0, rfl, ⟨by omega, by omega⟩, .inl ⟨It.ok.prices T oki1 noi, fun dd Hj sj ed => .inr ⟨dd, _, rfl, rfl, ed, fun p np => ?_⟩⟩⟩⟩
        have sp := same_new np (.tup [.str "prices", it.val])
        refine ⟨_, rfl, (by show 2 ≤ sizeLine; decide), fun r nr => ?_⟩
        have sr := same_new nr (.tup [.str "prices", it.val])
        refine ⟨_, _, rfl, .inr (.inl ⟨p, r, _, _, rfl, rfl, sr _ _ upd_same, upd_same, rfl, (by show 2 ≤ 1000; decide), fun n u v h1 h2 => ?_⟩), fun Hk sk => ?_⟩
        · rw [h1] at h2
          cases h2
          have oki2 := It.ok.ext (K := K) oki1 (ext_same (sj.trans (sp.trans sr)))
          match n, h1 with
          | 0, h1 =>
            cases h1
            exact .inl ⟨rfl, .str _⟩
          | 1, h1 =>
            cases h1
            exact oki2.sm
          | n + 2, h1 => simp at h1
        · have sik := sj.trans (sp.trans (sr.trans sk))
          refine ⟨true, rfl, iteF ?_⟩
          exact ⟨_, ti.ext sik, fun b o h n => sik _ _ (efi _ _ h n), rfl⟩
      · rintro σ Hh ⟨x5, th, eh, rfl⟩
        have t6 := th
        have S6 := Sf.ext eh
        have W6 := Wf.ext eh
        clear tf Sf Wf th eh gL okits its
        generalize Hh = H6 at t6 S6 W6 ⊢
        refine ⟨1, rfl, _, rfl, (by decide), fun p1 m1 => ?_⟩
        obtain ⟨u1, g1⟩ := new2 m1 (.tup [.int 0])
        generalize upd H6 p1 (.tup [.int 0]) = Ha at u1 g1 ⊢
        refine ⟨(by decide), fun p2 m2 => ?_⟩
        obtain ⟨u2, g2⟩ := new2 m2 (.lst [])
        generalize upd Ha p2 (.lst []) = Hb at u2 g2 ⊢
        refine fun d md => ?_
        obtain ⟨u3, g3⟩ := new2 md (.dK [])
        generalize upd Hb d (.dK []) = Hc at u3 g3 ⊢
        refine ⟨_, rfl, (by show 9 ≤ sizeLine; decide), fun L nL => ?_⟩
        obtain ⟨u4, gL⟩ := new2 nL (.lst [.non, .int (-1), .int N, .bl true, .str "0", .ref p1, .ref p2, .ref d, .ref x])
        generalize upd Hc L _ = Hf at u4 gL ⊢
        obtain ⟨its, eits, okits⟩ : ∃ its : List It, its.map It.val = [.non, .int (-1), .int N, .bl true, .str "0", .ref p1, .ref p2, .ref d, .ref x] ∧ ∀ i ∈ its, i.ok K Hf ∧ i.noPlace N := by
          refine ⟨[.at_ .non, .at_ (.int (-1)), .at_ (.int N), .at_ (.bl true), .at_ (.str "0"), .tup p1 [.int 0], .nil p2, .dic d, .at_ (.ref x)], rfl, ?_⟩
          refine of_cons ⟨.non, .inr fun n z => by cases z⟩ (of_cons ⟨.int _, .inl ⟨-1, rfl, by omega⟩⟩ (of_cons ⟨.int _, .inl ⟨N, rfl, by omega⟩⟩ (of_cons ⟨.bl _, .inr fun n z => by cases z⟩ (of_cons ⟨.str _, .inr fun n z => by cases z⟩
            (of_cons ⟨⟨u4 _ _ (u3 _ _ (u2 _ _ g1)), by decide, of_cons (.int _) of_nil⟩, trivial⟩ (of_cons ⟨u4 _ _ (u3 _ _ g2), trivial⟩ (of_cons ⟨u4 _ _ g3, trivial⟩ (of_cons ⟨.web (W6.up (u1.trans (u2.trans (u3.trans u4)))), .inr fun n z => by cases z⟩ of_nil))))))))
        rw [← eits] at gL
        have s6f : Same H6 Hf := u1.trans (u2.trans (u3.trans u4))
        have tf := t6.ext s6f
        have Sf := S6.up s6f
        have Wf := W6.up s6f
        clear u1 u2 u3 u4 g1 g2 g3 m1 m2 md nL t6 S6 W6 eits s6f
        refine ⟨L, rfl, ⟨_, SqL.of gL⟩, ?_⟩
        refine for_list (xs := its.map It.val) (fun j σ H' => ∃ x5, Tabs (TT2 K) H' ∧ ExtN Hf H' ∧ σ = [some (.ref a0), some (.ref st), some (.int (0 + (i : Int))), some (.int (N : Int)), some (.ref l), x5, some (.ref x), x7])
          ⟨_, tf, fun b o h _ => h, rfl⟩ (fun j σ H' _ ⟨_, _, e, _⟩ => SqL.of (e _ _ gL fun _ z => by cases z)) ?_ ?_
        · rintro j v σ Hh hv ⟨x5, th, eh, rfl⟩
          rw [List.getElem?_map] at hv
          obtain ⟨it, hit, rfl⟩ : ∃ it, its[j]? = some it ∧ v = it.val := by
            cases e : its[j]? with
            | none => rw [e] at hv; cases hv
            | some it =>
              rw [e] at hv
              exact ⟨it, rfl, (Option.some.inj hv).symm⟩
          obtain ⟨oki, noi⟩ := okits it (List.mem_of_getElem? hit)
          refine ⟨th, fun Hi ei ti => ?_⟩
          have efi : ExtN Hf Hi := fun b o h n => ei _ _ (eh _ _ h n) n
          have oki1 := oki.ext efi
          refine ⟨_, rfl, _, rfl, x, it.val, .non, N, s2, rfl, Wf.ext efi, .inl ⟨It.ok.place T oki1 noi, fun dd Hj sj ed => .inl ⟨dd, _, rfl, rfl, ed, fun p np => ?_⟩⟩⟩
          have sp := same_new np (.tup [.str "place", it.val])
          refine ⟨_, rfl, (by show 2 ≤ sizeLine; decide), fun r nr => ?_⟩
          have sr := same_new nr (.tup [.str "place", it.val])
          refine ⟨_, _, rfl, .inr (.inl ⟨p, r, _, _, rfl, rfl, sr _ _ upd_same, upd_same, rfl, (by show 2 ≤ 1000; decide), fun n u v h1 h2 => ?_⟩), fun Hk sk => ?_⟩
          · rw [h1] at h2
            cases h2
            have oki2 := It.ok.ext (K := K) oki1 (ext_same (sj.trans (sp.trans sr)))
            match n, h1 with
            | 0, h1 =>
              cases h1
              exact .inl ⟨rfl, .str _⟩
            | 1, h1 =>
              cases h1
              exact oki2.sm
            | n + 2, h1 => simp at h1
          · have sik := sj.trans (sp.trans (sr.trans sk))
            refine ⟨true, rfl, iteF ?_⟩
            exact ⟨_, ti.ext sik, fun b o h n => sik _ _ (efi _ _ h n), rfl⟩
        · rintro σ Hh ⟨x5, th, eh, rfl⟩
          exact ⟨_, th, Sf.ext eh, c62, _, _, _, _, _, _, rfl⟩
  · rintro σ H2 ⟨c, t2, S2, hc, x2, x3, x4, x5, x6, x7, rfl⟩
    exact q _

end
end Any
end
section
set_option Elab.async false
set_option linter.all false
set_option maxRecDepth 100000
set_option maxHeartbeats 4000000
namespace Any
open PySem PySem.Spec PyProof.Rows L2
open LamX (TabB TabS Tabs)
theorem mkDef1 {K : PySem.W.Frag} {mg : Str → Option Value} {x : Str} {st : Stmt} {ps : List Str} (m : mg x = some (.ref (He.ga K x))) (c : ∃ fd, FunD K x x (defArgs st) (defBody st) (defScope st) [] [] (He.ga K x) fd)
    (hb : ∀ (kV doc pm : Value) (an : Option Addr) (cdv ct : Value) (us : List Value), us.length = ps.length → bindArgs (PySem.W.fnOf x x (defArgs st) (defBody st) (defScope st) .none kV doc pm an cdv ct) ⟨us, []⟩ = pure (ps.zip us)) : Def1 K mg x st ps := by
  obtain ⟨fd, F⟩ := c
  have e := fdOf_eq F
  refine ⟨m, ?_, ?_⟩
  · rw [e]
    exact F
  · rw [e]
    exact F.bindsN hb
theorem mkDefM {K : PySem.W.Frag} {C m q : Str} {st : Stmt} {ps : List Str} (c : ∃ fd, FunD K m q (defArgs st) (defBody st) (defScope st) [] [] (He.ma K (He.ga K C) m) fd)
    (hb : ∀ (kV doc pm : Value) (an : Option Addr) (cdv ct : Value) (us : List Value), us.length = ps.length → bindArgs (PySem.W.fnOf m q (defArgs st) (defBody st) (defScope st) .none kV doc pm an cdv ct) ⟨us, []⟩ = pure (ps.zip us)) : DefM K C m q st ps := by
  obtain ⟨fd, F⟩ := c
  have e := fdOf_eq F
  refine ⟨?_, ?_⟩
  · rw [e]
    exact F
  · rw [e]
    exact F.bindsN hb
theorem code_of {K : PySem.W.Frag} {x q : Str} {params : Arguments} {body : List Stmt} {scope : Scope} {dvs : List V} {kws : List (Str × V)} {p : Str × Option Str} {f : Addr} (hf : He.fAd K p = f) (F : FunD K x q params body scope dvs kws f (fdOf K f)) : (fdOf K f).code = .ref (He.cT K p).1 := by
  subst hf
  obtain ⟨oc, od, dV, kV, doc, pm, an, cdv, ct, osl, e, lk, hc, _⟩ := F.ex
  obtain ⟨c, rfl⟩ := He.codeIn_ref hc
  rw [show (He.cT K p).1 = c from He.codeOf_eq lk (by rw [e])]
  rw [e]
theorem txt_of {K : PySem.W.Frag} {mg : Str → Option Value} {h : Heap} (X : K.In h) (G : h.Ns mainGlobals mg) (c : He.SaysD fal fnl K) (e : ex K = true) : Txt K mg := {
  is_list := mkDef1 (He.glo_ok X G (c.fact 0 (f := .glo "is_list") rfl)) (c.def_ 5 (d := d_is_list) rfl) (fun _ _ _ _ _ _ us hl => match us, hl with | [_], _ => rfl)
  is_whole := mkDef1 (He.glo_ok X G (c.fact 1 (f := .glo "is_whole") rfl)) (c.def_ 6 (d := d_is_whole) rfl) (fun _ _ _ _ _ _ us hl => match us, hl with | [_], _ => rfl)
  is_positive := mkDef1 (He.glo_ok X G (c.fact 2 (f := .glo "is_positive") rfl)) (c.def_ 7 (d := d_is_positive) rfl) (fun _ _ _ _ _ _ us hl => match us, hl with | [_], _ => rfl)
  is_pair := mkDef1 (He.glo_ok X G (c.fact 3 (f := .glo "is_pair") rfl)) (c.def_ 8 (d := d_is_pair) rfl) (fun _ _ _ _ _ _ us hl => match us, hl with | [_], _ => rfl)
  as_tuples := mkDef1 (He.glo_ok X G (c.fact 4 (f := .glo "as_tuples") rfl)) (c.def_ 9 (d := d_as_tuples) rfl) (fun _ _ _ _ _ _ us hl => match us, hl with | [_], _ => rfl)
  first_bad := mkDef1 (He.glo_ok X G (c.fact 5 (f := .glo "first_bad") rfl)) (c.def_ 10 (d := d_first_bad) rfl) (fun _ _ _ _ _ _ us hl => match us, hl with | [_, _], _ => rfl)
  lowest := mkDef1 (He.glo_ok X G (c.fact 6 (f := .glo "lowest") rfl)) (c.def_ 11 (d := d_lowest) rfl) (fun _ _ _ _ _ _ us hl => match us, hl with | [_, _], _ => rfl)
  is_fraction := mkDef1 (He.glo_ok X G (c.fact 7 (f := .glo "is_fraction") rfl)) (c.def_ 12 (d := d_is_fraction) rfl) (fun _ _ _ _ _ _ us hl => match us, hl with | [_], _ => rfl)
  checked_fraction := mkDef1 (He.glo_ok X G (c.fact 8 (f := .glo "checked_fraction") rfl)) (c.def_ 13 (d := d_checked_fraction) rfl) (fun _ _ _ _ _ _ us hl => match us, hl with | [_], _ => rfl)
  is_prices := mkDef1 (He.glo_ok X G (c.fact 9 (f := .glo "is_prices") rfl)) (c.def_ 14 (d := d_is_prices) rfl) (fun _ _ _ _ _ _ us hl => match us, hl with | [_], _ => rfl)
  checked_prices := mkDef1 (He.glo_ok X G (c.fact 10 (f := .glo "checked_prices") rfl)) (c.def_ 15 (d := d_checked_prices) rfl) (fun _ _ _ _ _ _ us hl => match us, hl with | [_], _ => rfl)
  cost_of := mkDef1 (He.glo_ok X G (c.fact 11 (f := .glo "cost_of") rfl)) (c.def_ 16 (d := d_cost_of) rfl) (fun _ _ _ _ _ _ us hl => match us, hl with | [_, _], _ => rfl)
  is_place := mkDef1 (He.glo_ok X G (c.fact 12 (f := .glo "is_place") rfl)) (c.def_ 17 (d := d_is_place) rfl) (fun _ _ _ _ _ _ us hl => match us, hl with | [_, _], _ => rfl)
  is_step := mkDef1 (He.glo_ok X G (c.fact 13 (f := .glo "is_step") rfl)) (c.def_ 18 (d := d_is_step) rfl) (fun _ _ _ _ _ _ us hl => match us, hl with | [_, _], _ => rfl)
  sums_of := mkDef1 (He.glo_ok X G (c.fact 14 (f := .glo "sums_of") rfl)) (c.def_ 21 (d := d_sums_of) rfl) (fun _ _ _ _ _ _ us hl => match us, hl with | [_], _ => rfl)
  check_place := mkDef1 (He.glo_ok X G (c.fact 15 (f := .glo "check_place") rfl)) (c.def_ 22 (d := d_check_place) rfl) (fun _ _ _ _ _ _ us hl => match us, hl with | [_, _], _ => rfl)
  come_to := mkDef1 (He.glo_ok X G (c.fact 16 (f := .glo "come_to") rfl)) (c.def_ 23 (d := d_come_to) rfl) (fun _ _ _ _ _ _ us hl => match us, hl with | [_, _], _ => rfl)
  steps_from := mkDef1 (He.glo_ok X G (c.fact 17 (f := .glo "steps_from") rfl)) (c.def_ 24 (d := d_steps_from) rfl) (fun _ _ _ _ _ _ us hl => match us, hl with | [_, _], _ => rfl)
  weighed := mkDef1 (He.glo_ok X G (c.fact 18 (f := .glo "weighed") rfl)) (c.def_ 25 (d := d_weighed) rfl) (fun _ _ _ _ _ _ us hl => match us, hl with | [_, _, _], _ => rfl)
  lowered := mkDef1 (He.glo_ok X G (c.fact 19 (f := .glo "lowered") rfl)) (c.def_ 26 (d := d_lowered) rfl) (fun _ _ _ _ _ _ us hl => match us, hl with | [_, _, _], _ => rfl)
  ring_back := mkDef1 (He.glo_ok X G (c.fact 20 (f := .glo "ring_back") rfl)) (c.def_ 27 (d := d_ring_back) rfl) (fun _ _ _ _ _ _ us hl => match us, hl with | [_, _, _], _ => rfl)
  ring_under := mkDef1 (He.glo_ok X G (c.fact 21 (f := .glo "ring_under") rfl)) (c.def_ 28 (d := d_ring_under) rfl) (fun _ _ _ _ _ _ us hl => match us, hl with | [_, _, _, _], _ => rfl)
  rate_of := mkDef1 (He.glo_ok X G (c.fact 22 (f := .glo "rate_of") rfl)) (c.def_ 29 (d := d_rate_of) rfl) (fun _ _ _ _ _ _ us hl => match us, hl with | [_, _], _ => rfl)
  some_ring := mkDef1 (He.glo_ok X G (c.fact 23 (f := .glo "some_ring") rfl)) (c.def_ 30 (d := d_some_ring) rfl) (fun _ _ _ _ _ _ us hl => match us, hl with | [_, _], _ => rfl)
  ring_through := mkDef1 (He.glo_ok X G (c.fact 24 (f := .glo "ring_through") rfl)) (c.def_ 31 (d := d_ring_through) rfl) (fun _ _ _ _ _ _ us hl => match us, hl with | [_, _], _ => rfl)
  cheapest_ring := mkDef1 (He.glo_ok X G (c.fact 25 (f := .glo "cheapest_ring") rfl)) (c.def_ 32 (d := d_cheapest_ring) rfl) (fun _ _ _ _ _ _ us hl => match us, hl with | [_, _, _], _ => rfl)
  best_ring := mkDef1 (He.glo_ok X G (c.fact 26 (f := .glo "best_ring") rfl)) (c.def_ 33 (d := d_best_ring) rfl) (fun _ _ _ _ _ _ us hl => match us, hl with | [_, _, _], _ => rfl)
  least_rate := mkDef1 (He.glo_ok X G (c.fact 27 (f := .glo "least_rate") rfl)) (c.def_ 34 (d := d_least_rate) rfl) (fun _ _ _ _ _ _ us hl => match us, hl with | [_, _, _], _ => rfl)
  rate_at := mkDef1 (He.glo_ok X G (c.fact 28 (f := .glo "rate_at") rfl)) (c.def_ 35 (d := d_rate_at) rfl) (fun _ _ _ _ _ _ us hl => match us, hl with | [_, _, _], _ => rfl)
  heights := mkDef1 (He.glo_ok X G (c.fact 29 (f := .glo "heights") rfl)) (c.def_ 36 (d := d_heights) rfl) (fun _ _ _ _ _ _ us hl => match us, hl with | [_, _, _, _], _ => rfl)
  credit := mkDef1 (He.glo_ok X G (c.fact 30 (f := .glo "credit") rfl)) (c.def_ 37 (d := d_credit) rfl) (fun _ _ _ _ _ _ us hl => match us, hl with | [_, _, _], _ => rfl)
  law_stream := mkDef1 (He.glo_ok X G (c.fact 31 (f := .glo "_law_stream") rfl)) (c.def_ 38 (d := d_law_stream) rfl) (fun _ _ _ _ _ _ us hl => match us, hl with | [_], _ => rfl)
  law_draw := mkDef1 (He.glo_ok X G (c.fact 32 (f := .glo "_law_draw") rfl)) (c.def_ 39 (d := d_law_draw) rfl) (fun _ _ _ _ _ _ us hl => match us, hl with | [_, _], _ => rfl)
  law_pick := mkDef1 (He.glo_ok X G (c.fact 33 (f := .glo "_law_pick") rfl)) (c.def_ 40 (d := d_law_pick) rfl) (fun _ _ _ _ _ _ us hl => match us, hl with | [_, _], _ => rfl)
  law_mixed := mkDef1 (He.glo_ok X G (c.fact 34 (f := .glo "_law_mixed") rfl)) (c.def_ 41 (d := d_law_mixed) rfl) (fun _ _ _ _ _ _ us hl => match us, hl with | [_, _], _ => rfl)
  law_same := mkDef1 (He.glo_ok X G (c.fact 35 (f := .glo "_law_same") rfl)) (c.def_ 42 (d := d_law_same) rfl) (fun _ _ _ _ _ _ us hl => match us, hl with | [_, _], _ => rfl)
  law_amounts := mkDef1 (He.glo_ok X G (c.fact 36 (f := .glo "_law_amounts") rfl)) (c.def_ 43 (d := d_law_amounts) rfl) (fun _ _ _ _ _ _ us hl => match us, hl with | [_, _], _ => rfl)
  law_step := mkDef1 (He.glo_ok X G (c.fact 37 (f := .glo "_law_step") rfl)) (c.def_ 44 (d := d_law_step) rfl) (fun _ _ _ _ _ _ us hl => match us, hl with | [_, _, _, _], _ => rfl)
  law_web := mkDef1 (He.glo_ok X G (c.fact 38 (f := .glo "_law_web") rfl)) (c.def_ 45 (d := d_law_web) rfl) (fun _ _ _ _ _ _ us hl => match us, hl with | [_, _, _], _ => rfl)
  law_reached := mkDef1 (He.glo_ok X G (c.fact 39 (f := .glo "_law_reached") rfl)) (c.def_ 46 (d := d_law_reached) rfl) (fun _ _ _ _ _ _ us hl => match us, hl with | [_, _], _ => rfl)
  law_ahead := mkDef1 (He.glo_ok X G (c.fact 40 (f := .glo "_law_ahead") rfl)) (c.def_ 47 (d := d_law_ahead) rfl) (fun _ _ _ _ _ _ us hl => match us, hl with | [_, _], _ => rfl)
  law_sum := mkDef1 (He.glo_ok X G (c.fact 41 (f := .glo "_law_sum") rfl)) (c.def_ 48 (d := d_law_sum) rfl) (fun _ _ _ _ _ _ us hl => match us, hl with | [_], _ => rfl)
  law_common := mkDef1 (He.glo_ok X G (c.fact 42 (f := .glo "_law_common") rfl)) (c.def_ 49 (d := d_law_common) rfl) (fun _ _ _ _ _ _ us hl => match us, hl with | [_, _], _ => rfl)
  law_low := mkDef1 (He.glo_ok X G (c.fact 43 (f := .glo "_law_low") rfl)) (c.def_ 50 (d := d_law_low) rfl) (fun _ _ _ _ _ _ us hl => match us, hl with | [_], _ => rfl)
  law_cost := mkDef1 (He.glo_ok X G (c.fact 44 (f := .glo "_law_cost") rfl)) (c.def_ 51 (d := d_law_cost) rfl) (fun _ _ _ _ _ _ us hl => match us, hl with | [_, _], _ => rfl)
  law_tried := mkDef1 (He.glo_ok X G (c.fact 45 (f := .glo "_law_tried") rfl)) (c.def_ 52 (d := d_law_tried) rfl) (fun _ _ _ _ _ _ us hl => match us, hl with | [_], _ => rfl)
  law_simple := mkDef1 (He.glo_ok X G (c.fact 46 (f := .glo "_law_simple") rfl)) (c.def_ 53 (d := d_law_simple) rfl) (fun _ _ _ _ _ _ us hl => match us, hl with | [_, _], _ => rfl)
  law_left := mkDef1 (He.glo_ok X G (c.fact 47 (f := .glo "_law_left") rfl)) (c.def_ 54 (d := d_law_left) rfl) (fun _ _ _ _ _ _ us hl => match us, hl with | [_, _, _], _ => rfl)
  law_long_walk := mkDef1 (He.glo_ok X G (c.fact 48 (f := .glo "_law_long_walk") rfl)) (c.def_ 55 (d := d_law_long_walk) rfl) (fun _ _ _ _ _ _ us hl => match us, hl with | [_, _, _, _, _], _ => rfl)
  law_place_right := mkDef1 (He.glo_ok X G (c.fact 49 (f := .glo "_law_place_right") rfl)) (c.def_ 56 (d := d_law_place_right) rfl) (fun _ _ _ _ _ _ us hl => match us, hl with | [_, _, _, _], _ => rfl)
  law := mkDef1 (He.glo_ok X G (c.fact 50 (f := .glo "law") rfl)) (c.def_ 57 (d := d_law) rfl) (fun _ _ _ _ _ _ us hl => match us, hl with | [_], _ => rfl)
  n_len := He.free_ok X G (c.fact 58 (f := .free "len") rfl)
  n_isinstance := He.free_ok X G (c.fact 59 (f := .free "isinstance") rfl)
  n_list := He.free_ok X G (c.fact 60 (f := .free "list") rfl)
  n_tuple := He.free_ok X G (c.fact 61 (f := .free "tuple") rfl)
  n_int := He.free_ok X G (c.fact 62 (f := .free "int") rfl)
  n_bool := He.free_ok X G (c.fact 63 (f := .free "bool") rfl)
  n_dict := He.free_ok X G (c.fact 64 (f := .free "dict") rfl)
  n_enumerate := He.free_ok X G (c.fact 65 (f := .free "enumerate") rfl)
  n_sorted := He.free_ok X G (c.fact 66 (f := .free "sorted") rfl)
  n_sum := He.free_ok X G (c.fact 67 (f := .free "sum") rfl)
  n_min := He.free_ok X G (c.fact 68 (f := .free "min") rfl)
  n_range := He.free_ok X G (c.fact 69 (f := .free "range") rfl)
  n_all := He.free_ok X G (c.fact 70 (f := .free "all") rfl)
  n_zip := He.free_ok X G (c.fact 71 (f := .free "zip") rfl)
  n_set := He.free_ok X G (c.fact 72 (f := .free "set") rfl)
  n_abs := He.free_ok X G (c.fact 73 (f := .free "abs") rfl)
  n_gcd := PySem.W.mg_of X G (He.eqO_ok (ex_at e 0))
  c_AroundError := He.glo_ok X G (c.fact 51 (f := .glo "AroundError") rfl)
  c_BadFraction := He.glo_ok X G (c.fact 52 (f := .glo "BadFraction") rfl)
  c_BadPrices := He.glo_ok X G (c.fact 53 (f := .glo "BadPrices") rfl)
  c_BadPlaces := He.glo_ok X G (c.fact 54 (f := .glo "BadPlaces") rfl)
  c_BadSteps := He.glo_ok X G (c.fact 55 (f := .glo "BadSteps") rfl)
  c_BadPlace := He.glo_ok X G (c.fact 56 (f := .glo "BadPlace") rfl)
  c_Web := He.glo_ok X G (c.fact 57 (f := .glo "Web") rfl)
  webC := He.cls_ok (c.fact 74 (f := .cls "Web") rfl)
  webP := He.noat_ok (c.fact 75 (f := .noat "Web" "own_places") rfl)
  webS := He.noat_ok (c.fact 76 (f := .noat "Web" "own_steps") rfl)
  webM := He.mkr_ok (c.fact 77 (f := .mkr "Web") rfl)
  webE := He.meth_ok (c.fact 78 (f := .meth "Web" "__eq__") rfl)
  webT := ⟨He.eqO_ok (ex_at e 1), He.eqO_ok (ex_at e 2), of_decide_eq_true (ex_at e 3), of_decide_eq_true (ex_at e 4), of_decide_eq_true (ex_at e 5), of_decide_eq_true (ex_at e 6), of_decide_eq_true (ex_at e 7), of_decide_eq_true (ex_at e 8), of_decide_eq_true (ex_at e 9), of_decide_eq_true (ex_at e 10)⟩
  webI := mkDefM (c.def_ 19 (d := d_Web_init) rfl) (fun _ _ _ _ _ _ us hl => match us, hl with | [_, _, _], _ => rfl)
  webQ := mkDefM (c.def_ 20 (d := d_Web_eq) rfl) (fun _ _ _ _ _ _ us hl => match us, hl with | [_, _], _ => rfl)
  cdI := code_of (p := ("Web", some "__init__")) rfl (mkDefM (c.def_ 19 (d := d_Web_init) rfl) (fun _ _ _ _ _ _ us hl => match us, hl with | [_, _, _], _ => rfl) : DefM K "Web" "__init__" "Web.__init__" st_Web_init ["self", "places", "steps"]).F
  cdL := code_of (p := ("law", none)) rfl (mkDef1 (mg := mg) (x := "law") (st := st_law) (ps := ["_law_script"]) (He.glo_ok X G (c.fact 50 (f := .glo "law") rfl)) (c.def_ 57 (d := d_law) rfl) (fun _ _ _ _ _ _ us hl => match us, hl with | [_], _ => rfl)).F
  tne := of_decide_eq_true (ex_at e 11)
  webF := ex_at e 12
  webG := He.eqO_ok (ex_at e 13)
  o_BadPlace := oexB_ok (ex_at e 14)
  i_BadPlace := He.eqO_ok (ex_at e 15)
  t_BadPlace := of_decide_eq_true (ex_at e 16)
  a_BadPlace := He.noat_ok (c.fact 83 (f := .noat "BadPlace" "place") rfl)
  d_BadPlace := mkDefM (c.def_ 4 (d := d_BadPlace_init) rfl) (fun _ _ _ _ _ _ us hl => match us, hl with | [_, _], _ => rfl)
  k_BadPlace := He.keep_ok (c.fact 85 (f := .keep "BadPlace") rfl)
  x_BadPlace_BadPlace := He.exm_ok (c.fact 79 (f := .exm "BadPlace" "BadPlace" true) rfl)
  x_BadPlace_BadPrices := He.exm_ok (c.fact 80 (f := .exm "BadPlace" "BadPrices" false) rfl)
  o_BadPrices := oexB_ok (ex_at e 18)
  i_BadPrices := He.eqO_ok (ex_at e 19)
  t_BadPrices := of_decide_eq_true (ex_at e 20)
  a_BadPrices := He.noat_ok (c.fact 84 (f := .noat "BadPrices" "thing") rfl)
  d_BadPrices := mkDefM (c.def_ 1 (d := d_BadPrices_init) rfl) (fun _ _ _ _ _ _ us hl => match us, hl with | [_, _], _ => rfl)
  k_BadPrices := He.keep_ok (c.fact 86 (f := .keep "BadPrices") rfl)
  x_BadPrices_BadPlace := He.exm_ok (c.fact 81 (f := .exm "BadPrices" "BadPlace" false) rfl)
  x_BadPrices_BadPrices := He.exm_ok (c.fact 82 (f := .exm "BadPrices" "BadPrices" true) rfl)
}
theorem txx_of {K : PySem.W.Frag} (e : ex K = true) : TxtX K := ⟨xfB_ok (ex_at e 17), xfB_ok (ex_at e 21), fnB_ok (ex_at e 22)⟩
theorem tabs_nil {K : PySem.W.Frag} {H : Hp} (h : ∀ p ∈ [cI K, cL K], H p.2 = some (.tbl #[])) : Tabs (TT2 K) H :=
  of_cons (.nil (h (cI K) (List.mem_cons_self ..))) (of_cons (.nil (h (cL K) (List.mem_cons_of_mem _ (List.mem_cons_self ..)))) of_nil)
theorem facts {w : World} {mg : Str → Option Value} {fa : Addr} {h : Heap} (Y : hk.says w h) (G : h.Ns mainGlobals mg) (hfa : mg ("law" : Str) = some (.ref fa)) : ∃ K : PySem.W.Frag, K.In h ∧ LamX.LawAtS PySem.Challenge.rw_anyaround_k05_whole_credits w K CX0 9 63 "_law_script" mg fa h := by
  obtain ⟨K, X, c⟩ := Y
  have T : Txt K mg := txt_of X G c.t.d c.more
  have e := hfa.symm.trans T.law.m
  cases e
  have m0 : (("Web", some "__init__") : He.Defn) ∈ tf := List.mem_cons_self ..
  have m1 : (("law", none) : He.Defn) ∈ tf := List.mem_cons_of_mem _ (List.mem_cons_self ..)
  refine ⟨K, X, fdOf K (He.ga K "law"), [cI K, cL K], spLaw K, of_cons (c.empty _ m0) (of_cons (c.empty _ m1) of_nil), of_cons (c.out _ m0) (of_cons (c.out _ m1) of_nil),
    of_cons (PySem.W.codeHd_of_K X (c.hd _ m0)) (of_cons (PySem.W.codeHd_of_K X (c.hd _ m1)) of_nil), fun s u => ?_, fun H a ns len _ hH hS => ⟨a, ns, rfl, hS, len, tabs_nil hH, fun _ => rfl⟩, fun base _ _ TB => ?_⟩
  · exact FunD.bindsA (ps := ["_law_script"]) T.law.F (fun _ _ _ _ _ _ us hl => match us, hl with | [_], _ => rfl) s [u] rfl
  · exact ok_law T (txx_of c.more) (TB _ (List.mem_cons_self ..)) (TB _ (List.mem_cons_of_mem _ (List.mem_cons_self ..)))
end Any
end
section
set_option Elab.async false
set_option linter.all false
set_option maxRecDepth 100000
set_option maxHeartbeats 0
open PySem PySem.W PySem.Calls PyProof.Rows
theorem PySem.Challenge.cw_anyaround_k05_whole_credits_holds : PySem.Challenge.rw_anyaround_k05_whole_credits.Holds := by
  w_on; o_law
  refine HandSHeadRun.head_imp (r := OpenLaw.row PySem.Challenge.rw_anyaround_k05_whole_credits) (q := view (OpenLaw.row PySem.Challenge.rw_anyaround_k05_whole_credits).prog [0, 64]) (H := Any.hk) (ob := Any.ob) (M := 60000) (loose := Any.looseA) (d := HandSHeadRun.topDef (OpenLaw.row PySem.Challenge.rw_anyaround_k05_whole_credits).prog 64) (kwd := []) Any.ob_eq
    Any.run (by kernel_rfl) (by kernel_rfl) (by kernel_rfl) (by rfl) (by first | assumption | decide +kernel) (by decide +kernel) ⟨rfl, rfl, rfl, rfl, rfl, by decide +kernel⟩ ?hw ?hc
  case hw => w_witness2
  case hc =>
    refine LamX.walk_ofTsE (l := PySem.Challenge.rw_anyaround_k05_whole_credits) (n := 63) (k := 9) (x := "_law_script") (CX := fun _ => C8.CX0) rfl (by decide) (by kernel_rfl) ⟨rfl, by decide, by decide⟩ ?F (fun _ _ _ _ _ z => z)
    intro w mg fa h Y G hmg0
    have hmg : mg ("law" : PySem.Str) = some (.ref fa) := by
      have e : (HandSHeadRun.topDef (OpenLaw.row PySem.Challenge.rw_anyaround_k05_whole_credits).prog 64).name = ("law" : PySem.Str) := by kernel_rfl
      rw [← e]
      exact hmg0
    exact Any.facts Y G hmg
end
