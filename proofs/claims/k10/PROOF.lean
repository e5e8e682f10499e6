import PyProof.Rows.All
import Wide.All
import OpenK.AllK
import Wide.FinOn
import HandS.ForMost
import HandS.Walk
import HandS.IsInst
import HandS.Conv
import HandS.DictComp
import HandS.SetFor
import HandS.Strs
import HandS.Style
import HandS.TupAny
import HandS.Wide
import HandS.Flow
import HandS.Deep
import HandS.Star
import HandS.SortInts
import HandS.Codes
import KE.SortData
import KE.GoesEnum
import PySem.Challenge.RW_linepainters_k10_whole_ways
set_option Elab.async false
set_option linter.all false
set_option maxRecDepth 100000
set_option maxHeartbeats 4000000
namespace LP
/-! ### painting, cell by cell -/
/-- one deed, at the cell (r, j) -/
def stp (h r j : Nat) (b : Bool) (l : Nat) : Bool := if l = r then true else if l = h + j then false else b
def fin (h : Nat) (d : List Nat) (b : Bool) (r j : Nat) : Bool := d.foldl (stp h r j) b
theorem fin_nil {h b r j} : fin h [] b r j = b := rfl
theorem fin_cons {h l d b r j} : fin h (l :: d) b r j = fin h d (stp h r j b l) r j := rfl
theorem fin_append {h d e b r j} : fin h (d ++ e) b r j = fin h e (fin h d b r j) r j := by
  unfold fin; rw [List.foldl_append]
theorem fin_none {h r j : Nat} : ∀ {d : List Nat} {b : Bool}, r ∉ d → h + j ∉ d → fin h d b r j = b
  | [], _, _, _ => rfl
  | l :: d, b, h1, h2 => by
    have a1 : l ≠ r := fun e => h1 (by rw [e]; exact List.mem_cons_self)
    have a2 : l ≠ h + j := fun e => h2 (by rw [e]; exact List.mem_cons_self)
    rw [fin_cons, fin_none (fun m => h1 (List.mem_cons_of_mem _ m)) (fun m => h2 (List.mem_cons_of_mem _ m))]
    unfold stp; rw [if_neg a1, if_neg a2]
theorem fin_row {h r j : Nat} (hr : r < h) : ∀ {d : List Nat} {b : Bool}, (r ∈ d ∨ b = true) → h + j ∉ d → fin h d b r j = true
  | [], b, h1, _ => by
    rcases h1 with h1 | h1
    · cases h1
    · exact h1
  | l :: d, b, h1, h2 => by
    have a2 : l ≠ h + j := fun e => h2 (by rw [e]; exact List.mem_cons_self)
    rw [fin_cons]
    refine fin_row hr ?_ (fun m => h2 (List.mem_cons_of_mem _ m))
    unfold stp
    by_cases e : l = r
    · right; rw [if_pos e]
    · rw [if_neg e, if_neg a2]
      rcases h1 with h1 | h1
      · rcases List.mem_cons.mp h1 with q | q
        · exact absurd q.symm e
        · exact .inl q
      · exact .inr h1
theorem fin_col {h r j : Nat} (hr : r < h) : ∀ {d : List Nat} {b : Bool}, (h + j ∈ d ∨ b = false) → r ∉ d → fin h d b r j = false
  | [], b, h1, _ => by
    rcases h1 with h1 | h1
    · cases h1
    · exact h1
  | l :: d, b, h1, h2 => by
    have a2 : l ≠ r := fun e => h2 (by rw [e]; exact List.mem_cons_self)
    rw [fin_cons]
    refine fin_col hr ?_ (fun m => h2 (List.mem_cons_of_mem _ m))
    unfold stp
    rw [if_neg a2]
    by_cases e : l = h + j
    · right; rw [if_pos e]
    · rw [if_neg e]
      rcases h1 with h1 | h1
      · rcases List.mem_cons.mp h1 with q | q
        · exact absurd q.symm e
        · exact .inl q
      · exact .inr h1
/-! ### arrows and layers -/
def lead (h w : Nat) (c : Nat → Nat → Bool) (l : Nat) : List Nat :=
  if l < h then ((List.range w).filter fun j => !c l j).map (h + ·) else (List.range h).filter fun i => c i (l - h)
theorem lead_row {h w : Nat} {c : Nat → Nat → Bool} {l m : Nat} (hl : l < h) : m ∈ lead h w c l ↔ ∃ j, j < w ∧ m = h + j ∧ c l j = false := by
  unfold lead
  rw [if_pos hl]
  simp only [List.mem_map, List.mem_filter, List.mem_range, Bool.not_eq_true', ]
  constructor
  · rintro ⟨j, ⟨h1, h2⟩, rfl⟩; exact ⟨j, h1, rfl, h2⟩
  · rintro ⟨j, h1, rfl, h2⟩; exact ⟨j, ⟨h1, h2⟩, rfl⟩
theorem lead_col {h w : Nat} {c : Nat → Nat → Bool} {l m : Nat} (hl : ¬ l < h) : m ∈ lead h w c l ↔ m < h ∧ c m (l - h) = true := by
  unfold lead
  rw [if_neg hl]
  simp only [List.mem_filter, List.mem_range]
def layStep (ld : Nat → List Nat) (left : List Nat) : List Nat := left.filter fun l => !(ld l).any fun m => left.contains m
def minus (xs ys : List Nat) : List Nat := xs.filter fun l => !ys.contains l
theorem mem_minus {xs ys : List Nat} {l : Nat} : l ∈ minus xs ys ↔ l ∈ xs ∧ l ∉ ys := by
  unfold minus; simp [List.mem_filter]
theorem mem_layStep {ld : Nat → List Nat} {left : List Nat} {l : Nat} : l ∈ layStep ld left ↔ l ∈ left ∧ ∀ m ∈ ld l, m ∉ left := by
  unfold layStep
  simp [List.mem_filter]
/-- the layers of what is left -/
inductive Lay (ld : Nat → List Nat) : List Nat → List (List Nat) → Prop where
  | nil {left : List Nat} : layStep ld left = [] → Lay ld left []
  | cons {left : List Nat} {Ls : List (List Nat)} : layStep ld left ≠ [] → Lay ld (minus left (layStep ld left)) Ls → Lay ld left (layStep ld left :: Ls)
def layLoop (ld : Nat → List Nat) : Nat → List Nat → List (List Nat)
  | 0, _ => []
  | n + 1, left => if layStep ld left = [] then [] else layStep ld left :: layLoop ld n (minus left (layStep ld left))
theorem minus_lt {xs ys : List Nat} (h : ys ≠ []) (hs : ∀ y ∈ ys, y ∈ xs) : (minus xs ys).length < xs.length := by
  obtain ⟨y, hy⟩ := List.exists_mem_of_ne_nil ys h
  unfold minus
  have h1 := List.length_filter_lt_length_iff_exists (p := fun l => !ys.contains l) (l := xs)
  exact h1.mpr ⟨y, hs y hy, by simp [hy]⟩
theorem layStep_sub {ld : Nat → List Nat} {left : List Nat} : ∀ y ∈ layStep ld left, y ∈ left := fun y hy => (mem_layStep.mp hy).1
theorem layLoop_lay {ld : Nat → List Nat} : ∀ (n : Nat) (left : List Nat), left.length ≤ n → Lay ld left (layLoop ld n left)
  | 0, left, hn => by
    have e : left = [] := List.length_eq_zero_iff.mp (by omega)
    subst e
    exact .nil rfl
  | n + 1, left, hn => by
    unfold layLoop
    split
    · exact .nil ‹_›
    · rename_i h
      refine .cons h (layLoop_lay n _ ?_)
      have := minus_lt h layStep_sub
      omega
/-- whatever the fuel -/
theorem layLoop_eq {ld : Nat → List Nat} : ∀ (n m : Nat) (left : List Nat), left.length ≤ n → left.length ≤ m → layLoop ld n left = layLoop ld m left
  | 0, 0, _, _, _ => rfl
  | 0, m + 1, left, hn, _ => by
    have e : left = [] := List.length_eq_zero_iff.mp (by omega)
    subst e
    rfl
  | n + 1, 0, left, _, hn => by
    have e : left = [] := List.length_eq_zero_iff.mp (by omega)
    subst e
    rfl
  | n + 1, m + 1, left, hn, hm => by
    unfold layLoop
    split
    · rfl
    · rename_i h
      have := minus_lt h layStep_sub
      rw [layLoop_eq n m _ (by omega) (by omega)]
section
variable {h w : Nat} {c : Nat → Nat → Bool} {left : List Nat}
/-- lines of one layer are of one kind -/
theorem kind_one (hb : ∀ l ∈ left, l < h + w) {l m : Nat} (hl : l ∈ layStep (lead h w c) left) (hm : m ∈ layStep (lead h w c) left) : l < h → m < h := by
  intro h1
  apply Classical.byContradiction
  intro h2
  obtain ⟨a1, a2⟩ := mem_layStep.mp hl
  obtain ⟨b1, b2⟩ := mem_layStep.mp hm
  have hmw := hb m b1
  cases e : c l (m - h) with
  | false => exact a2 m ((lead_row h1).mpr ⟨m - h, by omega, by omega, e⟩) b1
  | true => exact b2 l ((lead_col h2).mpr ⟨h1, e⟩) a1
/-- what is left of the other kind leads to the whole layer -/
theorem leads_row (hb : ∀ l ∈ left, l < h + w) {l m : Nat} (hl : l ∈ layStep (lead h w c) left) (hm : m ∈ left) (h1 : l < h) (h2 : ¬ m < h) : c l (m - h) = true := by
  obtain ⟨a1, a2⟩ := mem_layStep.mp hl
  have hmw := hb m hm
  cases e : c l (m - h) with
  | false => exact absurd hm (a2 m ((lead_row h1).mpr ⟨m - h, by omega, by omega, e⟩))
  | true => rfl
theorem leads_col (hb : ∀ l ∈ left, l < h + w) {l m : Nat} (hl : l ∈ layStep (lead h w c) left) (hm : m ∈ left) (h1 : ¬ l < h) (h2 : m < h) : c m (l - h) = false := by
  obtain ⟨a1, a2⟩ := mem_layStep.mp hl
  cases e : c m (l - h) with
  | true => exact absurd hm (a2 m ((lead_col h1).mpr ⟨h2, e⟩))
  | false => rfl
theorem leads_to (hb : ∀ l ∈ left, l < h + w) {l m : Nat} (hl : l ∈ layStep (lead h w c) left) (hm : m ∈ left) (hk : (l < h) ↔ ¬ (m < h)) : l ∈ lead h w c m := by
  have hlw := hb l (mem_layStep.mp hl).1
  by_cases h1 : l < h
  · have h2 : ¬ m < h := hk.mp h1
    exact (lead_col h2).mpr ⟨h1, leads_row hb hl hm h1 h2⟩
  · have h2 : m < h := Classical.byContradiction fun z => h1 (hk.mpr z)
    exact (lead_row h2).mpr ⟨l - h, by omega, by omega, leads_col hb hl hm h1 h2⟩
theorem lead_kind {l m : Nat} (hm : m ∈ lead h w c l) : (l < h) ↔ ¬ (m < h) := by
  by_cases h1 : l < h
  · obtain ⟨j, _, e, _⟩ := (lead_row h1).mp hm
    constructor
    · intro _; omega
    · intro _; exact h1
  · have := (lead_col h1).mp hm
    constructor
    · intro z; exact absurd z h1
    · intro z; exact absurd this.1 z
/-- what is left behind the layer leads to something left there, or to the whole layer -/
theorem leads_on (hb : ∀ l ∈ left, l < h + w) {l m : Nat} (hl : l ∈ layStep (lead h w c) left) (hm : m ∈ minus left (layStep (lead h w c) left)) :
    l ∈ lead h w c m ∨ ∃ k, k ∈ lead h w c m ∧ k ∈ minus left (layStep (lead h w c) left) ∧ l ∈ lead h w c k := by
  obtain ⟨m1, m2⟩ := mem_minus.mp hm
  by_cases hk : (l < h) ↔ ¬ (m < h)
  · exact .inl (leads_to hb hl m1 hk)
  · right
    have : ¬ ∀ k ∈ lead h w c m, k ∉ left := fun z => m2 (mem_layStep.mpr ⟨m1, z⟩)
    have ⟨k, hk2⟩ := Classical.not_forall.mp this
    have ⟨k1, k2⟩ := Classical.not_imp.mp hk2
    have k3 : k ∈ left := Classical.byContradiction k2
    have kk := lead_kind k1
    have kl : (l < h) ↔ ¬ (k < h) := by
      by_cases a : l < h <;> by_cases b : m < h <;> by_cases d : k < h <;> simp_all
    refine ⟨k, k1, mem_minus.mpr ⟨k3, fun z => ?_⟩, leads_to hb hl k3 kl⟩
    by_cases a : l < h
    · exact (kl.mp a) (kind_one hb hl z a)
    · exact a (kind_one hb z hl (Classical.byContradiction fun y => a (kl.mpr y)))
end
/-! ### the least set -/
/-- cells of the picture, by the start and the goal -/
def meets (h : Nat) (x : Nat × Nat) (L : List Nat) : Bool := L.contains x.1 || L.contains (h + x.2)
def needed (h : Nat) (left : List (Nat × Nat)) (L : List Nat) : List Nat := L.filter fun l => left.any fun x => l == x.1 || l == h + x.2
def rest (h : Nat) (left : List (Nat × Nat)) (L : List Nat) : List (Nat × Nat) := left.filter fun x => !meets h x L
def least (h : Nat) : List (List Nat) → List (Nat × Nat) → Option (List (List Nat))
  | _, [] => some []
  | [], _ :: _ => none
  | L :: Ls, x :: left => if rest h (x :: left) L = [] then some [needed h (x :: left) L] else (least h Ls (rest h (x :: left) L)).map (L :: ·)
/-- a way: orders of the layers, the last layer's first -/
inductive IsWay : List (List Nat) → List Nat → Prop where
  | nil : IsWay [] []
  | cons {T : List Nat} {Ts : List (List Nat)} {a o : List Nat} : IsWay Ts o → a.Perm T → IsWay (T :: Ts) (o ++ a)
theorem IsWay.perm {Ts : List (List Nat)} {o : List Nat} (h : IsWay Ts o) : o.Perm Ts.flatten := by
  induction h with
  | nil => exact List.Perm.refl _
  | @cons T Ts a o _ hp ih =>
    rw [List.flatten_cons]
    exact (List.perm_append_comm).trans (hp.append ih)
theorem least_nil (h : Nat) (Ls : List (List Nat)) : least h Ls [] = some [] := by cases Ls <;> rfl
theorem least_cons {h : Nat} {L : List Nat} {Ls : List (List Nat)} {left : List (Nat × Nat)} (hn : left ≠ []) :
    least h (L :: Ls) left = if rest h left L = [] then some [needed h left L] else (least h Ls (rest h left L)).map (L :: ·) := by
  cases left with
  | nil => exact absurd rfl hn
  | cons x r => rfl
theorem mem_rest {h : Nat} {left : List (Nat × Nat)} {L : List Nat} {x : Nat × Nat} : x ∈ rest h left L ↔ x ∈ left ∧ x.1 ∉ L ∧ h + x.2 ∉ L := by
  unfold rest meets
  simp [List.mem_filter]
theorem mem_needed {h : Nat} {left : List (Nat × Nat)} {L : List Nat} {l : Nat} : l ∈ needed h left L ↔ l ∈ L ∧ ∃ x ∈ left, l = x.1 ∨ l = h + x.2 := by
  unfold needed
  simp [List.mem_filter]
/-- what is told of what is left -/
structure Stage (h w : Nat) (s g : Nat → Nat → Bool) (left : List Nat) (cells : List (Nat × Nat)) : Prop where
  bd : ∀ l ∈ left, l < h + w
  inc : left.Pairwise (· < ·)
  cel : ∀ r j, (r, j) ∈ cells ↔ r < h ∧ r ∈ left ∧ h + j ∈ left ∧ s r j ≠ g r j
section
variable {h w : Nat} {s g : Nat → Nat → Bool}
abbrev lst (h w : Nat) (g : Nat → Nat → Bool) (left : List Nat) : List Nat := layStep (lead h w g) left
theorem Stage.next {left : List Nat} {cells : List (Nat × Nat)} (S : Stage h w s g left cells) : Stage h w s g (minus left (lst h w g left)) (rest h cells (lst h w g left)) where
  bd := fun l hl => S.bd l (mem_minus.mp hl).1
  inc := S.inc.filter _
  cel := fun r j => by
    rw [mem_rest, S.cel, mem_minus, mem_minus]
    constructor
    · rintro ⟨⟨a, b, c, d⟩, e, f⟩; exact ⟨a, ⟨b, e⟩, ⟨c, f⟩, d⟩
    · rintro ⟨a, ⟨b, e⟩, ⟨c, f⟩, d⟩; exact ⟨⟨a, b, c, d⟩, e, f⟩
theorem Stage.sub {left : List Nat} {cells : List (Nat × Nat)} (S : Stage h w s g left cells) {l : Nat} (hl : l ∈ lst h w g left) : l < h + w := S.bd l (layStep_sub l hl)
/-- the layers of the least set, one after another: all but the last are whole -/
inductive Told (h w : Nat) (s g : Nat → Nat → Bool) : List Nat → List (Nat × Nat) → List (List Nat) → Prop where
  | nil {left : List Nat} : Told h w s g left [] []
  | last {left : List Nat} {cells : List (Nat × Nat)} : cells ≠ [] → rest h cells (lst h w g left) = [] → Told h w s g left cells [needed h cells (lst h w g left)]
  | cons {left : List Nat} {cells : List (Nat × Nat)} {Ts : List (List Nat)} : lst h w g left ≠ [] → rest h cells (lst h w g left) ≠ [] → Told h w s g (minus left (lst h w g left)) (rest h cells (lst h w g left)) Ts → Told h w s g left cells (lst h w g left :: Ts)
theorem told_of : ∀ {Ls : List (List Nat)} {left : List Nat} {cells : List (Nat × Nat)} {Ts : List (List Nat)}, Lay (lead h w g) left Ls → least h Ls cells = some Ts → Told h w s g left cells Ts
  | Ls, left, [], Ts, _, e => by
    rw [least_nil] at e
    cases e
    exact .nil
  | [], left, x :: r, Ts, _, e => by cases e
  | L :: Ls, left, x :: r, Ts, hL, e => by
    rw [least_cons (by simp)] at e
    cases hL with
    | cons h1 h2 =>
      by_cases c : rest h (x :: r) (lst h w g left) = []
      · rw [if_pos c] at e
        cases e
        exact .last (by simp) c
      · rw [if_neg c] at e
        cases q : least h Ls (rest h (x :: r) (lst h w g left)) with
        | none => rw [q] at e; cases e
        | some Us =>
          rw [q] at e
          cases e
          exact .cons h1 c (told_of h2 q)
theorem Told.nil_of {left : List Nat} {cells : List (Nat × Nat)} {Ts : List (List Nat)} (t : Told h w s g left cells Ts) (e : Ts = []) : cells = [] := by
  cases t with
  | nil => rfl
  | last _ _ => cases e
  | cons _ _ _ => cases e
/-- the lines of the told layers are left at the stage, each once, ascending in a layer, none empty -/
theorem Told.sub {left : List Nat} {cells : List (Nat × Nat)} {Ts : List (List Nat)} (t : Told h w s g left cells Ts) : ∀ l ∈ Ts.flatten, l ∈ left := by
  induction t with
  | nil => intro l hl; cases hl
  | last h1 h2 =>
    intro l hl
    simp only [List.flatten_cons, List.flatten_nil, List.append_nil] at hl
    exact layStep_sub l (mem_needed.mp hl).1
  | cons h1 h2 _ ih =>
    intro l hl
    rw [List.flatten_cons, List.mem_append] at hl
    rcases hl with hl | hl
    · exact layStep_sub l hl
    · exact (mem_minus.mp (ih l hl)).1
theorem Told.nodup {left : List Nat} {cells : List (Nat × Nat)} {Ts : List (List Nat)} (t : Told h w s g left cells Ts) : left.Pairwise (· < ·) → Ts.flatten.Nodup := by
  induction t with
  | nil => intro _; exact List.nodup_nil
  | last h1 h2 =>
    intro hi
    simp only [List.flatten_cons, List.flatten_nil, List.append_nil]
    exact ((hi.filter _).filter _).imp (fun a b => by omega)
  | cons h1 h2 t2 ih =>
    intro hi
    rw [List.flatten_cons, List.nodup_append]
    refine ⟨(hi.filter _).imp (fun a b => by omega), ih (hi.filter _), ?_⟩
    intro a ha b hb e
    subst e
    exact (mem_minus.mp (t2.sub a hb)).2 ha
theorem Told.each {left : List Nat} {cells : List (Nat × Nat)} {Ts : List (List Nat)} (t : Told h w s g left cells Ts) : left.Pairwise (· < ·) → ∀ T ∈ Ts, T ≠ [] ∧ T.Pairwise (· < ·) := by
  induction t with
  | nil => intro _ T hT; cases hT
  | @last left cells h1 h2 =>
    intro hi T hT
    rw [List.mem_singleton] at hT
    subst hT
    refine ⟨?_, (hi.filter _).filter _⟩
    obtain ⟨x, hx⟩ := List.exists_mem_of_ne_nil cells h1
    have : ¬ (x.1 ∉ lst h w g left ∧ h + x.2 ∉ lst h w g left) := fun z => by
      have : x ∈ rest h cells (lst h w g left) := mem_rest.mpr ⟨hx, z⟩
      rw [h2] at this; cases this
    intro e
    apply this
    constructor
    · intro z
      have : x.1 ∈ needed h cells (lst h w g left) := mem_needed.mpr ⟨z, x, hx, .inl rfl⟩
      rw [e] at this; cases this
    · intro z
      have : h + x.2 ∈ needed h cells (lst h w g left) := mem_needed.mpr ⟨z, x, hx, .inr rfl⟩
      rw [e] at this; cases this
  | cons h1 h2 _ ih =>
    intro hi T hT
    rcases List.mem_cons.mp hT with rfl | hT
    · exact ⟨h1, hi.filter _⟩
    · exact ih (hi.filter _) T hT
/-- a way makes the goal, at all cells of what is left -/
theorem way_ok {left : List Nat} {cells : List (Nat × Nat)} {Ts : List (List Nat)} (t : Told h w s g left cells Ts) : Stage h w s g left cells → ∀ {o : List Nat}, IsWay Ts o → ∀ r j, r < h → r ∈ left → h + j ∈ left → fin h o (s r j) r j = g r j := by
  induction t with
  | nil =>
    intro S o ho r j h1 h2 h3
    cases ho
    apply Classical.byContradiction
    intro z
    have := (S.cel r j).mpr ⟨h1, h2, h3, z⟩
    cases this
  | @last left cells h1 h2 =>
    intro S o ho r j hr m1 m2
    cases ho with
    | @cons _ _ a o' ho' hp =>
      cases ho'
      rw [List.nil_append]
      by_cases q1 : r ∈ lst h w g left
      · have e1 := leads_row S.bd q1 m2 hr (by omega)
        rw [Nat.add_sub_cancel_left] at e1
        have q2 : h + j ∉ a := fun z => by
          have z2 := (mem_needed.mp (hp.mem_iff.mp z)).1
          have := kind_one S.bd q1 z2 hr
          omega
        by_cases q3 : s r j = g r j
        · rw [e1] at q3 ⊢
          exact fin_row hr (.inr q3) q2
        · rw [e1]
          have q4 : (r, j) ∈ cells := (S.cel r j).mpr ⟨hr, m1, m2, q3⟩
          exact fin_row hr (.inl (hp.mem_iff.mpr (mem_needed.mpr ⟨q1, _, q4, .inl rfl⟩))) q2
      · have q2 : r ∉ a := fun z => q1 (mem_needed.mp (hp.mem_iff.mp z)).1
        by_cases q1' : h + j ∈ lst h w g left
        · have e1 := leads_col S.bd q1' m1 (by omega) hr
          rw [Nat.add_sub_cancel_left] at e1
          by_cases q3 : s r j = g r j
          · rw [e1] at q3 ⊢
            exact fin_col hr (.inr q3) q2
          · rw [e1]
            have q4 : (r, j) ∈ cells := (S.cel r j).mpr ⟨hr, m1, m2, q3⟩
            exact fin_col hr (.inl (hp.mem_iff.mpr (mem_needed.mpr ⟨q1', _, q4, .inr rfl⟩))) q2
        · rw [fin_none q2 (fun z => q1' (mem_needed.mp (hp.mem_iff.mp z)).1)]
          apply Classical.byContradiction
          intro z
          have q4 : (r, j) ∈ cells := (S.cel r j).mpr ⟨hr, m1, m2, z⟩
          have : (r, j) ∈ rest h cells (lst h w g left) := mem_rest.mpr ⟨q4, q1, q1'⟩
          rw [h2] at this; cases this
  | @cons left cells Ts h1 h2 t2 ih =>
    intro S o ho r j hr m1 m2
    cases ho with
    | @cons _ _ a o' ho' hp =>
      rw [fin_append]
      by_cases q1 : r ∈ lst h w g left
      · have e1 := leads_row S.bd q1 m2 hr (by omega)
        rw [Nat.add_sub_cancel_left] at e1
        have q2 : h + j ∉ a := fun z => by
          have := kind_one S.bd q1 (hp.mem_iff.mp z) hr
          omega
        rw [e1]
        exact fin_row hr (.inl (hp.mem_iff.mpr q1)) q2
      · have q2 : r ∉ a := fun z => q1 (hp.mem_iff.mp z)
        by_cases q1' : h + j ∈ lst h w g left
        · have e1 := leads_col S.bd q1' m1 (by omega) hr
          rw [Nat.add_sub_cancel_left] at e1
          rw [e1]
          exact fin_col hr (.inl (hp.mem_iff.mpr q1')) q2
        · rw [fin_none q2 (fun z => q1' (hp.mem_iff.mp z))]
          exact ih S.next ho' r j hr (mem_minus.mpr ⟨m1, q1⟩) (mem_minus.mpr ⟨m2, q1'⟩)
/-- deeds that make the goal at all cells -/
def Makes (h w : Nat) (s g : Nat → Nat → Bool) (d : List Nat) : Prop := ∀ r j, r < h → j < w → fin h d (s r j) r j = g r j
/-- they have what their lines lead to -/
theorem Makes.closed {d : List Nat} (M : Makes h w s g d) {l m : Nat} (hm : m ∈ d) (hmw : m < h + w) (hl : l ∈ lead h w g m) : l ∈ d := by
  apply Classical.byContradiction
  intro hd
  by_cases h1 : m < h
  · obtain ⟨j, hj, rfl, e⟩ := (lead_row h1).mp hl
    have := M m j h1 hj
    rw [fin_row h1 (.inl hm) hd, e] at this
    cases this
  · obtain ⟨h2, e⟩ := (lead_col h1).mp hl
    have e2 : h + (m - h) = m := by omega
    have := M l (m - h) h2 (by omega)
    rw [fin_col h2 (.inl (by rw [e2]; exact hm)) hd, e] at this
    cases this
/-- .. and every cell of difference -/
theorem Makes.met {d : List Nat} (M : Makes h w s g d) {r j : Nat} (hr : r < h) (hj : j < w) (hd : s r j ≠ g r j) : r ∈ d ∨ h + j ∈ d := by
  apply Classical.byContradiction
  intro z
  have z1 : r ∉ d := fun q => z (.inl q)
  have z2 : h + j ∉ d := fun q => z (.inr q)
  have := M r j hr hj
  rw [fin_none z1 z2] at this
  exact hd this
/-- the told lines are among the deeds -/
theorem told_in {left : List Nat} {cells : List (Nat × Nat)} {Ts : List (List Nat)} (t : Told h w s g left cells Ts) : Stage h w s g left cells → ∀ {d : List Nat}, Makes h w s g d → (∀ l ∈ d, l < h + w) → (∀ l ∈ Ts.flatten, l ∈ d) ∧ (Ts ≠ [] → ∃ m ∈ d, m ∈ left) := by
  induction t with
  | nil => intro S d M hd; exact ⟨fun l hl => (by cases hl), fun z => absurd rfl z⟩
  | @last left cells h1 h2 =>
    intro S d M hd
    have key : ∀ x ∈ cells, x.1 ∈ d ∨ h + x.2 ∈ d := fun x hx => by
      obtain ⟨a, b, c, e⟩ := (S.cel x.1 x.2).mp hx
      have := S.bd _ c
      exact M.met a (by omega) e
    constructor
    · intro l hl
      simp only [List.flatten_cons, List.flatten_nil, List.append_nil] at hl
      obtain ⟨hl1, x, hx, ex⟩ := mem_needed.mp hl
      obtain ⟨a, b, c, e⟩ := (S.cel x.1 x.2).mp hx
      rcases key x hx with k | k
      · rcases ex with ex | ex
        · rw [ex]; exact k
        · refine M.closed k (S.bd _ b) (leads_to S.bd hl1 b ?_)
          rw [ex]; omega
      · rcases ex with ex | ex
        · refine M.closed k (S.bd _ c) (leads_to S.bd hl1 c ?_)
          rw [ex]; omega
        · rw [ex]; exact k
    · intro _
      obtain ⟨x, hx⟩ := List.exists_mem_of_ne_nil cells h1
      obtain ⟨a, b, c, e⟩ := (S.cel x.1 x.2).mp hx
      rcases key x hx with k | k
      · exact ⟨_, k, b⟩
      · exact ⟨_, k, c⟩
  | @cons left cells Ts h1 h2 t2 ih =>
    intro S d M hd
    obtain ⟨i1, i2⟩ := ih S.next M hd
    have hm : ∃ m ∈ d, m ∈ minus left (lst h w g left) := by
      apply i2
      intro e
      exact h2 (t2.nil_of e)
    obtain ⟨m, md, ml⟩ := hm
    refine ⟨fun l hl => ?_, fun _ => ⟨m, md, (mem_minus.mp ml).1⟩⟩
    rw [List.flatten_cons, List.mem_append] at hl
    rcases hl with hl | hl
    · rcases leads_on S.bd hl ml with q | ⟨k, k1, k2, k3⟩
      · exact M.closed md (S.bd _ (mem_minus.mp ml).1) q
      · have kd := M.closed md (S.bd _ (mem_minus.mp ml).1) k1
        exact M.closed kd (S.bd _ (mem_minus.mp k2).1) k3
    · exact i1 l hl
end
/-! ### what makes the goal in an order is a way -/
section
variable {h w : Nat} {s g : Nat → Nat → Bool}
/-- m stands ahead of l -/
def Bef (o : List Nat) (m l : Nat) : Prop := o.idxOf m < o.idxOf l
theorem idx_ne {o : List Nat} {x y : Nat} (hxy : x ≠ y) : (x :: o).idxOf y = o.idxOf y + 1 := by
  rw [List.idxOf_cons, beq_eq_false_iff_ne.mpr hxy]; rfl
theorem bef_trans {o : List Nat} {a b c : Nat} (x : Bef o a b) (y : Bef o b c) : Bef o a c := Nat.lt_trans x y
/-- the later one of two that stand in it, once each, has none of both behind it -/
theorem split_last {o : List Nat} (hn : o.Nodup) {a b : Nat} (ha : a ∈ o) (hb : b ∈ o) (hab : a ≠ b) (hz : ¬ Bef o a b) : ∃ o1 o2, o = o1 ++ a :: o2 ∧ b ∈ o1 ∧ a ∉ o2 ∧ b ∉ o2 := by
  obtain ⟨o1, o2, e, n⟩ := List.append_of_mem ha |>.elim fun s t => t.elim fun t e => (⟨s, t, e, trivial⟩ : ∃ o1 o2, o = o1 ++ a :: o2 ∧ True)
  subst e
  rw [List.nodup_append] at hn
  obtain ⟨n1, n2, n3⟩ := hn
  rw [List.nodup_cons] at n2
  have a1 : a ∉ o1 := fun z => n3 a z a List.mem_cons_self rfl
  have e1 : (o1 ++ a :: o2).idxOf a = o1.length := by
    rw [List.idxOf_append, if_neg a1, List.idxOf_cons_self, Nat.zero_add]
  have b1 : b ∈ o1 := by
    apply Classical.byContradiction
    intro z
    apply hz
    unfold Bef
    rw [e1, List.idxOf_append, if_neg z]
    have : List.idxOf b (a :: o2) ≠ 0 := by
      rw [idx_ne hab]
      omega
    omega
  exact ⟨o1, o2, rfl, b1, n2.1, fun z => n3 b b1 b (List.mem_cons_of_mem _ z) rfl⟩
theorem Makes.bef {o : List Nat} (M : Makes h w s g o) (hn : o.Nodup) {l m : Nat} (hm : m ∈ o) (hl : l ∈ o) (hmw : m < h + w) (ld : l ∈ lead h w g m) : Bef o m l := by
  apply Classical.byContradiction
  intro z
  have hne : m ≠ l := by
    intro e
    subst e
    have := lead_kind ld
    by_cases q : m < h
    · exact this.mp q q
    · exact q (this.mpr q)
  obtain ⟨o1, o2, rfl, b1, b2, b3⟩ := split_last hn hm hl hne z
  by_cases h1 : m < h
  · obtain ⟨j, hj, rfl, e⟩ := (lead_row h1).mp ld
    have := M m j h1 hj
    rw [fin_append, fin_cons, fin_none b2 b3, e] at this
    unfold stp at this
    rw [if_pos rfl] at this
    cases this
  · obtain ⟨h2, e⟩ := (lead_col h1).mp ld
    have e2 : h + (m - h) = m := by omega
    have := M l (m - h) h2 (by omega)
    rw [fin_append, fin_cons, fin_none b3 (by rw [e2]; exact b2), e] at this
    unfold stp at this
    rw [if_neg hne, e2, if_pos rfl] at this
    cases this
theorem Told.head {left : List Nat} {cells : List (Nat × Nat)} {Ts Us : List (List Nat)} {T : List Nat} (t : Told h w s g left cells Ts) (e : Ts = T :: Us) : ∀ k ∈ T, k ∈ lst h w g left := by
  cases t with
  | nil => cases e
  | last _ _ => cases e; exact fun k hk => (mem_needed.mp hk).1
  | cons _ _ _ => cases e; exact fun k hk => hk
/-- one kind in a layer; a later layer's lines stand ahead -/
theorem told_bef {left : List Nat} {cells : List (Nat × Nat)} {Ts : List (List Nat)} (t : Told h w s g left cells Ts) : Stage h w s g left cells → ∀ {o : List Nat}, Makes h w s g o → o.Nodup → (∀ l ∈ Ts.flatten, l ∈ o) →
    ∀ T Us, Ts = T :: Us → ∀ l ∈ T, ∀ m ∈ Us.flatten, Bef o m l := by
  induction t with
  | nil => intro S o M hn hi T Us e; cases e
  | @last left cells h1 h2 =>
    intro S o M hn hi T Us e l hl m hm
    cases e
    cases hm
  | @cons left cells Ts h1 h2 t2 ih =>
    intro S o M hn hi T Us e l hl m hm
    cases e
    have hi2 : ∀ l ∈ Ts.flatten, l ∈ o := fun l hl => hi l (by rw [List.flatten_cons]; exact List.mem_append_right _ hl)
    have lo : l ∈ o := hi l (by rw [List.flatten_cons]; exact List.mem_append_left _ hl)
    have mo := hi2 m hm
    have ml := t2.sub m hm
    have dir : ∀ k ∈ Ts.flatten, ((l < h) ↔ ¬ (k < h)) → Bef o k l := fun k hk kk =>
      M.bef hn (hi2 k hk) lo (S.bd _ (mem_minus.mp (t2.sub k hk)).1) (leads_to S.bd hl (mem_minus.mp (t2.sub k hk)).1 kk)
    by_cases kk : (l < h) ↔ ¬ (m < h)
    · exact dir m hm kk
    · -- m is of l's kind: it stands in no first layer of the rest, whose lines are of the other kind
      cases Ts with
      | nil => cases hm
      | cons T2 Us2 =>
        have n2 := (t2.each (S.next.inc) T2 List.mem_cons_self).1
        obtain ⟨k, hk⟩ := List.exists_mem_of_ne_nil T2 n2
        have hkf : k ∈ (T2 :: Us2).flatten := by rw [List.flatten_cons]; exact List.mem_append_left _ hk
        have hks : k ∈ lst h w g (minus left (lst h w g left)) := t2.head rfl k hk
        -- the kind of the next layer
        have kk2 : (l < h) ↔ ¬ (k < h) := by
          have km := t2.sub k hkf
          obtain ⟨ka, kb⟩ := mem_minus.mp km
          have : ¬ ∀ x ∈ lead h w g k, x ∉ left := fun z => kb (mem_layStep.mpr ⟨ka, z⟩)
          have ⟨x, hx⟩ := Classical.not_forall.mp this
          have ⟨x1, x2⟩ := Classical.not_imp.mp hx
          have x3 : x ∈ left := Classical.byContradiction x2
          have x4 : x ∈ lst h w g left := by
            apply Classical.byContradiction
            intro z
            exact (mem_layStep.mp hks).2 x x1 (mem_minus.mpr ⟨x3, z⟩)
          have xk := lead_kind x1
          have xl1 := kind_one S.bd x4 hl
          have xl2 := kind_one S.bd hl x4
          by_cases a : l < h
          · have := xl2 a
            exact ⟨fun _ z => (xk.mp z) this, fun _ => a⟩
          · have xa : ¬ x < h := fun z => a (xl1 z)
            have := xk.mpr xa
            exact ⟨fun z => absurd z a, fun z => absurd this z⟩
        have kl := dir k hkf kk2
        rw [List.flatten_cons, List.mem_append] at hm
        rcases hm with hm | hm
        · -- m in that layer: of the other kind
          have hms : m ∈ lst h w g (minus left (lst h w g left)) := t2.head rfl m hm
          exfalso
          apply kk
          have m1 := kind_one S.next.bd hks hms
          have m2 := kind_one S.next.bd hms hks
          by_cases a : k < h
          · have := m1 a
            exact ⟨fun z => absurd a (kk2.mp z), fun z => absurd this z⟩
          · have b : ¬ m < h := fun z => a (m2 z)
            exact ⟨fun _ => b, fun _ => kk2.mpr a⟩
        · exact bef_trans (ih S.next M hn hi2 T2 Us2 rfl k hk m hm) kl
/-- a list in which those of B stand ahead of those of A -/
theorem part_of : ∀ {o A B : List Nat}, o.Nodup → (∀ x ∈ o, x ∈ A ∨ x ∈ B) → (∀ x ∈ A, x ∉ B) → (∀ a ∈ A, ∀ b ∈ B, a ∈ o → b ∈ o → Bef o b a) → o = o.filter (fun x => B.contains x) ++ o.filter (fun x => A.contains x)
  | [], _, _, _, _, _, _ => rfl
  | x :: o, A, B, hn, hm, hd, hb => by
    have nx := (List.nodup_cons.mp hn).1
    have low : ∀ a ∈ A, ∀ b ∈ B, a ∈ o → b ∈ o → Bef o b a := fun a ha b hbb ao bo => by
      have := hb a ha b hbb (List.mem_cons_of_mem _ ao) (List.mem_cons_of_mem _ bo)
      unfold Bef at this ⊢
      rw [idx_ne (fun e => nx (by rw [e]; exact bo)), idx_ne (fun e => nx (by rw [e]; exact ao))] at this
      omega
    have ih := part_of (List.nodup_cons.mp hn).2 (fun y hy => hm y (List.mem_cons_of_mem _ hy)) hd low
    by_cases xB : x ∈ B
    · have xA : x ∉ A := fun z => hd x z xB
      rw [List.filter_cons_of_pos (by simpa using xB), List.filter_cons_of_neg (by simpa using xA), List.cons_append, ← ih]
    · have xA : x ∈ A := (hm x List.mem_cons_self).resolve_right xB
      have noB : ∀ y ∈ o, y ∉ B := fun y hy yB => by
        have := hb x xA y yB List.mem_cons_self (List.mem_cons_of_mem _ hy)
        unfold Bef at this
        rw [List.idxOf_cons_self] at this
        omega
      have e1 : (x :: o).filter (fun x => B.contains x) = [] := by
        rw [List.filter_eq_nil_iff]
        intro y hy
        rcases List.mem_cons.mp hy with rfl | hy
        · simpa using xB
        · simpa using noB y hy
      have e2 : (x :: o).filter (fun x => A.contains x) = x :: o := by
        rw [List.filter_eq_self]
        intro y hy
        rcases List.mem_cons.mp hy with rfl | hy
        · simpa using xA
        · simpa using (hm y (List.mem_cons_of_mem _ hy)).resolve_right (noB y hy)
      rw [e1, e2, List.nil_append]
theorem perm_of_mem {a b : List Nat} (ha : a.Nodup) (hb : b.Nodup) (h : ∀ x, x ∈ a ↔ x ∈ b) : a.Perm b := by
  rw [List.perm_iff_count]
  intro x
  rw [ha.count, hb.count]
  by_cases q : x ∈ a
  · rw [if_pos q, if_pos ((h x).mp q)]
  · rw [if_neg q, if_neg (fun z => q ((h x).mpr z))]
theorem perm_of_sub : ∀ {L d : List Nat}, L.Nodup → (∀ x ∈ L, x ∈ d) → d.length = L.length → d.Perm L
  | [], d, _, _, hl => by rw [List.length_eq_zero_iff.mp hl]
  | x :: L, d, hn, hs, hl => by
    have hx : x ∈ d := hs x List.mem_cons_self
    have nx := (List.nodup_cons.mp hn).1
    have p := List.perm_cons_erase hx
    have ih := perm_of_sub (L := L) (d := d.erase x) (List.nodup_cons.mp hn).2 (fun y hy => (List.mem_erase_of_ne (fun e => nx (by rw [← e]; exact hy))).mpr (hs y (List.mem_cons_of_mem _ hy))) (by
      rw [List.length_erase_of_mem hx, hl]; rfl)
    exact p.trans (ih.cons x)
/-- an order of the told lines that makes the goal is a way -/
theorem way_of {left : List Nat} {cells : List (Nat × Nat)} {Ts : List (List Nat)} (t : Told h w s g left cells Ts) : Stage h w s g left cells → ∀ {o : List Nat}, o.Perm Ts.flatten → (∀ T Us pre, Ts = pre ++ T :: Us → ∀ l ∈ T, ∀ m ∈ Us.flatten, l ∈ o → m ∈ o → Bef o m l) → IsWay Ts o := by
  intro S
  have hnd := t.nodup S.inc
  clear S t
  induction Ts with
  | nil =>
    intro o hp _
    rw [List.flatten_nil] at hp
    rw [hp.eq_nil]
    exact .nil
  | cons T Us ih =>
    intro o hp hb
    rw [List.flatten_cons] at hp hnd
    have hno : o.Nodup := hp.nodup_iff.mpr hnd
    rw [List.nodup_append] at hnd
    obtain ⟨n1, n2, n3⟩ := hnd
    have e := part_of (o := o) (A := T) (B := Us.flatten) hno (fun x hx => List.mem_append.mp (hp.mem_iff.mp hx)) (fun x hx hy => n3 x hx x hy rfl) (fun a ha b hbb ao bo => hb T Us [] rfl a ha b hbb ao bo)
    have p1 : (o.filter fun x => T.contains x).Perm T := perm_of_mem (hno.filter _) n1 fun x => by
      rw [List.mem_filter]
      constructor
      · rintro ⟨_, z⟩; simpa using z
      · intro z; exact ⟨hp.mem_iff.mpr (List.mem_append_left _ z), by simpa using z⟩
    have p2 : (o.filter fun x => Us.flatten.contains x).Perm Us.flatten := perm_of_mem (hno.filter _) n2 fun x => by
      rw [List.mem_filter]
      constructor
      · rintro ⟨_, z⟩; simpa using z
      · intro z; exact ⟨hp.mem_iff.mpr (List.mem_append_right _ z), by simpa using z⟩
    rw [e]
    refine .cons (ih n2 p2 fun T2 Us2 pre e2 l hl m hm lo mo => ?_) p1
    have := hb T2 Us2 (T :: pre) (by rw [e2]; rfl) l hl m hm (List.mem_filter.mp lo).1 (List.mem_filter.mp mo).1
    unfold Bef at this ⊢
    rw [e, List.idxOf_append, List.idxOf_append, if_pos lo, if_pos mo] at this
    exact this
theorem told_bef_all {left : List Nat} {cells : List (Nat × Nat)} {Ts : List (List Nat)} (t : Told h w s g left cells Ts) : Stage h w s g left cells → ∀ {o : List Nat}, Makes h w s g o → o.Nodup → (∀ l ∈ Ts.flatten, l ∈ o) →
    ∀ T Us pre, Ts = pre ++ T :: Us → ∀ l ∈ T, ∀ m ∈ Us.flatten, Bef o m l := by
  induction t with
  | nil => intro S o M hn hi T Us pre e; exact absurd e.symm (by simp)
  | @last left cells h1 h2 =>
    intro S o M hn hi T Us pre e
    cases pre with
    | nil => exact told_bef (.last h1 h2) S M hn hi T Us e
    | cons x pre => simp at e
  | @cons left cells Ts h1 h2 t2 ih =>
    intro S o M hn hi T Us pre e
    cases pre with
    | nil => exact told_bef (.cons h1 h2 t2) S M hn hi T Us e
    | cons x pre =>
      rw [List.cons_append] at e
      injection e with e1 e2
      exact ih S.next M hn (fun l hl => hi l (by rw [List.flatten_cons]; exact List.mem_append_right _ hl)) T Us pre e2
/-- THE LAW of ways: an order of the least lines makes the goal exactly if it is a way -/
theorem makes_iff {left : List Nat} {cells : List (Nat × Nat)} {Ts : List (List Nat)} (t : Told h w s g left cells Ts) (S : Stage h w s g left cells) (hall : ∀ l, l < h + w → l ∈ left) {o : List Nat} (hp : o.Perm Ts.flatten) : Makes h w s g o ↔ IsWay Ts o := by
  constructor
  · intro M
    have hno : o.Nodup := hp.nodup_iff.mpr (t.nodup S.inc)
    refine way_of t S hp fun T Us pre e l hl m hm _ _ => told_bef_all t S M hno (fun l hl => hp.mem_iff.mpr hl) T Us pre e l hl m hm
  · intro W r j hr hj
    exact way_ok t S W r j hr (hall _ (by omega)) (hall _ (by omega))
/-- as many deeds as least lines that make the goal are an order of them -/
theorem perm_of_makes {left : List Nat} {cells : List (Nat × Nat)} {Ts : List (List Nat)} (t : Told h w s g left cells Ts) (S : Stage h w s g left cells) {d : List Nat} (M : Makes h w s g d) (hd : ∀ l ∈ d, l < h + w) (hl : d.length = Ts.flatten.length) : d.Perm Ts.flatten := by
  have hs := (told_in t S M hd).1
  have hn := t.nodup S.inc
  exact perm_of_sub hn hs hl
end
/-! ### the list of all ways -/
def fct : Nat → Nat
  | 0 => 1
  | n + 1 => (n + 1) * fct n
theorem fct_pos : ∀ n, 0 < fct n
  | 0 => Nat.one_pos
  | n + 1 => Nat.mul_pos (Nat.succ_pos _) (fct_pos n)
def ordersN : Nat → List Nat → List (List Nat)
  | 0, _ => [[]]
  | n + 1, xs => (List.range xs.length).flatMap fun i => (ordersN n (xs.eraseIdx i)).map (xs.getD i 0 :: ·)
def orders (xs : List Nat) : List (List Nat) := ordersN xs.length xs
def waysL : List (List Nat) → List (List Nat)
  | [] => [[]]
  | T :: R => (orders T).flatMap fun a => (waysL R).map (a ++ ·)
def wn : List (List Nat) → Nat
  | [] => 1
  | T :: R => fct T.length * wn R
theorem waysL_cons (T : List Nat) (R : List (List Nat)) : waysL (T :: R) = (orders T).flatMap fun a => (waysL R).map (a ++ ·) := rfl
theorem wn_cons (T : List Nat) (R : List (List Nat)) : wn (T :: R) = fct T.length * wn R := rfl
theorem wn_pos : ∀ R, 0 < wn R
  | [] => Nat.one_pos
  | T :: R => Nat.mul_pos (fct_pos _) (wn_pos R)
theorem flatMap_len {α β : Type} {f : α → List β} {c : Nat} : ∀ {l : List α}, (∀ a ∈ l, (f a).length = c) → (l.flatMap f).length = l.length * c
  | [], _ => by simp
  | a :: l, h => by
    rw [List.flatMap_cons, List.length_append, h a List.mem_cons_self, flatMap_len (fun b hb => h b (List.mem_cons_of_mem _ hb)), List.length_cons, Nat.add_mul, Nat.one_mul, Nat.add_comm]
/-- an item of a list of lists of one length -/
theorem flatMap_at {α β : Type} {f : α → List β} {c : Nat} (hc : 0 < c) : ∀ {l : List α} {i : Nat} {a : α} {b : β}, (∀ a ∈ l, (f a).length = c) → l[i / c]? = some a → (f a)[i % c]? = some b → (l.flatMap f)[i]? = some b
  | [], _, _, _, _, h, _ => by simp at h
  | x :: l, i, a, b, h, h1, h2 => by
    rw [List.flatMap_cons]
    have hx := h x List.mem_cons_self
    by_cases q : i < c
    · rw [Nat.div_eq_of_lt q] at h1
      rw [Nat.mod_eq_of_lt q] at h2
      cases h1
      rw [List.getElem?_append_left (by omega)]
      exact h2
    · have e1 : i = (i - c) + c := by omega
      rw [List.getElem?_append_right (by omega), hx]
      refine flatMap_at hc (fun b hb => h b (List.mem_cons_of_mem _ hb)) ?_ ?_ (a := a)
      · rw [e1, Nat.add_div_right _ hc] at h1
        simpa using h1
      · rw [e1, Nat.add_mod_right] at h2
        exact h2
theorem ordersN_len : ∀ (n : Nat) (xs : List Nat), xs.length = n → (ordersN n xs).length = fct n
  | 0, _, _ => rfl
  | n + 1, xs, hx => by
    unfold ordersN
    rw [flatMap_len (c := fct n), List.length_range, hx]
    · rfl
    · intro i hi
      rw [List.length_map]
      exact ordersN_len n _ (by rw [List.length_eraseIdx]; rw [List.mem_range] at hi; rw [if_pos hi]; omega)
theorem orders_len (xs : List Nat) : (orders xs).length = fct xs.length := ordersN_len _ _ rfl
theorem waysL_len : ∀ R, (waysL R).length = wn R
  | [] => rfl
  | T :: R => by
    rw [waysL_cons, wn_cons, flatMap_len (c := wn R), orders_len]
    intro a _
    rw [List.length_map, waysL_len R]
/-- an item of the list of orders -/
theorem ordersN_at {n : Nat} {xs : List Nat} (hx : xs.length = n + 1) {q : Nat} (hq : q < fct (n + 1)) {b : List Nat} (hb : (ordersN n (xs.eraseIdx (q / fct n)))[q % fct n]? = some b) : (ordersN (n + 1) xs)[q]? = some (xs.getD (q / fct n) 0 :: b) := by
  unfold ordersN
  have hd : q / fct n < xs.length := by
    rw [hx]
    exact Nat.div_lt_of_lt_mul (by rw [Nat.mul_comm]; exact hq)
  refine flatMap_at (fct_pos n) (a := q / fct n) ?_ ?_ ?_
  · intro i hi
    rw [List.length_map]
    exact ordersN_len n _ (by rw [List.length_eraseIdx]; rw [List.mem_range] at hi; rw [if_pos hi]; omega)
  · rw [List.getElem?_range hd]
  · rw [List.getElem?_map, hb]
    rfl
/-! the lists' items -/
theorem perm_eraseIdx {xs : List Nat} {i : Nat} (h : i < xs.length) : xs.Perm (xs[i] :: xs.eraseIdx i) := by
  rw [List.eraseIdx_eq_take_drop_succ]
  have e : xs = xs.take i ++ xs[i] :: xs.drop (i + 1) := by
    rw [List.getElem_cons_drop, List.take_append_drop]
  have p : (xs.take i ++ xs[i] :: xs.drop (i + 1)).Perm (xs[i] :: (xs.take i ++ xs.drop (i + 1))) := List.perm_middle
  rw [← e] at p
  exact p
theorem mem_ordersN : ∀ (n : Nat) (xs a : List Nat), xs.length = n → (a ∈ ordersN n xs ↔ a.Perm xs)
  | 0, xs, a, hx => by
    unfold ordersN
    rw [List.mem_singleton, List.length_eq_zero_iff.mp hx, List.perm_nil]
  | n + 1, xs, a, hx => by
    unfold ordersN
    rw [List.mem_flatMap]
    constructor
    · rintro ⟨i, hi, ha⟩
      rw [List.mem_range] at hi
      rw [List.mem_map] at ha
      obtain ⟨b, hb, rfl⟩ := ha
      have hl : (xs.eraseIdx i).length = n := by rw [List.length_eraseIdx, if_pos hi]; omega
      have pb := (mem_ordersN n _ b hl).mp hb
      rw [List.getD_eq_getElem?_getD, List.getElem?_eq_getElem hi, Option.getD_some]
      exact (pb.cons _).trans (perm_eraseIdx hi).symm
    · intro hp
      cases a with
      | nil => have := hp.length_eq; simp at this; omega
      | cons y b =>
        have hy : y ∈ xs := hp.mem_iff.mp List.mem_cons_self
        obtain ⟨i, hi, e⟩ := List.getElem_of_mem hy
        refine ⟨i, List.mem_range.mpr hi, ?_⟩
        rw [List.mem_map]
        have hl : (xs.eraseIdx i).length = n := by rw [List.length_eraseIdx, if_pos hi]; omega
        refine ⟨b, (mem_ordersN n _ b hl).mpr ?_, ?_⟩
        · have p2 := hp.trans (perm_eraseIdx hi)
          rw [e] at p2
          exact p2.cons_inv
        · rw [List.getD_eq_getElem?_getD, List.getElem?_eq_getElem hi, Option.getD_some, e]
theorem mem_orders {xs a : List Nat} : a ∈ orders xs ↔ a.Perm xs := mem_ordersN _ _ _ rfl
/-- ways by the layers, the last one first -/
inductive IsWayR : List (List Nat) → List Nat → Prop where
  | nil : IsWayR [] []
  | cons {T : List Nat} {R : List (List Nat)} {a o : List Nat} : a.Perm T → IsWayR R o → IsWayR (T :: R) (a ++ o)
theorem mem_waysL : ∀ {R : List (List Nat)} {o : List Nat}, o ∈ waysL R ↔ IsWayR R o
  | [], o => by
    unfold waysL
    rw [List.mem_singleton]
    constructor
    · rintro rfl; exact .nil
    · intro h; cases h; rfl
  | T :: R, o => by
    unfold waysL
    rw [List.mem_flatMap]
    constructor
    · rintro ⟨a, ha, hb⟩
      rw [List.mem_map] at hb
      obtain ⟨b, hb, rfl⟩ := hb
      exact .cons (mem_orders.mp ha) (mem_waysL.mp hb)
    · intro h
      cases h with
      | @cons _ _ a o h1 h2 => exact ⟨a, mem_orders.mpr h1, List.mem_map.mpr ⟨o, mem_waysL.mpr h2, rfl⟩⟩
theorem isWayR_snoc {R : List (List Nat)} {o : List Nat} (h : IsWayR R o) {T a : List Nat} (ha : a.Perm T) : IsWayR (R ++ [T]) (o ++ a) := by
  induction h with
  | nil =>
    have := IsWayR.cons ha .nil
    rw [List.append_nil] at this
    exact this
  | cons p _ ih =>
    rw [List.cons_append, List.append_assoc]
    exact .cons p ih
theorem isWayR_split : ∀ {R : List (List Nat)} {T o : List Nat}, IsWayR (R ++ [T]) o → ∃ o' a, o = o' ++ a ∧ IsWayR R o' ∧ a.Perm T
  | [], T, o, h => by
    cases h with
    | cons p q =>
      cases q
      exact ⟨[], _, by simp, .nil, p⟩
  | U :: R, T, o, h => by
    cases h with
    | cons p q =>
      obtain ⟨o', a, rfl, h1, h2⟩ := isWayR_split q
      exact ⟨_ ++ o', a, by rw [List.append_assoc], .cons p h1, h2⟩
theorem isWay_iff : ∀ {Ts : List (List Nat)} {o : List Nat}, IsWay Ts o ↔ IsWayR Ts.reverse o
  | [], o => by
    constructor
    · intro h; cases h; exact .nil
    · intro h; cases h; exact .nil
  | T :: Ts, o => by
    rw [List.reverse_cons]
    constructor
    · intro h
      cases h with
      | cons h1 h2 => exact isWayR_snoc (isWay_iff.mp h1) h2
    · intro h
      obtain ⟨o', a, rfl, h1, h2⟩ := isWayR_split h
      exact .cons (isWay_iff.mpr h1) h2
theorem mem_ways {Ts : List (List Nat)} {o : List Nat} : o ∈ waysL Ts.reverse ↔ IsWay Ts o := mem_waysL.trans isWay_iff.symm
/-! ### they stand in order -/
theorem lt_append_left {a : List Nat} {x y : List Nat} (h : x < y) : a ++ x < a ++ y := by
  induction a with
  | nil => exact h
  | cons b a ih => exact List.cons_lt_cons_iff.mpr (.inr ⟨rfl, ih⟩)
theorem lt_append_right : ∀ {a b : List Nat} (x y : List Nat), a.length = b.length → a < b → a ++ x < b ++ y
  | [], [], _, _, _, h => absurd h (List.lt_irrefl _)
  | [], _ :: _, _, _, hl, _ => by simp at hl
  | _ :: _, [], _, _, hl, _ => by simp at hl
  | c :: a, d :: b, x, y, hl, h => by
    rw [List.cons_append, List.cons_append]
    rcases List.cons_lt_cons_iff.mp h with h2 | ⟨rfl, h2⟩
    · exact List.cons_lt_cons_iff.mpr (.inl h2)
    · exact List.cons_lt_cons_iff.mpr (.inr ⟨rfl, lt_append_right x y (by simpa using hl) (by assumption)⟩)
theorem ordersN_up : ∀ (n : Nat) (xs : List Nat), xs.length = n → xs.Pairwise (· < ·) → (ordersN n xs).Pairwise (· < ·)
  | 0, _, _, _ => by unfold ordersN; exact List.pairwise_singleton _ _
  | n + 1, xs, hx, hi => by
    unfold ordersN
    rw [List.pairwise_flatMap]
    constructor
    · intro i hi2
      rw [List.mem_range] at hi2
      rw [List.pairwise_map]
      have hl : (xs.eraseIdx i).length = n := by rw [List.length_eraseIdx, if_pos hi2]; omega
      exact (ordersN_up n _ hl (hi.sublist (List.eraseIdx_sublist _ _))).imp fun h => List.cons_lt_cons_iff.mpr (.inr ⟨rfl, h⟩)
    · have := List.pairwise_lt_range (n := xs.length)
      refine (List.Pairwise.and_mem.mp this).imp ?_
      rintro i j ⟨hi1, hj1, hij⟩ x hx1 y hy1
      rw [List.mem_range] at hi1 hj1
      rw [List.mem_map] at hx1 hy1
      obtain ⟨x', _, rfl⟩ := hx1
      obtain ⟨y', _, rfl⟩ := hy1
      refine List.cons_lt_cons_iff.mpr (.inl ?_)
      rw [List.getD_eq_getElem?_getD, List.getElem?_eq_getElem hi1, List.getD_eq_getElem?_getD, List.getElem?_eq_getElem hj1]
      exact (List.pairwise_iff_getElem.mp hi) i j hi1 hj1 hij
theorem waysL_up : ∀ {R : List (List Nat)}, (∀ T ∈ R, T.Pairwise (· < ·)) → (waysL R).Pairwise (· < ·)
  | [], _ => by unfold waysL; exact List.pairwise_singleton _ _
  | T :: R, h => by
    unfold waysL
    rw [List.pairwise_flatMap]
    constructor
    · intro a _
      rw [List.pairwise_map]
      exact (waysL_up fun U hU => h U (List.mem_cons_of_mem _ hU)).imp fun q => lt_append_left q
    · refine (List.Pairwise.and_mem.mp (ordersN_up _ T rfl (h T List.mem_cons_self))).imp ?_
      rintro a b ⟨ha, hb, hab⟩ x hx y hy
      rw [List.mem_map] at hx hy
      obtain ⟨x', _, rfl⟩ := hx
      obtain ⟨y', _, rfl⟩ := hy
      have l1 := (mem_orders.mp ha).length_eq
      have l2 := (mem_orders.mp hb).length_eq
      exact lt_append_right _ _ (l1.trans l2.symm) hab
/-! ### the list by the layers, as a loop makes it -/
theorem foldl_ways : ∀ (R : List (List Nat)) (F : List (List Nat)), R.foldl (fun F T => F.flatMap fun l => (orders T).map (l ++ ·)) F = F.flatMap fun l => (waysL R).map (l ++ ·)
  | [], F => by
    unfold waysL
    simp
  | T :: R, F => by
    rw [List.foldl_cons, foldl_ways R, waysL_cons, List.flatMap_assoc]
    congr 1
    funext l
    rw [List.flatMap_map, List.map_flatMap]
    congr 1
    funext a
    rw [List.map_map]
    congr 1
    funext b
    simp
/-! ### the place of a way, the way at a place -/
def unrIn : Nat → List Nat → Nat → Nat → List Nat → List Nat × Nat × Nat
  | 0, _, i, W, f => (f, i, W)
  | n + 1, left, i, W, f => unrIn n (left.eraseIdx (i / (W / left.length))) (i % (W / left.length)) (W / left.length) (f ++ [left.getD (i / (W / left.length)) 0])
def unr : List (List Nat) → Nat → Nat → List Nat → List Nat
  | [], _, _, f => f
  | T :: R, i, W, f => unr R (unrIn T.length T i W f).2.1 (unrIn T.length T i W f).2.2 (unrIn T.length T i W f).1
theorem unrIn_ok : ∀ (n : Nat) (left : List Nat) (i V : Nat) (f : List Nat), left.length = n → 0 < V → i < fct n * V → ∃ b, (ordersN n left)[i / V]? = some b ∧ unrIn n left i (fct n * V) f = (f ++ b, i % V, V)
  | 0, left, i, V, f, hl, hV, hi => by
    have e : fct 0 * V = V := Nat.one_mul V
    rw [e] at hi ⊢
    refine ⟨[], ?_, ?_⟩
    · rw [Nat.div_eq_of_lt hi]; rfl
    · rw [Nat.mod_eq_of_lt hi, List.append_nil]; rfl
  | n + 1, left, i, V, f, hl, hV, hi => by
    have e1 : fct (n + 1) * V / left.length = fct n * V := by
      rw [hl]
      show (n + 1) * fct n * V / (n + 1) = fct n * V
      rw [Nat.mul_assoc, Nat.mul_div_cancel_left _ (Nat.succ_pos n)]
    have hd : i / (fct n * V) < left.length := by
      rw [hl]
      apply Nat.div_lt_of_lt_mul
      have : fct (n + 1) * V = fct n * V * (n + 1) := by
        show (n + 1) * fct n * V = _
        rw [Nat.mul_assoc, Nat.mul_comm]
      rw [← this]
      exact hi
    unfold unrIn
    rw [e1]
    have hle : (left.eraseIdx (i / (fct n * V))).length = n := by rw [List.length_eraseIdx, if_pos hd]; omega
    obtain ⟨b, hb, e2⟩ := unrIn_ok n (left.eraseIdx (i / (fct n * V))) (i % (fct n * V)) V (f ++ [left.getD (i / (fct n * V)) 0]) hle hV (Nat.mod_lt _ (Nat.mul_pos (fct_pos n) hV))
    have q1 : i / V / fct n = i / (fct n * V) := by rw [Nat.div_div_eq_div_mul, Nat.mul_comm]
    have q2 : i % (fct n * V) / V = i / V % fct n := by rw [Nat.mul_comm]; exact Nat.mod_mul_right_div_self _ _ _
    have q3 : i % (fct n * V) % V = i % V := Nat.mod_mul_left_mod _ _ _
    refine ⟨left.getD (i / (fct n * V)) 0 :: b, ?_, ?_⟩
    · rw [← q1]
      refine ordersN_at hl ?_ ?_
      · exact Nat.div_lt_of_lt_mul (by rw [Nat.mul_comm]; exact hi)
      · rw [q1, ← q2]; exact hb
    · rw [e2, q3]
      simp
theorem unr_ok : ∀ (R : List (List Nat)) (i : Nat) (f : List Nat), i < wn R → ∃ b, (waysL R)[i]? = some b ∧ unr R i (wn R) f = f ++ b
  | [], i, f, hi => by
    have : i = 0 := by unfold wn at hi; omega
    subst this
    exact ⟨[], rfl, by simp [unr]⟩
  | T :: R, i, f, hi => by
    unfold wn at hi
    obtain ⟨a, ha, e⟩ := unrIn_ok T.length T i (wn R) f rfl (wn_pos R) hi
    obtain ⟨b, hb, e2⟩ := unr_ok R (i % wn R) (f ++ a) (Nat.mod_lt _ (wn_pos R))
    refine ⟨a ++ b, ?_, ?_⟩
    · rw [waysL_cons]
      refine flatMap_at (wn_pos R) (a := a) ?_ ha ?_
      · intro x _; rw [List.length_map, waysL_len]
      · rw [List.getElem?_map, hb]; rfl
    · rw [wn_cons]
      unfold unr
      rw [e]
      show unr R (i % wn R) (wn R) (f ++ a) = _
      rw [e2, List.append_assoc]
def rkIn (v : List Nat) : Nat → List Nat → Nat → Nat → Nat
  | 0, _, _, a => a
  | n + 1, left, t, a => rkIn v n (left.erase (v.getD t 0)) (t + 1) (a * left.length + left.idxOf (v.getD t 0))
def rk (v : List Nat) : List (List Nat) → Nat → Nat → Nat
  | [], _, a => a
  | T :: R, t, a => rk v R (t + T.length) (rkIn v T.length T t a)
theorem rkIn_ok (v : List Nat) : ∀ (n : Nat) (left : List Nat) (t a q : Nat) (b : List Nat), left.length = n → left.Nodup → (ordersN n left)[q]? = some b → (∀ k x, b[k]? = some x → v[t + k]? = some x) → rkIn v n left t a = a * fct n + q
  | 0, left, t, a, q, b, hl, hn, hb, hv => by
    have : q = 0 := by
      have := (List.getElem?_eq_some_iff.mp hb).1
      unfold ordersN at this
      simp at this
      exact this
    subst this
    unfold rkIn fct
    omega
  | n + 1, left, t, a, q, b, hl, hn, hb, hv => by
    have hq : q < fct (n + 1) := by
      have := (List.getElem?_eq_some_iff.mp hb).1
      rw [ordersN_len _ _ hl] at this
      exact this
    have hd : q / fct n < left.length := by
      rw [hl]
      exact Nat.div_lt_of_lt_mul (by rw [Nat.mul_comm]; exact hq)
    have hle : (left.eraseIdx (q / fct n)).length = n := by rw [List.length_eraseIdx, if_pos hd]; omega
    have hm : q % fct n < (ordersN n (left.eraseIdx (q / fct n))).length := by
      rw [ordersN_len _ _ hle]; exact Nat.mod_lt _ (fct_pos n)
    have e := ordersN_at hl hq (List.getElem?_eq_getElem hm)
    rw [hb] at e
    injection e with e
    subst e
    have hg : left.getD (q / fct n) 0 = left[q / fct n] := by
      rw [List.getD_eq_getElem?_getD, List.getElem?_eq_getElem hd, Option.getD_some]
    have v0 : v.getD t 0 = left[q / fct n] := by
      have := hv 0 _ rfl
      rw [Nat.add_zero] at this
      rw [List.getD_eq_getElem?_getD, this, Option.getD_some, hg]
    have hix : left.idxOf left[q / fct n] = q / fct n := hn.idxOf_getElem _ hd
    unfold rkIn
    rw [v0, hix]
    have he : left.erase left[q / fct n] = left.eraseIdx (q / fct n) := by
      rw [List.erase_eq_eraseIdx_of_idxOf hix]
    rw [he, rkIn_ok v n _ (t + 1) _ (q % fct n) _ hle (hn.sublist (List.eraseIdx_sublist _ _)) (List.getElem?_eq_getElem hm) (fun k x hk => by
      have := hv (k + 1) x (by simpa using hk)
      rw [Nat.add_assoc, Nat.add_comm 1 k]
      exact this)]
    rw [hl]
    show (a * (n + 1) + q / fct n) * fct n + q % fct n = a * ((n + 1) * fct n) + q
    have := Nat.div_add_mod q (fct n)
    rw [Nat.add_mul, Nat.mul_assoc, Nat.add_assoc, Nat.mul_comm (q / fct n), this]
theorem rk_ok (v : List Nat) : ∀ (R : List (List Nat)) (t a i : Nat) (b : List Nat), (∀ T ∈ R, T.Nodup) → (waysL R)[i]? = some b → (∀ k x, b[k]? = some x → v[t + k]? = some x) → rk v R t a = a * wn R + i
  | [], t, a, i, b, _, hb, _ => by
    have : i = 0 := by
      have := (List.getElem?_eq_some_iff.mp hb).1
      unfold waysL at this
      simp at this
      exact this
    subst this
    unfold rk wn
    omega
  | T :: R, t, a, i, b, hn, hb, hv => by
    have hi : i < fct T.length * wn R := by
      have := (List.getElem?_eq_some_iff.mp hb).1
      rw [waysL_len] at this
      exact this
    have h1 : i / wn R < (orders T).length := by
      rw [orders_len]
      exact Nat.div_lt_of_lt_mul (by rw [Nat.mul_comm]; exact hi)
    have h2 : i % wn R < (waysL R).length := by rw [waysL_len]; exact Nat.mod_lt _ (wn_pos R)
    have e : (waysL (T :: R))[i]? = some ((orders T)[i / wn R] ++ (waysL R)[i % wn R]) := by
      rw [waysL_cons]
      refine flatMap_at (wn_pos R) (a := (orders T)[i / wn R]) ?_ (List.getElem?_eq_getElem h1) ?_
      · intro x _; rw [List.length_map, waysL_len]
      · rw [List.getElem?_map, List.getElem?_eq_getElem h2]; rfl
    rw [hb] at e
    injection e with e
    subst e
    have hlen : (orders T)[i / wn R].length = T.length := (mem_orders.mp (List.getElem_mem h1)).length_eq
    unfold rk
    have h1' : i / wn R < (ordersN T.length T).length := h1
    rw [rkIn_ok v T.length T t a (i / wn R) ((orders T)[i / wn R]) rfl (hn T List.mem_cons_self) (List.getElem?_eq_getElem h1') (fun k x hk => hv k x (by
      have h9 : k < ((orders T)[i / wn R]).length := (List.getElem?_eq_some_iff.mp hk).1
      exact (List.getElem?_append_left h9).trans hk))]
    rw [rk_ok v R (t + T.length) _ (i % wn R) _ (fun U hU => hn U (List.mem_cons_of_mem _ hU)) (List.getElem?_eq_getElem h2) (fun k x hk => by
      have := hv (T.length + k) x (by rw [List.getElem?_append_right (by omega), hlen, Nat.add_sub_cancel_left]; exact hk)
      rw [Nat.add_assoc]
      exact this)]
    have := Nat.div_add_mod i (wn R)
    rw [wn_cons, Nat.add_mul, Nat.mul_assoc, Nat.add_assoc, Nat.mul_comm (i / wn R), this]
/-! ### pictures -/
abbrev Pic := List (List Bool)
def cell (p : Pic) (i j : Nat) : Bool := (p.getD i []).getD j false
theorem getD_of {α : Type} {l : List α} {i : Nat} {d x : α} (h : l[i]? = some x) : l.getD i d = x := by
  rw [List.getD_eq_getElem?_getD, h]; rfl
theorem cell_of {p : Pic} {i j : Nat} {r : List Bool} {b : Bool} (h1 : p[i]? = some r) (h2 : r[j]? = some b) : cell p i j = b := by
  unfold cell; rw [getD_of h1, getD_of h2]
theorem not_contains {xs : List Nat} {x : Nat} : xs.contains x = false ↔ x ∉ xs := by
  rw [← Bool.not_eq_true, List.contains_iff_mem]
structure Wf (h w : Nat) (p : Pic) : Prop where
  len : p.length = h
  row : ∀ r ∈ p, r.length = w
def tab (h w : Nat) (f : Nat → Nat → Bool) : Pic := (List.range h).map fun i => (List.range w).map fun j => f i j
theorem tab_wf (h w : Nat) (f : Nat → Nat → Bool) : Wf h w (tab h w f) where
  len := by unfold tab; simp
  row := fun r hr => by
    unfold tab at hr
    obtain ⟨i, _, rfl⟩ := List.mem_map.mp hr
    simp
theorem tab_cell {h w : Nat} {f : Nat → Nat → Bool} {i j : Nat} (hi : i < h) (hj : j < w) : cell (tab h w f) i j = f i j := by
  unfold cell tab
  simp [List.getD_eq_getElem?_getD, hi, hj]
theorem Wf.getRow {h w : Nat} {p : Pic} (W : Wf h w p) {i : Nat} (hi : i < h) : (p.getD i []).length = w := by
  have h1 : i < p.length := by rw [W.len]; exact hi
  rw [List.getD_eq_getElem?_getD, List.getElem?_eq_getElem h1, Option.getD_some]
  exact W.row _ (List.getElem_mem h1)
theorem Wf.ext {h w : Nat} {p q : Pic} (P : Wf h w p) (Q : Wf h w q) (e : ∀ i j, i < h → j < w → cell p i j = cell q i j) : p = q := by
  apply List.ext_getElem (by rw [P.len, Q.len])
  intro i h1 h2
  apply List.ext_getElem (by rw [P.row _ (List.getElem_mem h1), Q.row _ (List.getElem_mem h2)])
  intro j h3 h4
  have := e i j (by rw [← P.len]; exact h1) (by rw [← P.row _ (List.getElem_mem h1)]; exact h3)
  rw [cell_of (List.getElem?_eq_getElem h1) (List.getElem?_eq_getElem h3), cell_of (List.getElem?_eq_getElem h2) (List.getElem?_eq_getElem h4)] at this
  exact this
theorem Wf.tab_eq {h w : Nat} {p : Pic} (P : Wf h w p) : tab h w (cell p) = p := (tab_wf h w _).ext P fun _ _ hi hj => tab_cell hi hj
/-- a line painted -/
def paint (h w : Nat) (p : Pic) (l : Nat) : Pic := tab h w fun i j => stp h i j (cell p i j) l
def paintAll (h w : Nat) (p : Pic) (d : List Nat) : Pic := d.foldl (paint h w) p
theorem paintAll_wf {h w : Nat} : ∀ (d : List Nat) {p : Pic}, Wf h w p → Wf h w (paintAll h w p d)
  | [], _, P => P
  | l :: d, p, _ => paintAll_wf d (tab_wf h w _)
theorem paintAll_cell {h w : Nat} : ∀ (d : List Nat) {p : Pic} {i j : Nat}, i < h → j < w → cell (paintAll h w p d) i j = fin h d (cell p i j) i j
  | [], _, _, _, _, _ => rfl
  | l :: d, p, i, j, hi, hj => by
    show cell (paintAll h w (paint h w p l) d) i j = _
    rw [paintAll_cell d hi hj, fin_cons]
    unfold paint
    rw [tab_cell hi hj]
theorem paintAll_iff {h w : Nat} {s g : Pic} (S : Wf h w s) (G : Wf h w g) (d : List Nat) : paintAll h w s d = g ↔ Makes h w (cell s) (cell g) d := by
  constructor
  · intro e r j hr hj
    rw [← e, paintAll_cell d hr hj]
  · intro M
    exact (paintAll_wf d S).ext G fun i j hi hj => by rw [paintAll_cell d hi hj]; exact M i j hi hj
/-- a row painted, by slices -/
theorem paint_row {h w : Nat} {p : Pic} (P : Wf h w p) {l : Nat} (hl : l < h) : p.take l ++ [List.replicate w true] ++ p.drop (l + 1) = paint h w p l := by
  have hp : l < p.length := by rw [P.len]; exact hl
  have e0 : p.take l ++ [List.replicate w true] ++ p.drop (l + 1) = p.set l (List.replicate w true) := by
    rw [List.set_eq_take_append_cons_drop, if_pos hp, List.append_assoc]; rfl
  rw [e0]
  have W : Wf h w (p.set l (List.replicate w true)) := ⟨by rw [List.length_set, P.len], fun r hr => by
    rcases List.mem_or_eq_of_mem_set hr with q | q
    · exact P.row r q
    · rw [q, List.length_replicate]⟩
  refine W.ext (tab_wf h w _) fun i j hi hj => ?_
  unfold paint
  rw [tab_cell hi hj]
  unfold stp
  by_cases e : l = i
  · subst e
    rw [if_pos rfl]
    exact cell_of (List.getElem?_set_self hp) (by simp [hj])
  · rw [if_neg e, if_neg (by omega)]
    unfold cell
    rw [List.getD_eq_getElem?_getD (l := p.set l _), List.getElem?_set_ne e, ← List.getD_eq_getElem?_getD]
theorem paint_col {h w : Nat} {p : Pic} (P : Wf h w p) {l : Nat} (hl : ¬ l < h) (hlw : l < h + w) : (p.map fun r => r.take (l - h) ++ [false] ++ r.drop (l - h + 1)) = paint h w p l := by
  have e0 : (p.map fun r => r.take (l - h) ++ [false] ++ r.drop (l - h + 1)) = p.map fun r => r.set (l - h) false := by
    apply List.map_congr_left
    intro r hr
    have : l - h < r.length := by rw [P.row r hr]; omega
    rw [List.set_eq_take_append_cons_drop, if_pos this, List.append_assoc]; rfl
  rw [e0]
  have W : Wf h w (p.map fun r => r.set (l - h) false) := ⟨by rw [List.length_map, P.len], fun r hr => by
    obtain ⟨q, hq, rfl⟩ := List.mem_map.mp hr
    rw [List.length_set, P.row q hq]⟩
  refine W.ext (tab_wf h w _) fun i j hi hj => ?_
  unfold paint
  rw [tab_cell hi hj]
  have hp : i < p.length := by rw [P.len]; exact hi
  have hr : (p[i]).length = w := P.row _ (List.getElem_mem hp)
  have hj2 : j < (p[i]).length := by omega
  rw [cell_of (List.getElem?_eq_getElem hp) (List.getElem?_eq_getElem hj2)]
  unfold stp
  rw [if_neg (by omega)]
  by_cases e : l = h + j
  · rw [if_pos e]
    subst e
    refine cell_of (r := (p[i]).set (h + j - h) false) (by rw [List.getElem?_map, List.getElem?_eq_getElem hp]; rfl) ?_
    rw [Nat.add_sub_cancel_left, List.getElem?_set_self (by omega)]
  · rw [if_neg e]
    refine cell_of (r := (p[i]).set (l - h) false) (by rw [List.getElem?_map, List.getElem?_eq_getElem hp]; rfl) ?_
    rw [List.getElem?_set_ne (by omega), List.getElem?_eq_getElem hj2]
/-! ### cells at which two pictures differ -/
def diff (h w : Nat) (s g : Pic) : List (Nat × Nat) := (List.range h).flatMap fun i => ((List.range w).filter fun j => cell g i j != cell s i j).map fun j => (i, j)
theorem mem_diff {h w : Nat} {s g : Pic} {i j : Nat} : (i, j) ∈ diff h w s g ↔ i < h ∧ j < w ∧ cell s i j ≠ cell g i j := by
  unfold diff
  rw [List.mem_flatMap]
  constructor
  · rintro ⟨k, hk, hm⟩
    rw [List.mem_range] at hk
    obtain ⟨l, hl, e⟩ := List.mem_map.mp hm
    cases e
    rw [List.mem_filter, List.mem_range] at hl
    exact ⟨hk, hl.1, fun e => by have := hl.2; rw [e] at this; simp at this⟩
  · rintro ⟨a, b, c⟩
    refine ⟨i, List.mem_range.mpr a, List.mem_map.mpr ⟨j, List.mem_filter.mpr ⟨List.mem_range.mpr b, ?_⟩, rfl⟩⟩
    rw [bne_iff_ne]
    exact fun e => c e.symm
theorem diff_stage (h w : Nat) (s g : Pic) : Stage h w (cell s) (cell g) (List.range (h + w)) (diff h w s g) where
  bd := fun l hl => List.mem_range.mp hl
  inc := List.pairwise_lt_range
  cel := fun r j => by
    rw [mem_diff, List.mem_range, List.mem_range]
    constructor
    · rintro ⟨a, b, c⟩; exact ⟨a, by omega, by omega, c⟩
    · rintro ⟨a, b, c, d⟩; exact ⟨a, by omega, d⟩
def layersOf (h w : Nat) (g : Pic) : List (List Nat) := layLoop (lead h w (cell g)) (h + w) (List.range (h + w))
theorem layersOf_lay (h w : Nat) (g : Pic) : Lay (lead h w (cell g)) (List.range (h + w)) (layersOf h w g) := layLoop_lay _ _ (by rw [List.length_range]; exact Nat.le_refl _)
/-- the program's answer -/
def toldOf (h w : Nat) (s g : Pic) : Option (List (List Nat)) := least h (layersOf h w g) (diff h w s g)
theorem told_ok {h w : Nat} {s g : Pic} {Ts : List (List Nat)} (e : toldOf h w s g = some Ts) : Told h w (cell s) (cell g) (List.range (h + w)) (diff h w s g) Ts := told_of (layersOf_lay h w g) e
/-! ### the law's own layers -/
def fullR (c : Nat → Nat → Bool) (rows cols : List Nat) : List Nat := rows.filter fun i => (cols.filter fun j => !c i j).isEmpty
def emptyC (c : Nat → Nat → Bool) (rows cols : List Nat) : List Nat := cols.filter fun j => (rows.filter fun i => c i j).isEmpty
def lawLay (h : Nat) (c : Nat → Nat → Bool) : Nat → List Nat → List Nat → List (List Nat)
  | 0, _, _ => []
  | n + 1, rows, cols =>
    if fullR c rows cols ≠ [] then fullR c rows cols :: lawLay h c n (minus rows (fullR c rows cols)) cols
    else if emptyC c rows cols ≠ [] then (emptyC c rows cols).map (h + ·) :: lawLay h c n rows (minus cols (emptyC c rows cols))
    else lawLay h c n rows cols
section
variable {h w : Nat} {c : Nat → Nat → Bool}
theorem step_split {rows cols : List Nat} (hr : ∀ i ∈ rows, i < h) (hc : ∀ j ∈ cols, j < w) :
    layStep (lead h w c) (rows ++ cols.map (h + ·)) = fullR c rows cols ++ (emptyC c rows cols).map (h + ·) := by
  unfold layStep
  rw [List.filter_append]
  congr 1
  · unfold fullR
    apply List.filter_congr
    intro i hi
    rw [Bool.eq_iff_iff]
    simp only [Bool.not_eq_true', List.any_eq_false, List.isEmpty_iff, List.filter_eq_nil_iff]
    constructor
    · intro z j hj e
      have e2 : c i j = false := by simpa using e
      have := z (h + j) ((lead_row (hr i hi)).mpr ⟨j, hc j hj, rfl, e2⟩)
      apply this
      rw [List.contains_iff_mem, List.mem_append]
      exact .inr (List.mem_map.mpr ⟨j, hj, rfl⟩)
    · intro z m hm e
      obtain ⟨j, hj, rfl, e2⟩ := (lead_row (hr i hi)).mp hm
      rw [List.contains_iff_mem, List.mem_append] at e
      rcases e with e | e
      · have := hr _ e; omega
      · obtain ⟨k, hk, e3⟩ := List.mem_map.mp e
        have : k = j := by omega
        subst this
        exact z k hk (by simpa using e2)
  · unfold emptyC
    rw [List.filter_map]
    congr 1
    apply List.filter_congr
    intro j hj
    rw [Bool.eq_iff_iff]
    simp only [Function.comp, Bool.not_eq_true', List.any_eq_false, List.isEmpty_iff, List.filter_eq_nil_iff]
    have hn : ¬ h + j < h := by omega
    constructor
    · intro z i hi e
      have := z i ((lead_col hn).mpr ⟨hr i hi, by rw [Nat.add_sub_cancel_left]; exact e⟩)
      apply this
      rw [List.contains_iff_mem, List.mem_append]
      exact .inl hi
    · intro z m hm e
      obtain ⟨h1, h2⟩ := (lead_col hn).mp hm
      rw [Nat.add_sub_cancel_left] at h2
      rw [List.contains_iff_mem, List.mem_append] at e
      rcases e with e | e
      · exact z m e h2
      · obtain ⟨k, hk, e3⟩ := List.mem_map.mp e
        omega
theorem layLoop_nil {ld : Nat → List Nat} {left : List Nat} (e : layStep ld left = []) : ∀ n, layLoop ld n left = []
  | 0 => rfl
  | n + 1 => by unfold layLoop; rw [if_pos e]
theorem lawLay_eq : ∀ (n : Nat) (rows cols : List Nat), (∀ i ∈ rows, i < h) → (∀ j ∈ cols, j < w) → lawLay h c n rows cols = layLoop (lead h w c) n (rows ++ cols.map (h + ·))
  | 0, _, _, _, _ => rfl
  | n + 1, rows, cols, hr, hc => by
    have e := step_split (c := c) hr hc
    unfold lawLay layLoop
    by_cases h1 : fullR c rows cols = []
    · rw [if_neg (by simpa using h1)]
      rw [h1, List.nil_append] at e
      by_cases h2 : emptyC c rows cols = []
      · rw [if_neg (by simpa using h2)]
        rw [h2, List.map_nil] at e
        rw [if_pos e, lawLay_eq n rows cols hr hc, layLoop_nil e]
      · rw [if_pos h2, if_neg (by rw [e]; simpa using h2), e]
        congr 1
        rw [lawLay_eq n rows (minus cols (emptyC c rows cols)) hr (fun j hj => hc j (mem_minus.mp hj).1)]
        congr 1
        unfold minus
        rw [List.filter_append]
        congr 1
        · symm
          rw [List.filter_eq_self]
          intro i hi
          simp only [Bool.not_eq_true', not_contains, List.mem_map]
          rintro ⟨k, _, e3⟩
          have := hr i hi
          omega
        · rw [List.filter_map]
          congr 1
          apply List.filter_congr
          intro j _
          rw [Bool.eq_iff_iff]
          simp only [Function.comp, Bool.not_eq_true', not_contains, List.mem_map]
          constructor
          · rintro z ⟨k, hk, e3⟩
            have : k = j := by omega
            subst this
            exact z hk
          · exact fun z q => z ⟨j, q, rfl⟩
    · rw [if_pos h1]
      have h2 : emptyC c rows cols = [] := by
        apply Classical.byContradiction
        intro z
        obtain ⟨i, hi⟩ := List.exists_mem_of_ne_nil _ h1
        obtain ⟨j, hj⟩ := List.exists_mem_of_ne_nil _ z
        unfold fullR at hi
        unfold emptyC at hj
        rw [List.mem_filter, List.isEmpty_iff, List.filter_eq_nil_iff] at hi hj
        have a := hi.2 j hj.1
        have b := hj.2 i hi.1
        simp at a b
        rw [a] at b
        cases b
      rw [h2, List.map_nil, List.append_nil] at e
      rw [if_neg (by rw [e]; exact h1), e]
      congr 1
      rw [lawLay_eq n (minus rows (fullR c rows cols)) cols (fun i hi => hr i (mem_minus.mp hi).1) hc]
      congr 1
      unfold minus
      rw [List.filter_append]
      congr 1
      symm
      rw [List.filter_eq_self]
      intro m hm
      simp only [Bool.not_eq_true', not_contains]
      intro q
      obtain ⟨k, _, rfl⟩ := List.mem_map.mp hm
      unfold fullR at q
      have := hr _ (List.mem_filter.mp q).1
      omega
end
theorem lawLay_layers (h w : Nat) (g : Pic) : lawLay h (cell g) (h + w) (List.range h) (List.range w) = layersOf h w g := by
  rw [lawLay_eq (w := w) _ _ _ (fun i hi => List.mem_range.mp hi) (fun i hi => List.mem_range.mp hi)]
  unfold layersOf
  congr 1
  rw [List.range_add]
/-! ### the law's own least set; the program's -/
def lawLeast (h : Nat) : List (List Nat) → List (Nat × Nat) → List Nat → List (Nat × Nat) × List Nat
  | [], left, found => (left, found)
  | L :: Ls, left, found => if left = [] then (left, found) else
    lawLeast h Ls (rest h left L) (found ++ if rest h left L = [] then needed h left L else L)
theorem lawLeast_nil {h : Nat} : ∀ (Ls : List (List Nat)) (found : List Nat), lawLeast h Ls [] found = ([], found)
  | [], _ => rfl
  | _ :: _, _ => rfl
theorem lawLeast_some {h : Nat} : ∀ (Ls : List (List Nat)) (left : List (Nat × Nat)) (found : List Nat) (Ts : List (List Nat)), least h Ls left = some Ts → lawLeast h Ls left found = ([], found ++ Ts.flatten)
  | Ls, [], found, Ts, e => by
    rw [least_nil] at e
    cases e
    rw [lawLeast_nil]
    simp
  | [], x :: r, found, Ts, e => by cases e
  | L :: Ls, x :: r, found, Ts, e => by
    rw [least_cons (by simp)] at e
    unfold lawLeast
    rw [if_neg (by simp)]
    by_cases q : rest h (x :: r) L = []
    · rw [if_pos q] at e
      cases e
      rw [q, if_pos rfl, lawLeast_nil]
      simp
    · rw [if_neg q] at e
      rw [if_neg q]
      cases e2 : least h Ls (rest h (x :: r) L) with
      | none => rw [e2] at e; cases e
      | some Us =>
        rw [e2] at e
        cases e
        rw [lawLeast_some Ls _ _ Us e2]
        simp
theorem lawLeast_none {h : Nat} : ∀ (Ls : List (List Nat)) (left : List (Nat × Nat)) (found : List Nat), least h Ls left = none → (lawLeast h Ls left found).1 ≠ []
  | Ls, [], found, e => by rw [least_nil] at e; cases e
  | [], x :: r, found, e => by simp [lawLeast]
  | L :: Ls, x :: r, found, e => by
    rw [least_cons (by simp)] at e
    unfold lawLeast
    rw [if_neg (by simp)]
    by_cases q : rest h (x :: r) L = []
    · rw [if_pos q] at e
      cases e
    · rw [if_neg q] at e
      cases e2 : least h Ls (rest h (x :: r) L) with
      | none => exact lawLeast_none Ls _ _ e2
      | some Us => rw [e2] at e; cases e
def trimmed : List (List Nat × List Nat) → List (List Nat)
  | [] => []
  | [x] => [x.2]
  | x :: y :: r => x.1 :: trimmed (y :: r)
theorem trimmed_snoc : ∀ (f : List (List Nat × List Nat)) (x : List Nat × List Nat), trimmed (f ++ [x]) = f.map (·.1) ++ [x.2]
  | [], _ => rfl
  | [y], x => rfl
  | y :: z :: r, x => by
    show y.1 :: trimmed (z :: r ++ [x]) = _
    rw [trimmed_snoc (z :: r) x]
    rfl
def leastP (h : Nat) : List (List Nat) → List (Nat × Nat) → List (List Nat × List Nat) → Option (List (List Nat))
  | [], left, found => if left = [] then some (trimmed found) else none
  | L :: Ls, left, found => if left = [] then some (trimmed found) else leastP h Ls (rest h left L) (found ++ [(L, needed h left L)])
theorem leastP_nil {h : Nat} (Ls : List (List Nat)) (found : List (List Nat × List Nat)) : leastP h Ls [] found = some (trimmed found) := by
  cases Ls <;> simp [leastP]
theorem leastP_eq {h : Nat} : ∀ (Ls : List (List Nat)) (left : List (Nat × Nat)) (found : List (List Nat × List Nat)), left ≠ [] → leastP h Ls left found = (least h Ls left).map (found.map (·.1) ++ ·)
  | _, [], _, hn => absurd rfl hn
  | [], x :: r, _, _ => by simp [leastP, least]
  | L :: Ls, x :: r, found, hn => by
    rw [least_cons hn]
    unfold leastP
    rw [if_neg hn]
    by_cases q : rest h (x :: r) L = []
    · rw [if_pos q, q, leastP_nil, trimmed_snoc]
      rfl
    · rw [if_neg q, leastP_eq Ls _ _ q]
      cases least h Ls (rest h (x :: r) L) with
      | none => rfl
      | some Us => simp
theorem leastP_least {h : Nat} (Ls : List (List Nat)) (left : List (Nat × Nat)) : leastP h Ls left [] = least h Ls left := by
  by_cases e : left = []
  · subst e
    rw [leastP_nil, least_nil]
    rfl
  · rw [leastP_eq _ _ _ e]
    cases least h Ls left <;> simp
/-! ### all orders, as the law lists them -/
def insAll (x : Nat) (t : List Nat) : List (List Nat) := (List.range (t.length + 1)).map fun i => t.take i ++ [x] ++ t.drop i
def lawOrders (L : List Nat) : List (List Nat) := L.foldl (fun F x => F.flatMap (insAll x)) [[]]
theorem mem_insAll {x : Nat} {t o : List Nat} : o ∈ insAll x t ↔ ∃ i, i ≤ t.length ∧ o = t.take i ++ x :: t.drop i := by
  unfold insAll
  rw [List.mem_map]
  constructor
  · rintro ⟨i, hi, rfl⟩
    rw [List.mem_range] at hi
    exact ⟨i, by omega, by simp⟩
  · rintro ⟨i, hi, rfl⟩
    exact ⟨i, List.mem_range.mpr (by omega), by simp⟩
theorem mem_lawFold : ∀ (L : List Nat) (F : List (List Nat)) (o : List Nat), o ∈ L.foldl (fun F x => F.flatMap (insAll x)) F → ∃ t ∈ F, o.Perm (L ++ t)
  | [], F, o, h => ⟨o, h, List.Perm.refl _⟩
  | x :: L, F, o, h => by
    rw [List.foldl_cons] at h
    obtain ⟨t, ht, p⟩ := mem_lawFold L _ o h
    obtain ⟨u, hu, hi⟩ := List.mem_flatMap.mp ht
    obtain ⟨i, _, rfl⟩ := mem_insAll.mp hi
    refine ⟨u, hu, p.trans ?_⟩
    have q : (u.take i ++ x :: u.drop i).Perm (x :: u) := by
      have := List.perm_middle (a := x) (l₁ := u.take i) (l₂ := u.drop i)
      rw [List.take_append_drop] at this
      exact this
    exact (q.append_left L).trans List.perm_middle
theorem lawFold_mem : ∀ (L : List Nat) (F : List (List Nat)) (t o : List Nat), t ∈ F → o.Perm (L ++ t) → o.Nodup → o.filter (fun y => !L.contains y) = t → o ∈ L.foldl (fun F x => F.flatMap (insAll x)) F
  | [], F, t, o, ht, _, _, e => by
    have : o.filter (fun y => !([] : List Nat).contains y) = o := by
      rw [List.filter_eq_self]; intro _ _; rfl
    rw [this] at e
    rw [e]; exact ht
  | x :: L, F, t, o, ht, p, hn, e => by
    rw [List.foldl_cons]
    have hp : (x :: L ++ t).Nodup := p.nodup_iff.mp hn
    rw [List.cons_append, List.nodup_cons, List.mem_append] at hp
    have xL : x ∉ L := fun z => hp.1 (.inl z)
    have xt : x ∉ t := fun z => hp.1 (.inr z)
    have xo : x ∈ o := p.mem_iff.mpr List.mem_cons_self
    have hf : x ∈ o.filter (fun y => !L.contains y) := List.mem_filter.mpr ⟨xo, by simpa using xL⟩
    have hnf : (o.filter (fun y => !L.contains y)).Nodup := hn.filter _
    refine lawFold_mem L _ (o.filter (fun y => !L.contains y)) o ?_ ?_ hn rfl
    · refine List.mem_flatMap.mpr ⟨t, ht, mem_insAll.mpr ?_⟩
      obtain ⟨a, b, eab⟩ := List.append_of_mem hf
      rw [eab] at hnf
      rw [List.nodup_append] at hnf
      have xb := (List.nodup_cons.mp hnf.2.1).1
      have xa : x ∉ a := fun z => hnf.2.2 x z x List.mem_cons_self rfl
      have e2 : t = a ++ b := by
        have : o.filter (fun y => !(x :: L).contains y) = (o.filter (fun y => !L.contains y)).filter (fun y => y != x) := by
          rw [List.filter_filter]
          apply List.filter_congr
          intro y _
          by_cases q : y = x
          · subst q; simp
          · by_cases r : y ∈ L <;> simp [q, r]
        rw [← e, this, eab, List.filter_append]
        congr 1
        · rw [List.filter_eq_self]
          intro y hy
          rw [bne_iff_ne]
          exact fun z => xa (by rw [← z]; exact hy)
        · rw [List.filter_cons_of_neg (by simp), List.filter_eq_self]
          intro y hy
          rw [bne_iff_ne]
          exact fun z => xb (by rw [← z]; exact hy)
      refine ⟨a.length, by rw [e2]; simp, ?_⟩
      rw [eab, e2]
      simp
    · refine perm_of_mem hn ?_ ?_
      · rw [List.nodup_append]
        have := hp.2
        rw [List.nodup_append] at this
        refine ⟨this.1, hn.filter _, ?_⟩
        intro y hy z hz e3
        subst e3
        have := (List.mem_filter.mp hz).2
        simp [hy] at this
      · intro y
        rw [List.mem_append, List.mem_filter]
        constructor
        · intro hy
          by_cases q : y ∈ L
          · exact .inl q
          · exact .inr ⟨hy, by simpa using q⟩
        · rintro (q | q)
          · exact p.mem_iff.mpr (List.mem_append_left _ (List.mem_cons_of_mem _ q))
          · exact q.1
theorem mem_lawOrders {L o : List Nat} (hL : L.Nodup) : o ∈ lawOrders L ↔ o.Perm L := by
  unfold lawOrders
  constructor
  · intro h
    obtain ⟨t, ht, p⟩ := mem_lawFold _ _ _ h
    rw [List.mem_singleton] at ht
    subst ht
    rw [List.append_nil] at p
    exact p
  · intro p
    refine lawFold_mem L [[]] [] o (List.mem_singleton.mpr rfl) (by rw [List.append_nil]; exact p) (p.nodup_iff.mpr hL) ?_
    rw [List.filter_eq_nil_iff]
    intro y hy
    simpa using p.mem_iff.mp hy
theorem erase_ins {x : Nat} {t : List Nat} {i : Nat} (hx : x ∉ t) : (t.take i ++ x :: t.drop i).erase x = t := by
  rw [List.erase_append_right _ (fun z => hx (List.mem_of_mem_take z)), List.erase_cons_head, List.take_append_drop]
theorem lawFold_nodup : ∀ (L : List Nat) (F : List (List Nat)), L.Nodup → F.Nodup → (∀ t ∈ F, ∀ x ∈ L, x ∉ t) → (L.foldl (fun F x => F.flatMap (insAll x)) F).Nodup
  | [], F, _, hF, _ => hF
  | x :: L, F, hL, hF, hd => by
    rw [List.foldl_cons]
    have hx : ∀ t ∈ F, x ∉ t := fun t ht => hd t ht x List.mem_cons_self
    refine lawFold_nodup L _ (List.nodup_cons.mp hL).2 ?_ ?_
    · rw [List.Nodup, List.pairwise_flatMap]
      constructor
      · intro t ht
        unfold insAll
        rw [List.pairwise_map]
        refine (List.Pairwise.and_mem.mp (List.nodup_range (n := t.length + 1))).imp ?_
        rintro i j ⟨hi, hj, hij⟩ e
        rw [List.mem_range] at hi hj
        apply hij
        have e1 : (t.take i ++ [x] ++ t.drop i).idxOf x = i := by
          rw [List.append_assoc, List.idxOf_append, if_neg (fun z => hx t ht (List.mem_of_mem_take z)), List.singleton_append, List.idxOf_cons_self, List.length_take]
          omega
        have e2 : (t.take j ++ [x] ++ t.drop j).idxOf x = j := by
          rw [List.append_assoc, List.idxOf_append, if_neg (fun z => hx t ht (List.mem_of_mem_take z)), List.singleton_append, List.idxOf_cons_self, List.length_take]
          omega
        rw [← e1, ← e2, e]
      · refine (List.Pairwise.and_mem.mp hF).imp ?_
        rintro t u ⟨ht, hu, htu⟩ a ha b hb e
        subst e
        obtain ⟨i, _, e1⟩ := mem_insAll.mp ha
        obtain ⟨j, _, e2⟩ := mem_insAll.mp hb
        apply htu
        rw [← erase_ins (i := i) (hx t ht), ← erase_ins (i := j) (hx u hu), ← e1, ← e2]
    · intro t ht y hy
      obtain ⟨u, hu, hi⟩ := List.mem_flatMap.mp ht
      obtain ⟨i, _, rfl⟩ := mem_insAll.mp hi
      intro z
      rw [List.mem_append, List.mem_cons] at z
      rcases z with z | rfl | z
      · exact hd u hu y (List.mem_cons_of_mem _ hy) (List.mem_of_mem_take z)
      · exact (List.nodup_cons.mp hL).1 hy
      · exact hd u hu y (List.mem_cons_of_mem _ hy) (List.mem_of_mem_drop z)
theorem lawOrders_nodup {L : List Nat} (hL : L.Nodup) : (lawOrders L).Nodup :=
  lawFold_nodup L [[]] hL (List.pairwise_singleton _ _) fun t ht x _ => by
    rw [List.mem_singleton] at ht
    subst ht
    simp
/-! ### sorted lists of lists -/
def up (p : List Nat) : List Int := p.map Int.ofNat
theorem up_lt : ∀ {p q : List Nat}, up p < up q ↔ p < q
  | [], [] => by simp [up]
  | [], _ :: _ => by simp [up]
  | _ :: _, [] => by simp [up]
  | a :: p, b :: q => by
    show (Int.ofNat a :: up p) < (Int.ofNat b :: up q) ↔ _
    rw [List.cons_lt_cons_iff, List.cons_lt_cons_iff, up_lt]
    constructor
    · rintro (h | ⟨h, h2⟩)
      · exact .inl (Int.ofNat_lt.mp h)
      · exact .inr ⟨Int.ofNat.inj h, h2⟩
    · rintro (h | ⟨h, h2⟩)
      · exact .inl (Int.ofNat_lt.mpr h)
      · exact .inr ⟨congrArg Int.ofNat h, h2⟩
theorem up_le {p q : List Nat} : up p ≤ up q ↔ p ≤ q := by
  rw [← List.not_lt, ← List.not_lt, up_lt]
def le2 (p q : List Nat) : Bool := decide (up p ≤ up q)
theorem le2_iff {p q : List Nat} : le2 p q = true ↔ p ≤ q := by
  unfold le2
  rw [decide_eq_true_iff, up_le]
theorem le2_trans : ∀ a b c : List Nat, le2 a b = true → le2 b c = true → le2 a c = true := fun a b c h1 h2 => by
  rw [le2_iff] at *
  exact List.le_trans h1 h2
theorem le2_total : ∀ a b : List Nat, (le2 a b || le2 b a) = true := fun a b => by
  rw [Bool.or_eq_true, le2_iff, le2_iff]
  exact List.le_total a b
/-- a list that stands in order is its own, and any arrangement's, sorted list -/
theorem sort_eq {xs ys : List (List Nat)} (p : xs.Perm ys) (h : ys.Pairwise (· < ·)) : xs.mergeSort le2 = ys := by
  refine List.Perm.eq_of_pairwise (le := fun a b => le2 a b = true) ?_ (List.pairwise_mergeSort le2_trans le2_total xs) (h.imp fun q => le2_iff.mpr (List.le_of_lt q)) ((List.mergeSort_perm xs le2).trans p)
  intro a b _ _ h1 h2
  rw [le2_iff] at h1 h2
  exact List.le_antisymm h1 h2
/-- two ascending lists of the same members are one -/
theorem asc_eq {a b : List Nat} (ha : a.Pairwise (· < ·)) (hb : b.Pairwise (· < ·)) (h : ∀ x, x ∈ a ↔ x ∈ b) : a = b := by
  have na : a.Nodup := ha.imp fun q => by omega
  have nb : b.Nodup := hb.imp fun q => by omega
  refine List.Perm.eq_of_pairwise (le := fun a b => a < b) ?_ ha hb (perm_of_mem na nb h)
  intro x y _ _ h1 h2
  omega
theorem wn_append : ∀ A B : List (List Nat), wn (A ++ B) = wn A * wn B
  | [], B => by rw [List.nil_append]; show wn B = 1 * wn B; rw [Nat.one_mul]
  | T :: A, B => by rw [List.cons_append, wn_cons, wn_cons, wn_append A B, Nat.mul_assoc]
theorem wn_reverse : ∀ A : List (List Nat), wn A.reverse = wn A
  | [] => rfl
  | T :: A => by
    rw [List.reverse_cons, wn_append, wn_reverse A, wn_cons, wn_cons]
    show wn A * (fct T.length * 1) = _
    rw [Nat.mul_one, Nat.mul_comm]
/-! ### what the law asks of a pair of pictures -/
structure Ways (h w : Nat) (s g : Pic) (Ts : List (List Nat)) (L : List Nat) : Prop where
  /-- the law's list is the program's -/
  good : ((lawOrders L).filter fun o => decide (paintAll h w s o = g)).mergeSort le2 = waysL Ts.reverse
  sort : (waysL Ts.reverse).mergeSort le2 = waysL Ts.reverse
  /-- whether deeds are a way -/
  judge : ∀ d : List Nat, (∀ l ∈ d, l < h + w) → (decide (d.length = (Ts.map List.length).sum) && decide (paintAll h w s d = g)) = decide (d ∈ waysL Ts.reverse)
  way : Ts.reverse.flatten ∈ waysL Ts.reverse
  bd : ∀ o ∈ waysL Ts.reverse, ∀ l ∈ o, l < h + w
  len : ∀ o ∈ waysL Ts.reverse, o.length = (Ts.map List.length).sum
  each : ∀ T ∈ Ts, T ≠ [] ∧ T.Pairwise (· < ·) ∧ ∀ l ∈ T, l < h + w
  lbd : ∀ l ∈ L, l < h + w
  lnd : L.Nodup
  many : (Ts.map List.length).sum ≤ h + w
theorem isWayR_self : ∀ R : List (List Nat), IsWayR R R.flatten
  | [] => .nil
  | T :: R => .cons (List.Perm.refl T) (isWayR_self R)
theorem ways_of {h w : Nat} {s g : Pic} {Ts : List (List Nat)} {L : List Nat} (S : Wf h w s) (G : Wf h w g) (e : toldOf h w s g = some Ts) (hL : L.Perm Ts.flatten) : Ways h w s g Ts L := by
  have T := told_ok e
  have St := diff_stage h w s g
  have hnd := T.nodup St.inc
  have hLn : L.Nodup := hL.nodup_iff.mpr hnd
  have hall : ∀ l, l < h + w → l ∈ List.range (h + w) := fun l hl => List.mem_range.mpr hl
  have hup : (waysL Ts.reverse).Pairwise (· < ·) := waysL_up fun U hU => (T.each St.inc U (List.mem_reverse.mp hU)).2
  have hun : (waysL Ts.reverse).Nodup := hup.imp fun {a b} q z => by subst z; exact List.lt_irrefl _ q
  have hway : ∀ o, o ∈ waysL Ts.reverse ↔ o.Perm Ts.flatten ∧ paintAll h w s o = g := fun o => by
    rw [mem_ways, paintAll_iff S G]
    constructor
    · intro q
      exact ⟨q.perm, (makes_iff T St hall q.perm).mpr q⟩
    · rintro ⟨q1, q2⟩
      exact (makes_iff T St hall q1).mp q2
  have hlen : ∀ o : List Nat, o.Perm Ts.flatten → o.length = (Ts.map List.length).sum := fun o q => by
    rw [q.length_eq, List.length_flatten]
  have hb : ∀ l ∈ Ts.flatten, l < h + w := fun l hl => List.mem_range.mp (T.sub l hl)
  refine ⟨?_, sort_eq (List.Perm.refl _) hup, ?_, mem_waysL.mpr (isWayR_self _), ?_, ?_, ?_, fun l hl => hb l (hL.mem_iff.mp hl), hLn, ?_⟩
  · refine sort_eq ?_ hup
    rw [List.perm_ext_iff_of_nodup ((lawOrders_nodup hLn).filter _) hun]
    intro o
    rw [List.mem_filter, mem_lawOrders hLn, hway, decide_eq_true_iff]
    constructor
    · rintro ⟨a, b⟩; exact ⟨a.trans hL, b⟩
    · rintro ⟨a, b⟩; exact ⟨a.trans hL.symm, b⟩
  · intro d hd
    rw [Bool.eq_iff_iff, Bool.and_eq_true, decide_eq_true_iff, decide_eq_true_iff, decide_eq_true_iff, hway]
    constructor
    · rintro ⟨a, b⟩
      exact ⟨perm_of_makes T St ((paintAll_iff S G d).mp b) hd (by rw [List.length_flatten]; exact a), b⟩
    · rintro ⟨a, b⟩
      exact ⟨hlen d a, b⟩
  · intro o ho l hl
    exact hb l (((hway o).mp ho).1.mem_iff.mp hl)
  · intro o ho
    exact hlen o ((hway o).mp ho).1
  · intro U hU
    have := T.each St.inc U hU
    exact ⟨this.1, this.2, fun l hl => hb l (List.mem_flatten.mpr ⟨U, hU, hl⟩)⟩
  · rw [← List.length_flatten]
    have := nodup_len hnd hb
    exact this
where
  nodup_len {n : Nat} {l : List Nat} (h : l.Nodup) (hb : ∀ x ∈ l, x < n) : l.length ≤ n := by
    have e : l.length = (l.mergeSort (fun a b => decide (a ≤ b))).length := (List.mergeSort_perm l _).length_eq.symm
    have hs : (l.mergeSort (fun a b => decide (a ≤ b))).Pairwise (fun a b => decide (a ≤ b) = true) := List.pairwise_mergeSort (fun a b c h1 h2 => by simp at *; omega) (fun a b => by simp; omega) l
    have hn : (l.mergeSort (fun a b => decide (a ≤ b))).Nodup := (List.mergeSort_perm l _).nodup_iff.mpr h
    have hlt : (l.mergeSort (fun a b => decide (a ≤ b))).Pairwise (· < ·) := hs.imp₂ (fun a b h1 h2 => by simp at h1; omega) hn
    have hbb : ∀ x ∈ l.mergeSort (fun a b => decide (a ≤ b)), x < n := fun x hx => hb x ((List.mergeSort_perm l _).mem_iff.mp hx)
    rw [e]
    generalize l.mergeSort (fun a b => decide (a ≤ b)) = m at hlt hbb
    clear e hs hn h hb
    exact asc_len m n 0 hlt (fun x hx => ⟨Nat.zero_le _, hbb x hx⟩)
  asc_len : ∀ (m : List Nat) (n k : Nat), m.Pairwise (· < ·) → (∀ x ∈ m, k ≤ x ∧ x < n) → m.length ≤ n - k
    | [], _, _, _, _ => Nat.zero_le _
    | x :: m, n, k, hp, hb => by
      have h1 := hb x List.mem_cons_self
      have ih := asc_len m n (k + 1) (List.pairwise_cons.mp hp).2 fun y hy => by
        have := (List.pairwise_cons.mp hp).1 y hy
        have := hb y (List.mem_cons_of_mem _ hy)
        omega
      rw [List.length_cons]
      omega
/-- the first deeds of ways -/
theorem firsts {h w : Nat} {s g : Pic} {Ts : List (List Nat)} {L : List Nat} (W : Ways h w s g Ts L) {T : List Nat} (hT : Ts.getLast? = some T) {F : List Nat} (hF : F.Pairwise (· < ·)) (hm : ∀ x, x ∈ F ↔ ∃ o ∈ waysL Ts.reverse, o.head? = some x) : F = T := by
  have hTm : T ∈ Ts := List.mem_of_getLast? hT
  have hE := W.each T hTm
  refine asc_eq hF hE.2.1 fun x => ?_
  rw [hm]
  have er : ∃ R, Ts.reverse = T :: R := by
    have := List.getLast?_eq_head?_reverse (xs := Ts)
    rw [hT] at this
    cases q : Ts.reverse with
    | nil => rw [q] at this; cases this
    | cons a R => rw [q] at this; cases this; exact ⟨R, rfl⟩
  obtain ⟨R, er⟩ := er
  rw [er]
  constructor
  · rintro ⟨o, ho, hx⟩
    have := mem_waysL.mp ho
    cases this with
    | @cons _ _ a o p q =>
      cases a with
      | nil => exact absurd p.nil_eq.symm hE.1
      | cons y a =>
        rw [List.cons_append] at hx
        cases hx
        exact p.mem_iff.mp List.mem_cons_self
  · intro hx
    exact ⟨(x :: T.erase x) ++ R.flatten, mem_waysL.mpr (.cons (List.perm_cons_erase hx).symm (isWayR_self R)), rfl⟩
end LP
namespace LP
theorem lead_len (h w : Nat) (c : Nat → Nat → Bool) (l : Nat) : (lead h w c l).length ≤ h + w := by
  unfold lead
  split
  · rw [List.length_map]
    exact Nat.le_trans (List.length_filter_le _ _) (by rw [List.length_range]; omega)
  · exact Nat.le_trans (List.length_filter_le _ _) (by rw [List.length_range]; omega)
theorem lay_each {ld : Nat → List Nat} {left : List Nat} {Ls : List (List Nat)} (y : Lay ld left Ls) : ∀ L ∈ Ls, ∃ l2, l2.Sublist left ∧ L = layStep ld l2 := by
  induction y with
  | nil _ => intro L h; cases h
  | @cons left Ls h1 h2 ih =>
    intro L hL
    rcases List.mem_cons.mp hL with rfl | hL
    · exact ⟨left, List.Sublist.refl _, rfl⟩
    · obtain ⟨l2, a, b⟩ := ih L hL
      exact ⟨l2, a.trans List.filter_sublist, b⟩
theorem lay_len {ld : Nat → List Nat} {left : List Nat} {Ls : List (List Nat)} (y : Lay ld left Ls) : Ls.length ≤ left.length := by
  induction y with
  | nil _ => exact Nat.zero_le _
  | @cons left Ls h1 h2 ih =>
    have := minus_lt h1 (layStep_sub (ld := ld))
    rw [List.length_cons]
    omega
theorem sub_len : ∀ {xs L : List Nat}, xs.Nodup → (∀ x ∈ xs, x ∈ L) → xs.length ≤ L.length
  | [], _, _, _ => Nat.zero_le _
  | x :: xs, L, hn, h => by
    obtain ⟨h1, h2⟩ := List.nodup_cons.mp hn
    have hx := h x List.mem_cons_self
    have := sub_len (L := L.erase x) h2 fun y hy => (List.mem_erase_of_ne (fun (e : y = x) => h1 (by rw [← e]; exact hy))).mpr (h y (List.mem_cons_of_mem _ hy))
    rw [List.length_erase_of_mem hx] at this
    have := List.length_pos_of_mem hx
    rw [List.length_cons]
    omega
theorem nodup_len {m : Nat} {L : List Nat} (hn : L.Nodup) (hb : ∀ l ∈ L, l < m) : L.length ≤ m := by
  have h1 : L.length ≤ (List.range m).length := sub_len hn fun x hx => List.mem_range.mpr (hb x hx)
  rw [List.length_range] at h1
  exact h1
/-- a layer of a small picture -/
structure Small (h w : Nat) (L : List Nat) : Prop where
  asc : L.Pairwise (· < ·)
  bd : ∀ l ∈ L, l < h + w
  len : L.length ≤ 3
theorem layer_small {h w : Nat} {g : Pic} (hh : h ≤ 3) (hw : w ≤ 3) {L : List Nat} (hL : L ∈ layersOf h w g) : Small h w L := by
  obtain ⟨l2, s2, rfl⟩ := lay_each (layersOf_lay h w g) L hL
  have hs : (layStep (lead h w (cell g)) l2).Sublist l2 := List.filter_sublist
  have asc : (layStep (lead h w (cell g)) l2).Pairwise (· < ·) := (List.pairwise_lt_range (n := h + w)).sublist (hs.trans s2)
  have hb : ∀ l ∈ l2, l < h + w := fun l hl => List.mem_range.mp (s2.subset hl)
  have bd : ∀ l ∈ layStep (lead h w (cell g)) l2, l < h + w := fun l hl => hb l (hs.subset hl)
  have nd : (layStep (lead h w (cell g)) l2).Nodup := asc.imp fun q => by omega
  refine ⟨asc, bd, ?_⟩
  by_cases c : ∃ l ∈ layStep (lead h w (cell g)) l2, l < h
  · obtain ⟨l, hl, hlh⟩ := c
    exact Nat.le_trans (nodup_len nd fun m hm => kind_one hb hl hm hlh) hh
  · have h2 : ∀ l ∈ layStep (lead h w (cell g)) l2, h ≤ l := fun l hl => Classical.byContradiction fun z => c ⟨l, hl, by omega⟩
    have h3 : ((layStep (lead h w (cell g)) l2).map (· - h)).Nodup := by
      rw [List.nodup_iff_pairwise_ne, List.pairwise_map]
      refine List.Pairwise.imp_of_mem (fun {a b} ha hb q => ?_) asc
      have := h2 a ha
      have := h2 b hb
      omega
    have := nodup_len (m := w) h3 fun x hx => by
      obtain ⟨y, hy, rfl⟩ := List.mem_map.mp hx
      have := bd y hy
      have := h2 y hy
      omega
    rw [List.length_map] at this
    omega
theorem layers_len (h w : Nat) (g : Pic) : (layersOf h w g).length ≤ h + w := by
  have := lay_len (layersOf_lay h w g)
  rw [List.length_range] at this
  exact this
theorem least_each {h : Nat} : ∀ {Ls : List (List Nat)} {left : List (Nat × Nat)} {Ts : List (List Nat)}, least h Ls left = some Ts → ∀ T ∈ Ts, ∃ L ∈ Ls, T.Sublist L
  | Ls, [], Ts, e, T, hT => by
    rw [least_nil] at e
    cases e
    cases hT
  | [], x :: r, Ts, e, T, hT => by cases e
  | L :: Ls, x :: r, Ts, e, T, hT => by
    rw [least_cons (by simp)] at e
    by_cases c : rest h (x :: r) L = []
    · rw [if_pos c] at e
      cases e
      rw [List.mem_singleton] at hT
      subst hT
      exact ⟨L, List.mem_cons_self, List.filter_sublist⟩
    · rw [if_neg c] at e
      cases q : least h Ls (rest h (x :: r) L) with
      | none => rw [q] at e; cases e
      | some Us =>
        rw [q] at e
        cases e
        rcases List.mem_cons.mp hT with rfl | hT
        · exact ⟨T, List.mem_cons_self, List.Sublist.refl _⟩
        · obtain ⟨L2, h1, h2⟩ := least_each q T hT
          exact ⟨L2, List.mem_cons_of_mem _ h1, h2⟩
theorem least_len {h : Nat} : ∀ {Ls : List (List Nat)} {left : List (Nat × Nat)} {Ts : List (List Nat)}, least h Ls left = some Ts → Ts.length ≤ Ls.length
  | Ls, [], Ts, e => by
    rw [least_nil] at e
    cases e
    exact Nat.zero_le _
  | [], x :: r, Ts, e => by cases e
  | L :: Ls, x :: r, Ts, e => by
    rw [least_cons (by simp)] at e
    by_cases c : rest h (x :: r) L = []
    · rw [if_pos c] at e
      cases e
      simp
    · rw [if_neg c] at e
      cases q : least h Ls (rest h (x :: r) L) with
      | none => rw [q] at e; cases e
      | some Us =>
        rw [q] at e
        cases e
        have := least_len q
        show Us.length + 1 ≤ Ls.length + 1
        omega
theorem told_small {h w : Nat} {s g : Pic} {Ts : List (List Nat)} (hh : h ≤ 3) (hw : w ≤ 3) (e : toldOf h w s g = some Ts) {T : List Nat} (hT : T ∈ Ts) : Small h w T := by
  obtain ⟨L, hL, hs⟩ := least_each e T hT
  have S := layer_small hh hw hL
  exact ⟨S.asc.sublist hs, fun l hl => S.bd l (hs.subset hl), Nat.le_trans hs.length_le S.len⟩
theorem told_len {h w : Nat} {s g : Pic} {Ts : List (List Nat)} (hh : h ≤ 3) (hw : w ≤ 3) (e : toldOf h w s g = some Ts) : Ts.length ≤ 6 := by
  have h1 := least_len e
  have h2 := layers_len h w g
  omega
theorem fct_two : ∀ n, n ≤ 3 → fct n ≤ 2 ^ n
  | 0, _ => by decide
  | 1, _ => by decide
  | 2, _ => by decide
  | 3, _ => by decide
  | n + 4, h => by omega
theorem wn_two : ∀ Ts : List (List Nat), (∀ T ∈ Ts, T.length ≤ 3) → wn Ts ≤ 2 ^ (Ts.flatten.length)
  | [], _ => by decide
  | T :: R, h => by
    rw [wn_cons, List.flatten_cons, List.length_append, Nat.pow_add]
    exact Nat.mul_le_mul (fct_two _ (h T List.mem_cons_self)) (wn_two R fun U hU => h U (List.mem_cons_of_mem _ hU))
theorem told_flat {h w : Nat} {s g : Pic} {Ts : List (List Nat)} (e : toldOf h w s g = some Ts) : Ts.flatten.length ≤ h + w := by
  have T := told_ok e
  have hn := T.nodup List.pairwise_lt_range
  exact nodup_len hn fun l hl => List.mem_range.mp (T.sub l hl)
theorem told_wn {h w : Nat} {s g : Pic} {Ts : List (List Nat)} (hh : h ≤ 3) (hw : w ≤ 3) (e : toldOf h w s g = some Ts) : wn Ts ≤ 64 := by
  have h1 := wn_two Ts fun T hT => (told_small hh hw e hT).len
  have h2 := told_flat e
  exact Nat.le_trans h1 (Nat.pow_le_pow_right (by decide) (show Ts.flatten.length ≤ 6 by omega))
theorem diff_len {h w : Nat} {s g : Pic} (hh : h ≤ 3) (hw : w ≤ 3) : (diff h w s g).length ≤ 9 := by
  have hle : ∀ k, ((List.range k).flatMap fun i => ((List.range w).filter fun j => cell g i j != cell s i j).map fun j => (i, j)).length ≤ k * w := by
    intro k
    induction k with
    | zero => simp
    | succ k ih =>
      rw [List.range_succ, List.flatMap_append, List.length_append, Nat.add_mul]
      have : (((List.range w).filter fun j => cell g k j != cell s k j).map fun j => (k, j)).length ≤ w := by
        rw [List.length_map]
        exact Nat.le_trans (List.length_filter_le _ _) (by rw [List.length_range]; exact Nat.le_refl _)
      simp only [List.flatMap_cons, List.flatMap_nil, List.append_nil]
      omega
  have h1 := hle h
  have h2 : h * w ≤ 3 * 3 := Nat.mul_le_mul hh hw
  exact Nat.le_trans h1 h2
/-! the needed, as the program finds them -/
def addIf (L xs : List Nat) (n : Nat) : List Nat := if L.contains n then (if xs.contains n then xs else xs ++ [n]) else xs
def needs (h : Nat) (L : List Nat) (cells : List (Nat × Nat)) (xs : List Nat) : List Nat := cells.foldl (fun xs c => addIf L (addIf L xs c.1) (h + c.2)) xs
theorem mem_addIf {L xs : List Nat} {n m : Nat} : m ∈ addIf L xs n ↔ m ∈ xs ∨ (m = n ∧ m ∈ L) := by
  unfold addIf
  by_cases a : n ∈ L
  · rw [if_pos (by rw [List.contains_iff_mem]; exact a)]
    by_cases b : n ∈ xs
    · rw [if_pos (by rw [List.contains_iff_mem]; exact b)]
      constructor
      · exact .inl
      · rintro (h | ⟨rfl, _⟩)
        · exact h
        · exact b
    · rw [if_neg (by rw [List.contains_iff_mem]; exact b), List.mem_append, List.mem_singleton]
      constructor
      · rintro (h | rfl)
        · exact .inl h
        · exact .inr ⟨rfl, a⟩
      · rintro (h | ⟨rfl, _⟩)
        · exact .inl h
        · exact .inr rfl
  · rw [if_neg (by rw [List.contains_iff_mem]; exact a)]
    constructor
    · exact .inl
    · rintro (h | ⟨rfl, z⟩)
      · exact h
      · exact absurd z a
theorem addIf_nodup {L xs : List Nat} {n : Nat} (h : xs.Nodup) : (addIf L xs n).Nodup := by
  unfold addIf
  split
  · split
    · exact h
    · rename_i z
      rw [List.contains_iff_mem] at z
      rw [List.nodup_append]
      refine ⟨h, by simp, fun a ha b hb e => ?_⟩
      rw [List.mem_singleton] at hb
      subst hb e
      exact z ha
  · exact h
theorem mem_needs {h : Nat} {L : List Nat} : ∀ {cells : List (Nat × Nat)} {xs : List Nat} {m : Nat}, m ∈ needs h L cells xs ↔ m ∈ xs ∨ (m ∈ L ∧ ∃ c ∈ cells, m = c.1 ∨ m = h + c.2)
  | [], xs, m => by simp [needs]
  | c :: cells, xs, m => by
    show m ∈ needs h L cells (addIf L (addIf L xs c.1) (h + c.2)) ↔ _
    rw [mem_needs, mem_addIf, mem_addIf]
    constructor
    · rintro (((a | ⟨rfl, b⟩) | ⟨rfl, b⟩) | ⟨a, d, hd, b⟩)
      · exact .inl a
      · exact .inr ⟨b, c, List.mem_cons_self, .inl rfl⟩
      · exact .inr ⟨b, c, List.mem_cons_self, .inr rfl⟩
      · exact .inr ⟨a, d, List.mem_cons_of_mem _ hd, b⟩
    · rintro (a | ⟨a, d, hd, b⟩)
      · exact .inl (.inl (.inl a))
      · rcases List.mem_cons.mp hd with rfl | hd
        · rcases b with rfl | rfl
          · exact .inl (.inl (.inr ⟨rfl, a⟩))
          · exact .inl (.inr ⟨rfl, a⟩)
        · exact .inr ⟨a, d, hd, b⟩
theorem needs_nodup {h : Nat} {L : List Nat} : ∀ {cells : List (Nat × Nat)} {xs : List Nat}, xs.Nodup → (needs h L cells xs).Nodup
  | [], xs, hx => hx
  | c :: cells, xs, hx => needs_nodup (cells := cells) (addIf_nodup (addIf_nodup hx))
theorem needs_snoc {h : Nat} {L : List Nat} (cells : List (Nat × Nat)) (c : Nat × Nat) (xs : List Nat) : needs h L (cells ++ [c]) xs = addIf L (addIf L (needs h L cells xs) c.1) (h + c.2) := by
  unfold needs
  rw [List.foldl_append]
  rfl
theorem addIf_sub {L xs : List Nat} {n : Nat} (h : ∀ x ∈ xs, x ∈ L) : ∀ x ∈ addIf L xs n, x ∈ L := fun x hx => by
  rcases mem_addIf.mp hx with a | ⟨_, a⟩
  · exact h x a
  · exact a
theorem needs_sub {h : Nat} {L : List Nat} {cells : List (Nat × Nat)} : ∀ x ∈ needs h L cells [], x ∈ L := fun x hx => by
  rcases mem_needs.mp hx with a | ⟨a, _⟩
  · cases a
  · exact a
theorem needs_sorted {h : Nat} {L : List Nat} {cells : List (Nat × Nat)} (asc : L.Pairwise (· < ·)) {ys : List Int} (hp : ys.Perm (up (needs h L cells []))) (hs : ys.Pairwise (· ≤ ·)) : ys = up (needed h cells L) := by
  have a2 : (needed h cells L).Pairwise (· < ·) := asc.filter _
  have p2 : (needs h L cells []).Perm (needed h cells L) := perm_of_mem (needs_nodup List.nodup_nil) (a2.imp fun q => by omega) fun x => by
    rw [mem_needs, mem_needed]
    constructor
    · rintro (z | ⟨a, b⟩)
      · cases z
      · exact ⟨a, b⟩
    · exact .inr
  have p3 : ys.Perm (up (needed h cells L)) := hp.trans (p2.map _)
  refine List.Perm.eq_of_pairwise (le := fun a b => a ≤ b) (fun a b _ _ h1 h2 => Int.le_antisymm h1 h2) hs ?_ p3
  unfold up
  rw [List.pairwise_map]
  exact a2.imp fun q => by
    show Int.ofNat _ ≤ Int.ofNat _
    exact Int.ofNat_le.mpr (by omega)
end LP
/-! Rules of our own: enumerate over a tuple and over a text, a text times a number, sorted rows, the set of a list. -/
namespace LW
open PySem PySem.Spec L2
open PyProof.Rows hiding St RelV

/-! ### enumerate(v) of anything whose iterator is known to begin -/
theorem enum_new1 {v : Value} {o : Obj} {Hh : Heap → Prop} (B : Begins v o Hh) :
    Meets (Builtin.«enumerate.__new__» ⟨[.type "enumerate", v], []⟩) (fun _ R s => Hh s.heap ∧
      R (.ok (.ret (.ref (s.heap.push o).objs.size))) { s with heap := (s.heap.push o).push { cls := .type "enumerate", data := .fields #[.none, .bool false, .ref s.heap.objs.size, rawInt 0, .none, .none] } }) :=
  .of_wp fun prog w A R s hyp => by
    obtain ⟨hp, g, d, tk, os⟩ := s
    obtain ⟨k1, k2⟩ := hyp
    have hsub := sub_enumerate
    have begin1 : ∀ {A' : Around} {E Q : Value → Shared → Prop}, Q (.ref hp.objs.size) ⟨hp.push o, g, d, tk, os⟩ → wpAny (model prog w) A' (pyIter v) Q E ⟨hp, g, d, tk, os⟩ :=
      fun q => B.iter prog w _ _ ⟨hp, g, d, tk, os⟩ _ k1 q
    wp_walk using begin1
    refine wpAny_stack_any fun st => wpAny_pure ?_
    split
    · rename_i c _ _ _ _ _
      cases (c == Value.type "enumerate") <;> (wp_walk using begin1; exact ⟨_, rfl, k2⟩)
    · wp_walk using begin1
      exact ⟨_, rfl, k2⟩
section
variable {prog : Program} {w : World} {A : Around} {E : Value → Shared → Prop} {s : Shared}
theorem enum_call1 {v : Value} {o : Obj} {Hh : Heap → Prop} {Q : Value → Shared → Prop} (B : Begins v o Hh) (h1 : Hh s.heap)
    (k : ∀ h', IsEnum h' (s.heap.objs.size + 1) s.heap.objs.size 0 .none → h'.get? s.heap.objs.size = some o → (∀ b x, s.heap.get? b = some x → h'.get? b = some x) → Q (.ref (s.heap.objs.size + 1)) { s with heap := h' }) :
    wpAny (model prog w) A (call (.type "enumerate") [v]) Q E s := by
  refine callType_new F.called_enumerate (by decide) (F.typeCall_enumerate_1 _) (F.newCall_enumerate_1 _) (fun obj => F.args_object_init_2 obj _) F.entry_enumerate_new (enum_new1 B) ⟨h1, ?_⟩
  have sz : (s.heap.push o).objs.size = s.heap.objs.size + 1 := Heap.size_push ..
  show _ ∧ _
  rw [sz]
  have at1 := Heap.get?_push_size (s.heap.push o) (o := { cls := .type "enumerate", data := .fields #[.none, .bool false, .ref s.heap.objs.size, rawInt 0, .none, .none] }) rfl
  rw [sz] at at1
  exact ⟨⟨_, at1, rfl⟩, k _ at1 (Heap.get?_push_of_some _ (Heap.get?_push_size _ B.free)) fun b x e => Heap.get?_push_of_some _ (Heap.get?_push_of_some _ e)⟩
end
/-- new pairs (place, item); n items, told by Y -/
def ItE (n : Nat) (Y : Nat → V → Prop) : It :=
  ⟨fun i _ => i < n, fun i H v H' => ∃ T x, v = .ref T ∧ H T = none ∧ H' = upd H T (.tup [.int (i : Nat), x]) ∧ Y i x, fun i _ => i = n⟩
/-- the pair that an enumerate has just laid -/
theorem enum_laid {X : Cx} {pins : List (Addr × Obj)} {σ : St} {H : Hp} {s : Shared} {h' h'' : Heap} {e it : Addr} {i tk : Nat} {x : V} {u : Value} (I : Inv X pins σ H s) (hf : ∀ b ∈ [e, it], FpOk X pins H b) (ru : RelV x u)
    (hT : h'.get? s.heap.objs.size = some { cls := .type "tuple", data := .seq #[.int i tk, u] }) (hk : ∀ b o, b ≠ e → b ≠ it → s.heap.get? b = some o → h'.get? b = some o) (hel : e < s.heap.objs.size) (sb : Heap.SameBut e h' h'') :
    Inv X pins σ (upd H s.heap.objs.size (.tup [.int (i : Nat), x])) { s with heap := h'', toks := tk + 1 } := by
  have hT2 : h''.get? s.heap.objs.size = some { cls := .type "tuple", data := .seq #[.int i tk, u] } := (sb.2 _ (Nat.ne_of_gt hel)).trans hT
  refine I.turnedNew (ch := [e, it]) (fun b ob nb q => ?_) hf (Nat.le_refl _) ⟨by show 2 ≤ sizeLine; decide, [.int i tk, u], .cons ⟨_, rfl⟩ (.cons ru .nil), ⟨_, hT2, rfl, _, rfl⟩⟩
  have n1 : b ≠ e := fun z => nb (by simp [z])
  have n2 : b ≠ it := fun z => nb (by simp [z])
  exact (sb.2 b n1).trans (hk b ob n1 n2 q)
theorem enum_free {X : Cx} {pins : List (Addr × Obj)} {H : Hp} {N : Nat} {o : HO} {e it : Addr} (hf : ∀ b ∈ [e, it], FpOk X pins H b) (h1 : e < N) (h2 : it < N) : ∀ b ∈ [e, it], upd H N o b = none := fun b hb => by
  have hlt : b < N := by
    rcases List.mem_cons.mp hb with z | z
    · rw [z]; exact h1
    · rw [List.mem_singleton.mp z]; exact h2
  rw [upd_ne (Nat.ne_of_lt hlt)]
  exact (hf b hb).1
/-- over a text -/
theorem turn_enumS {P : Program} {w : World} {K : PySem.W.Frag} {elts : List Expr} {kk : Nat} {tpos : Pos} (z : Str) (t : Tok) (e it : Addr) :
    Turn P w K (.Tuple elts kk tpos) (ItE z.cps.size fun i x => ∃ c, z.cps[i]? = some c ∧ x = .str ⟨#[c]⟩) [e, it] e (fun i h => (∃ old, IsEnum h e it ((i : Nat) : Int) old) ∧ h.IsStrIter it (strIterType z) z t i ∧ e ≠ it) where
  mem := by simp
  obj := fun i h st b hb => by
    obtain ⟨⟨old, he⟩, ⟨o, ho, hc, hd⟩, _⟩ := st
    rcases List.mem_cons.mp hb with q | q
    · rw [q]; exact ⟨_, he, fun v r => nomatch r⟩
    · rw [List.mem_singleton.mp q]; exact ⟨o, ho, fun v r => by rw [hd] at r; cases r⟩
  keep := fun i h h' st k => by
    obtain ⟨⟨old, he⟩, ⟨o, ho, r⟩, hne⟩ := st
    exact ⟨⟨old, k e (by simp) _ he⟩, ⟨o, k it (by simp) o ho, r⟩, hne⟩
  item := by
    intro X hP hw hK hc i pins s σ H E I hf st hg
    subst hP hw hK
    obtain ⟨⟨old, he⟩, hit, hne⟩ := st
    have hel : e < s.heap.objs.size := Heap.lt_size he
    have hil : it < s.heap.objs.size := by obtain ⟨_, q, _⟩ := hit; exact Heap.lt_size q
    have D := Draws.text (prog := X.prog) (w := X.w) (A := X.A.in1) (show X.A.in1.handled = none from I.ok.hd hc) it z t
    refine wpAny_pyNext_enum_itemD D he hit hg hne (fun q => hne (List.mem_singleton.mp q)) fun u h' tk hP ho hit' hT hsz hk => ?_
    obtain ⟨c, tc, hcx, rfl⟩ := hP
    refine ⟨_, rfl, wpAny_letOwnedTupleGo_enum (s := { s with heap := h', toks := tk + 1 }) ho fun h'' he' sb => ?_⟩
    refine ⟨.ref s.heap.objs.size, _, enum_laid (s := s) (i := i) (x := .str ⟨#[c]⟩) I hf ⟨tc, rfl⟩ hT hk hel sb, rfl, ⟨_, _, rfl, I.hok.fresh (Nat.le_refl _), rfl, c, hcx, rfl⟩, ⟨⟨.str ⟨#[c]⟩ tc, ?_⟩, ?_, hne⟩, enum_free (N := s.heap.objs.size) hf hel hil⟩
    · have e1 : ((i + 1 : Nat) : Int) = (i : Int) + 1 := by omega
      rw [e1]; exact he'
    · obtain ⟨o, q, r⟩ := hit'
      exact ⟨o, (sb.2 it (Ne.symm hne)).trans q, r⟩
  done := by
    intro X hP hw hK hc i pins s σ H E I hf st hg
    subst hP hw hK
    obtain ⟨⟨old, he⟩, hit, hne⟩ := st
    obtain ⟨f0, f1, f2, f3, f4, f5⟩ := hf it (by simp)
    have hg' : i = z.cps.size := hg
    subst hg'
    have D := Draws.text (prog := X.prog) (w := X.w) (A := X.A.in1) (show X.A.in1.handled = none from I.ok.hd hc) it z t
    exact wpAny_pyNext_enum_endD D he hit fun h' eb => ⟨rfl, I.turned (t' := s.toks) (fun b o hb q => eb b o hb q) f0 f1 f3 f4 f5⟩
  self := fun A i s Q E st h => let ⟨⟨_, he⟩, _⟩ := st; wpAny_pyIter_enum he h
/-- over a tuple -/
def IteT (K : PySem.W.Frag) (a : Addr) : It :=
  ⟨fun i H => ∃ (xs : List V) (x : V), SqT K H a xs ∧ xs[i]? = some x, fun i H v H' => ∃ T x, v = .ref T ∧ H T = none ∧ H' = upd H T (.tup [.int (i : Nat), x]) ∧ ∀ xs, SqT K H a xs → xs[i]? = some x, fun i H => ∃ xs : List V, SqT K H a xs ∧ xs.length = i⟩
theorem turn_enumT {P : Program} {w : World} {K : PySem.W.Frag} {elts : List Expr} {kk : Nat} {tpos : Pos} (a e it : Addr) :
    Turn P w K (.Tuple elts kk tpos) (IteT K a) [e, it] e (fun i h => (∃ old, IsEnum h e it ((i : Nat) : Int) old) ∧ h.IsTupleIter it a i ∧ e ≠ it) where
  mem := by simp
  obj := fun i h st b hb => by
    obtain ⟨⟨old, he⟩, ⟨o, ho, hc, hd⟩, _⟩ := st
    rcases List.mem_cons.mp hb with q | q
    · rw [q]; exact ⟨_, he, fun v r => nomatch r⟩
    · rw [List.mem_singleton.mp q]; exact ⟨o, ho, fun v r => by rw [hd] at r; cases r⟩
  keep := fun i h h' st k => by
    obtain ⟨⟨old, he⟩, hi, hne⟩ := st
    exact ⟨⟨old, k e (by simp) _ he⟩, hi.at fun o q => k it (by simp) o q, hne⟩
  item := by
    intro X hP hw hK hc i pins s σ H E I hf st hg
    subst hP hw hK
    obtain ⟨⟨old, he⟩, hit, hne⟩ := st
    obtain ⟨xs, x, hq, hx⟩ := hg
    obtain ⟨its, rv, p, hz⟩ := I.tuple hq
    have p2 : s.heap.IsTuple a its.toArray := p
    obtain ⟨u, hu, ru⟩ := rv.get hx
    have hel : e < s.heap.objs.size := Heap.lt_size he
    have hil : it < s.heap.objs.size := by obtain ⟨_, q, _⟩ := hit; exact Heap.lt_size q
    obtain ⟨oa, ha, hca, na, hda⟩ := p2
    obtain ⟨oi, hoi, hci, hdi⟩ := id hit
    have n1 : a ≠ it := fun z => by
      rw [z, hoi] at ha
      cases ha
      rw [hdi] at hda
      cases hda
    have n2 : e ≠ a := fun z => by
      rw [← z, he] at ha
      cases ha
      cases hda
    have D := Draws.tuple (prog := X.prog) (w := X.w) (A := X.A.in1) (show X.A.in1.handled = none from I.ok.hd hc) it a n1 its.toArray
    have hlt : i < its.toArray.size := by
      have q := (List.getElem?_eq_some_iff.mp hu).1
      simpa using q
    refine wpAny_pyNext_enum_itemD D he ⟨hit, p⟩ hlt hne (fun q => by
      rcases List.mem_cons.mp q with q | q
      · exact hne q
      · exact n2 (List.mem_singleton.mp q)) fun u2 h' tk hP ho hit' hT hsz hk => ?_
    have eu : u2 = u := by
      have q1 : its[i]? = some u2 := by simpa using hP
      rw [hu] at q1
      exact (Option.some.inj q1).symm
    subst eu
    refine ⟨_, rfl, wpAny_letOwnedTupleGo_enum (s := { s with heap := h', toks := tk + 1 }) ho fun h'' he' sb => ?_⟩
    refine ⟨.ref s.heap.objs.size, _, enum_laid (s := s) (i := i) (x := x) I hf ru hT hk hel sb, rfl, ⟨_, x, rfl, I.hok.fresh (Nat.le_refl _), rfl, fun ys hy => by rw [I.tuple_inj hy hq]; exact hx⟩, ⟨⟨u2, ?_⟩, hit'.1.at fun o q => (sb.2 it (Ne.symm hne)).trans q, hne⟩, enum_free (N := s.heap.objs.size) hf hel hil⟩
    have e1 : ((i + 1 : Nat) : Int) = (i : Int) + 1 := by omega
    rw [e1]; exact he'
  done := by
    intro X hP hw hK hc i pins s σ H E I hf st hg
    subst hP hw hK
    obtain ⟨⟨old, he⟩, hit, hne⟩ := st
    obtain ⟨xs, hq, hx⟩ := hg
    obtain ⟨its, rv, p, hz⟩ := I.tuple hq
    have p2 : s.heap.IsTuple a its.toArray := p
    obtain ⟨oa, ha, hca, na, hda⟩ := p2
    obtain ⟨oi, hoi, hci, hdi⟩ := id hit
    have n1 : a ≠ it := fun z => by
      rw [z, hoi] at ha
      cases ha
      rw [hdi] at hda
      cases hda
    obtain ⟨f0, f1, f2, f3, f4, f5⟩ := hf it (by simp)
    have D := Draws.tuple (prog := X.prog) (w := X.w) (A := X.A.in1) (show X.A.in1.handled = none from I.ok.hd hc) it a n1 its.toArray
    have hl := rv.length
    have hlen : i = its.toArray.size := by simp; omega
    subst hlen
    exact wpAny_pyNext_enum_endD D he ⟨hit, p⟩ fun h' eb => ⟨rfl, I.turned (t' := s.toks) (fun b o hb q => eb b o hb q) f0 f1 f3 f4 f5⟩
  self := fun A i s Q E st h => let ⟨⟨_, he⟩, _⟩ := st; wpAny_pyIter_enum he h
def iEnumS (ta : TA) : TI := fun σ H R => ta σ H fun vs H1 => ∃ z : Str, vs = [.str z] ∧ R (ItE z.cps.size fun i x => ∃ c, z.cps[i]? = some c ∧ x = .str ⟨#[c]⟩) H1
def iEnumT (K : PySem.W.Frag) (ta : TA) : TI := fun σ H R => ta σ H fun vs H1 => ∃ a xs, vs = [.ref a] ∧ SqT K H1 a xs ∧ R (IteT K a) H1
section
variable {X : Cx} {e : Expr} {ta : TA} {p pos tpos : Pos} {elts : List Expr} {kk : Nat}
theorem two_new {pins : List (Addr × Obj)} {σ : St} {H : Hp} {s : Shared} (I : Inv X pins σ H s) : ∀ b ∈ [s.heap.objs.size + 1, s.heap.objs.size], FpOk X pins H b := fun b hb => by
  have hle : s.heap.objs.size ≤ b := by
    rcases List.mem_cons.mp hb with z | z
    · rw [z]; exact Nat.le_add_right _ _
    · rw [List.mem_singleton.mp z]; exact Nat.le_refl _
  exact I.fpOk hle (I.hok.fresh hle)
theorem pi_enumS (hg : Gl X "enumerate") (hm : X.mg "enumerate" = none) (ha : PA X [e] ta) (hs : starEach [e] X.env = [(false, eval e X.env)] := by rfl) :
    PI X (.Tuple elts kk tpos) (.Call (.Name "enumerate" p) [e] [] pos) (iEnumS ta) := by
  refine ⟨fun pins s σ H R I h => ?_⟩
  refine Call_ (ld_blt I hg hm boot_enumerate (PyProof.Rows.callWith_type1 (thn (ha.run pos pins s σ H _ I h) fun us s1 ⟨vs, H1, I1, r1, z, ex, q⟩ => ?_) hs rfl))
  subst ex
  obtain ⟨u, rfl, t, rfl⟩ := r1.one
  refine enum_call1 (begins_text z t) trivial fun h' he ho hk => wpAny_pyIter_enum he ?_
  have I2 : Inv X pins σ H1 { s1 with heap := h' } := I1.kept (t' := s1.toks) hk
  exact ⟨s1.heap.objs.size + 1, [s1.heap.objs.size + 1, s1.heap.objs.size], _, _, H1, rfl, I2, turn_enumS z t (s1.heap.objs.size + 1) s1.heap.objs.size, ⟨⟨.none, he⟩, ⟨_, ho, rfl, rfl⟩, Nat.succ_ne_self _⟩, two_new I1, q⟩
theorem pi_enumT (hg : Gl X "enumerate") (hm : X.mg "enumerate" = none) (ha : PA X [e] ta) (hs : starEach [e] X.env = [(false, eval e X.env)] := by rfl) :
    PI X (.Tuple elts kk tpos) (.Call (.Name "enumerate" p) [e] [] pos) (iEnumT X.K ta) := by
  refine ⟨fun pins s σ H R I h => ?_⟩
  refine Call_ (ld_blt I hg hm boot_enumerate (PyProof.Rows.callWith_type1 (thn (ha.run pos pins s σ H _ I h) fun us s1 ⟨vs, H1, I1, r1, a, xs, ex, hq, q⟩ => ?_) hs rfl))
  subst ex
  rw [Vals.ref1 r1]
  obtain ⟨its, rv, p', hz⟩ := I1.tuple hq
  refine enum_call1 (begins_tuple a its.toArray) p' fun h' he ho hk => wpAny_pyIter_enum he ?_
  have I2 : Inv X pins σ H1 { s1 with heap := h' } := I1.kept (t' := s1.toks) hk
  exact ⟨s1.heap.objs.size + 1, [s1.heap.objs.size + 1, s1.heap.objs.size], _, _, H1, rfl, I2, turn_enumT a (s1.heap.objs.size + 1) s1.heap.objs.size, ⟨⟨.none, he⟩, ⟨_, ho, rfl, rfl⟩, Nat.succ_ne_self _⟩, two_new I1, q⟩
end
/-! ### a text times a number -/
theorem op_mulS {X : Cx} : OpR X (binaryOp .Mult) (fun x y H Q => ∃ (z : Str) (n : Nat), x = .str z ∧ y = .int n ∧ z.length * n ≤ 1000 ∧ n ≤ 1000 ∧ z.length ≤ 1000 ∧ Q (.str (Txt.mul z n)) H) := by
  intro pins s σ H x y v u Q I rx ry h
  obtain ⟨z, n, rfl, rfl, h1, h2, h3, q⟩ := h
  obtain ⟨t, rfl⟩ := rx
  obtain ⟨t', rfl⟩ := ry
  refine SB.mul ⟨?_, ?_, ?_⟩ fun t' k => ⟨.str (Txt.mul z n), H, I.tok _, ⟨_, rfl⟩, q⟩
  · have a1 : ¬ ((n : Int) < -(2 ^ 63)) := by omega
    have a2 : ¬ ((n : Int) ≥ 2 ^ 63) := by omega
    rw [decide_eq_false a1, decide_eq_false a2]; rfl
  · intro a b c
    have hn : 0 < n := by omega
    have : ((2 : Int) ^ 63 - 1) / n ≥ 1000 := by
      apply Int.le_ediv_of_mul_le (by omega)
      have : (1000 : Int) * n ≤ 1000 * 1000 := Int.mul_le_mul_of_nonneg_left (by omega) (by omega)
      omega
    omega
  · intro a b
    have e1 : z.length * (n : Int).toNat = z.length * n := by rw [Int.toNat_natCast]
    rw [e1]
    show decide _ = false
    apply decide_eq_false
    have := sizeLine_eq
    omega
/-! ### set(xs) of a list of numbers -/
section
variable {P : Program} {w : World} {A : Around} {E : Value → Shared → Prop} {s : Shared}
abbrev noSet (w : World) : Obj := { cls := .type "set", dict := none, data := .set #[] 0 (.fresh 0 0 (!w.params.followText "set-order")) }
set_option maxHeartbeats 8000000 in
theorem set_of_list {l : Addr} {items : Array Value} (ns : List Int) {Q : Value → Shared → Prop} (hh : A.handled = none) (hl : s.heap.IsList l items) (hit : IntsAre items.toList ns) (room : ns.length + 1 < scanBound)
    (fin : ∀ (h' : Heap) (tk c : Nat), SetR w h' s.heap.objs.size (fun j => decide (j ∈ ns)) c → c ≤ ns.length → (∀ b o, s.heap.get? b = some o → h'.get? b = some o) → Q (.ref s.heap.objs.size) { s with heap := h', toks := tk }) :
    wpAny (model P w) A (call (.type "set") [.ref l]) Q E s := by
  have hn : items.size = ns.length := by
    have q := IntsAre.length hit
    rwa [Array.length_toList] at q
  obtain ⟨c, tl, hmro⟩ := F.called_set.mro
  have hmade := F.called_set.made
  have hsub := F.called_set.sub
  refine wpAny_call (codeAny_of_tree ?_)
  show wpAny _ _ (callAny (.type "set") _) _ _ _
  refine wpAny_pure ⟨Code.quiet_builtin _ (by decide +kernel), codeAny_builtin F.entry_type_call ?_⟩
  rw [Around.under_plain (weight_type_call_type "set" [.ref l] []) rfl]
  have h1 := F.called_set.notType
  have h2 := F.called_set.canCreate
  have hct := F.typeCall_set_1 (.ref l)
  repeat (any_goals (first | assumption | wp_step))
  refine codeAny_mono (code_set_led1 (w := w) (.ref l) (E := E) (Q₁ := fun obj s₁ => obj = .ref s.heap.objs.size ∧ s₁ = { s with heap := s.heap.push (noSet w) }) ⟨rfl, rfl⟩) fun r s₁ hr => ?_
  cases r with
  | error e => exact hr
  | ok fl =>
    cases fl with
    | ret obj =>
      obtain ⟨rfl, rfl⟩ := hr
      have hS : (s.heap.push (noSet w)).get? s.heap.objs.size = some (noSet w) := Heap.get?_push_size _ rfl
      have hT : Shared.TypeIs { s with heap := s.heap.push (noSet w) } (.ref s.heap.objs.size) "set" := ⟨_, hS, rfl⟩
      have hli := F.called_set.init.lookup
      have hbi := F.called_set.init.bind (.ref s.heap.objs.size)
      repeat (any_goals (first | assumption | wp_step))
      refine codeAny_mono (codeAny_call_builtin (R := wants (fun r s₂ => r = .none ∧ ∃ h' tk c, s₂ = { s with heap := h', toks := tk } ∧ SetR w h' s.heap.objs.size (fun j => decide (j ∈ ns)) c ∧ c ≤ ns.length ∧
          (∀ b o, s.heap.get? b = some o → h'.get? b = some o)) E) F.called_set.init.plain F.entry_set_init (check_set_init_1 hT ?_)) fun r₂ s₂ hr₂ => ?_
      · obtain ⟨ol, hol, hcl, nl, hdl⟩ := hl
        obtain ⟨ocls, odict, odata, oslots⟩ := ol
        simp only at hcl hdl
        subst hcl
        subst hdl
        have hol' : (s.heap.push (noSet w)).get? l = some { cls := .type "list", dict := odict, data := .seq items nl, slots := oslots } := Heap.get?_push_of_some _ hol
        have hsls := F.sub_list_set
        have hslf := F.sub_list_frozenset
        have hne : (Value.type "list" == Value.type "dict") = false := by decide
        have hl1 : (s.heap.push (noSet w)).IsList l items := ⟨_, hol', rfl, nl, rfl⟩
        unfold Builtin.«set.__init__» noKeywords Builtin.Frozenset.updateFrom
        generalize hPI : pyIter = PI
        wp_walk
        subst hPI
        refine wpAny_pyIter_list hl1 ?_
        refine wpAny_bind (wpAny_runValue ?_)
        have hlS : l < s.heap.objs.size := Heap.lt_size hol
        have hh3 : A.in1.in1.in1.handled = none := by simp [hh]
        have far : ∀ b, b < s.heap.objs.size → b ≠ (s.heap.push (noSet w)).objs.size := fun b hb => by
          rw [Heap.size_push]; exact Nat.ne_of_lt (Nat.lt_succ_of_lt hb)
        have hSf : s.heap.objs.size ∉ [(s.heap.push (noSet w)).objs.size, l] := by
          rw [Heap.size_push]
          simp only [List.mem_cons, List.not_mem_nil, or_false, not_or]
          exact ⟨Nat.ne_of_lt (Nat.lt_succ_self _), Nat.ne_of_gt hlS⟩
        have each : ∀ (i : Nat) (v : Value), items[i]? = some v → ∃ k t, ns[i]? = some k ∧ v = .int k t := fun i v hv => by
          have hi : i < ns.length := by rw [← hn]; exact (Array.getElem?_eq_some_iff.mp hv).1
          obtain ⟨t, e⟩ := PyProof.Rows.IntsAre.int_at hit i v (by rw [Array.getElem?_toList]; exact hv)
          refine ⟨ns[i], t, List.getElem?_eq_getElem hi, ?_⟩
          rw [e, List.getD_eq_getElem?_getD, List.getElem?_eq_getElem hi] <;> rfl
        refine set_update_ints ((Walks.list hh3 _ l (far l hlS) items).toS) s.heap.objs.size hSf ns hn room each (items.size - 0) 0 _ (by omega) (Nat.zero_le _) ⟨⟨_, Heap.get?_push_size _ rfl, rfl, rfl⟩, (hl1.push _)⟩ ?start ?stop
        case start => exact ⟨0, Nat.le_refl 0, setR_new_at (Heap.get?_push_of_some _ hS)⟩
        case stop =>
          intro s' c' hm hc' hS'
          obtain ⟨h', g2, d', tk', os'⟩ := s'
          have eg : g2 = s.gens := hm.gens
          have ed : d' = s.drawn := hm.drawn
          have eo : os' = s.os := hm.os
          subst eg; subst ed; subst eo
          show wpAny _ _ _ _ _ _
          refine wpAny_pure ?_
          show wpAny _ _ (ret Value.none) _ _ _
          rw [hn] at hc'
          refine wpAny_pure ⟨rfl, h', tk', c', rfl, hS', hc', fun b o e => ?_⟩
          have hb0 : b < s.heap.objs.size := Heap.lt_size e
          refine hm.heap b o ?_ (Heap.get?_push_of_some _ (Heap.get?_push_of_some _ e))
          simp only [List.mem_cons, List.not_mem_nil, or_false, not_or]
          exact ⟨Nat.ne_of_lt hb0, far b hb0⟩
      · cases r₂ with
        | error e => exact hr₂
        | ok fl₂ =>
          cases fl₂ with
          | ret r =>
            obtain ⟨rfl, h', tk, c', rfl, hS', hc', hk'⟩ := hr₂
            repeat (any_goals (first | assumption | wp_step))
            exact fin _ _ _ hS' hc' hk'
          | _ => exact hr₂.elim
    | _ => exact hr.elim
end
def rSetLI (K : PySem.W.Frag) (w : World) : List V → Hp → VK → Prop := fun vs H Q => ∃ (a : Addr) (ns : List Int), vs = [V.ref a] ∧ SqL K H a (ns.map V.int) ∧ ns.length < 1000 ∧
  ∀ (p : Addr) (c : Nat), c ≤ ns.length → H p = none → Q (.ref p) (upd H p (SetO w p (fun j => decide (j ∈ ns)) c))
theorem cr_setLI {X : Cx} (hc : X.calm = true) : CallR X (.type "set") (rSetLI X.K X.w) := by
  intro pins s σ H vs us Q I r h
  obtain ⟨a, ns, rfl, hs, hz, q⟩ := h
  obtain ⟨its, rv, hl, _⟩ := I.list hs
  rw [Vals.ref1 r]
  refine set_of_list ns (I.ok.hd hc) hl.isList rv.ints (by unfold scanBound; omega) fun h' tk c R hcn k => ?_
  exact ⟨.ref _, upd H s.heap.objs.size (SetO X.w s.heap.objs.size (fun j => decide (j ∈ ns)) c), I.laid k (Nat.le_refl _) (setO_new R), rfl, q _ c hcn (I.hok.fresh (Nat.le_refl _))⟩
end LW
/-! Two heaps: H, what is tracked; G, the part of it that no one changes any more. Data are told over G. -/
namespace LW
open PySem PySem.Spec L2
open PyProof.Rows hiding St RelV
/-! ### growth -/
structure Grow (M : Addr → Prop) (G H G' H' : Hp) : Prop where
  g : Same G G'
  h : ∀ b o, ¬ M b → H b = some o → H' b = some o
  s : Same G' H'
  old : ∀ b, H b ≠ none → G' b = G b
  live : ∀ b, M b → H b ≠ none → H' b ≠ none
/-- nothing may change -/
abbrev M0 : Addr → Prop := fun _ => False
/-- the object at r alone may change -/
abbrev M1 (r : Addr) : Addr → Prop := fun b => b = r
section
variable {M : Addr → Prop} {G H G' H' G2 H2 : Hp} {p : Addr} {o x : HO}
theorem Grow.here (s : Same G H) : Grow M G H G H := ⟨.refl G, fun _ _ _ e => e, s, fun _ _ => rfl, fun _ _ e => e⟩
theorem Grow.alive (a : Grow M G H G' H') {b : Addr} (e : H b ≠ none) : H' b ≠ none := by
  by_cases m : M b
  · exact a.live b m e
  · cases q : H b with
    | none => exact absurd q e
    | some o => rw [a.h b o m q]; exact fun z => by cases z
theorem Grow.trans (a : Grow M G H G' H') (b : Grow M G' H' G2 H2) : Grow M G H G2 H2 :=
  ⟨a.g.trans b.g, fun c o m e => b.h c o m (a.h c o m e), b.s, fun c e => (b.old c (a.alive e)).trans (a.old c e), fun c m e => b.live c m (a.live c m e)⟩
theorem Grow.weak (a : Grow M0 G H G' H') : Grow M G H G' H' :=
  ⟨a.g, fun b o _ e => a.h b o id e, a.s, a.old, fun b _ e => a.alive e⟩
/-- a new object that no one will change -/
theorem Grow.new (s : Same G H) (np : H p = none) (o : HO) : Grow M G H (upd G p o) (upd H p o) := by
  have gp : G p = none := s.free np
  refine ⟨fun b u e => ?_, fun b u _ e => ?_, fun b u e => ?_, fun b e => ?_, fun b _ e => ?_⟩
  · rw [upd_ne (ne_of_none e gp)]; exact e
  · rw [upd_ne (ne_of_none e np)]; exact e
  · by_cases q : b = p
    · subst q; rw [upd_same] at e ⊢; exact e
    · rw [upd_ne q] at e ⊢; exact s b u e
  · rw [upd_ne (fun z => e (by rw [z]; exact np))]
  · rw [upd_ne (fun z => e (by rw [z]; exact np))]; exact e
/-- a new object that is still to be changed -/
theorem Grow.hide (s : Same G H) (np : H p = none) (o : HO) : Grow M G H G (upd H p o) := by
  have gp : G p = none := s.free np
  refine ⟨.refl G, fun b u _ e => ?_, fun b u e => ?_, fun b _ => rfl, fun b _ e => ?_⟩
  · rw [upd_ne (ne_of_none e np)]; exact e
  · rw [upd_ne (ne_of_none e gp)]; exact s b u e
  · rw [upd_ne (fun z => e (by rw [z]; exact np))]; exact e
/-- .. is changed -/
theorem Grow.put (a : Grow M G H G' H') (h0 : H p = none) (g0 : G' p = none) (o : HO) : Grow M G H G' (upd H' p o) := by
  refine ⟨a.g, fun b u m e => ?_, fun b u e => ?_, a.old, fun b m e => ?_⟩
  · rw [upd_ne (ne_of_none e h0)]; exact a.h b u m e
  · rw [upd_ne (ne_of_none e g0)]; exact a.s b u e
  · rw [upd_ne (fun z => e (by rw [z]; exact h0))]; exact a.live b m e
/-- .. is done -/
theorem Grow.pub (a : Grow M G H G' H') (h0 : H p = none) (g0 : G' p = none) (e0 : H' p = some o) : Grow M G H (upd G' p o) H' := by
  refine ⟨fun b u e => ?_, a.h, fun b u e => ?_, fun b e => ?_, a.live⟩
  · rw [upd_ne (ne_of_none (a.g b u e) g0)]; exact a.g b u e
  · by_cases q : b = p
    · subst q; rw [upd_same] at e; rw [← e]; exact e0
    · rw [upd_ne q] at e; exact a.s b u e
  · rw [upd_ne (fun z => e (by rw [z]; exact h0))]; exact a.old b e
/-- the object that may change is changed -/
theorem Grow.row {r : Addr} (a : Grow (M1 r) G H G' H') (g0 : G' r = none) (o : HO) : Grow (M1 r) G H G' (upd H' r o) := by
  refine ⟨a.g, fun b u m e => ?_, fun b u e => ?_, a.old, fun b m e => ?_⟩
  · rw [upd_ne (show b ≠ r from m)]; exact a.h b u m e
  · rw [upd_ne (ne_of_none e g0)]; exact a.s b u e
  · rw [show b = r from m, upd_same]; exact fun z => by cases z
end
theorem _root_.L2.Same.tup {K : PySem.W.Frag} {H H' : Hp} {a : Addr} {xs : List V} (e : Same H H') (h : SqT K H a xs) : SqT K H' a xs := by
  rcases h with (h | ⟨o, h⟩) | h
  · exact .inl (.inl (e _ _ h))
  · exact .inl (.inr ⟨o, e _ _ h⟩)
  · exact .inr h
/-! ### data over G -/
section
variable {K : PySem.W.Frag} {G G' : Hp}
mutual
theorem dp_up (s : Same G G') : ∀ (d : PyData) (v : V), Dp K G v d → Dp K G' v d
  | .none, _, h => by cases h; exact .non
  | .bool b, _, h => by cases h; exact .bl b
  | .int i, _, h => by cases h; exact .int i
  | .str x, _, h => by cases h; exact .str x
  | .list ds, _, h => by cases h with | lst a b => exact .lst (s.seq a) (dpAll_up s ds _ b)
  | .tuple ds, _, h => by cases h with | tup a b => exact .tup (Same.tup s a) (dpAll_up s ds _ b)
  | .dict _, _, h => by cases h
theorem dpAll_up (s : Same G G') : ∀ (ds : List PyData) (vs : List V), DpAll K G vs ds → DpAll K G' vs ds
  | [], _, h => by cases h; exact .nil
  | d :: ds, _, h => by cases h with | cons a b => exact .cons (dp_up s d _ a) (dpAll_up s ds _ b)
end
theorem _root_.L2.Dp.up {d : PyData} {v : V} (h : Dp K G v d) (s : Same G G') : Dp K G' v d := dp_up s d v h
theorem _root_.L2.DpAll.up {ds : List PyData} {vs : List V} (h : DpAll K G vs ds) (s : Same G G') : DpAll K G' vs ds := dpAll_up s ds vs h
theorem _root_.L2.DpAll.len : ∀ {vs : List V} {ds : List PyData}, DpAll K G vs ds → vs.length = ds.length
  | _, _, .nil => rfl
  | _, _, .cons _ b => congrArg Nat.succ b.len
theorem _root_.L2.DpAll.at_ : ∀ {vs : List V} {ds : List PyData} {i : Nat} {v : V}, DpAll K G vs ds → vs[i]? = some v → ∃ d, ds[i]? = some d ∧ Dp K G v d
  | _, _, _, _, .nil, e => by simp at e
  | _, _, 0, _, .cons a b, e => by simp at e; subst e; exact ⟨_, rfl, a⟩
  | _, _, i + 1, v, .cons a b, e => by
    obtain ⟨d, h1, h2⟩ := b.at_ (i := i) (v := v) (by simpa using e)
    exact ⟨d, by simpa using h1, h2⟩
theorem _root_.L2.DpAll.get : ∀ {vs : List V} {ds : List PyData} {i : Nat} {d : PyData}, DpAll K G vs ds → ds[i]? = some d → ∃ v, vs[i]? = some v ∧ Dp K G v d
  | _, _, _, _, .nil, e => by simp at e
  | _, _, 0, _, .cons a b, e => by simp at e; subst e; exact ⟨_, rfl, a⟩
  | _, _, i + 1, d, .cons a b, e => by
    obtain ⟨v, h1, h2⟩ := b.get (i := i) (d := d) (by simpa using e)
    exact ⟨v, by simpa using h1, h2⟩
theorem _root_.L2.DpAll.app : ∀ {vs ws : List V} {ds es : List PyData}, DpAll K G vs ds → DpAll K G ws es → DpAll K G (vs ++ ws) (ds ++ es)
  | _, _, _, _, .nil, b => b
  | _, _, _, _, .cons a r, b => .cons a (r.app b)
theorem _root_.L2.DpAll.one {v : V} {d : PyData} (h : Dp K G v d) : DpAll K G [v] [d] := .cons h .nil
theorem _root_.L2.DpAll.dropN : ∀ {vs : List V} {ds : List PyData} (n : Nat), DpAll K G vs ds → DpAll K G (vs.drop n) (ds.drop n)
  | _, _, 0, h => h
  | _, _, _ + 1, .nil => .nil
  | _, _, n + 1, .cons _ b => b.dropN n
theorem _root_.L2.DpAll.takeN : ∀ {vs : List V} {ds : List PyData} (n : Nat), DpAll K G vs ds → DpAll K G (vs.take n) (ds.take n)
  | _, _, 0, _ => .nil
  | _, _, _ + 1, .nil => .nil
  | _, _, n + 1, .cons a b => .cons a (b.takeN n)
theorem _root_.L2.DpAll.rev : ∀ {vs : List V} {ds : List PyData}, DpAll K G vs ds → DpAll K G vs.reverse ds.reverse
  | _, _, .nil => .nil
  | _, _, .cons a b => by rw [List.reverse_cons, List.reverse_cons]; exact b.rev.app (.one a)
theorem _root_.L2.Dp.list {d : List PyData} {v : V} (h : Dp K G v (.list d)) : ∃ a vs, v = .ref a ∧ SqL K G a vs ∧ DpAll K G vs d := by
  cases h with | lst a b => exact ⟨_, _, rfl, a, b⟩
theorem _root_.L2.Dp.tuple {d : List PyData} {v : V} (h : Dp K G v (.tuple d)) : ∃ a vs, v = .ref a ∧ SqT K G a vs ∧ DpAll K G vs d := by
  cases h with | tup a b => exact ⟨_, _, rfl, a, b⟩
theorem _root_.L2.Dp.of_int {i : Int} {v : V} (h : Dp K G v (.int i)) : v = .int i := by cases h; rfl
theorem _root_.L2.Dp.of_str {x : Str} {v : V} (h : Dp K G v (.str x)) : v = .str x := by cases h; rfl
theorem _root_.L2.Dp.of_bool {b : Bool} {v : V} (h : Dp K G v (.bool b)) : v = .bl b := by cases h; rfl
end
/-! ### what a Lean value is in Python -/
structure Enc (α : Type) where
  to : α → PyData
  deep : Nat
  lay : ∀ a, (to a).canLay0 = true
  dep : ∀ a, (to a).depth ≤ deep
  same : ∀ a b, PyData.eqv (to a) (to b) = true ↔ a = b
section
variable {α : Type}
theorem lay_all (e : Enc α) : ∀ xs : List α, PyData.canLayAll0 (xs.map e.to) = true
  | [] => by simp [PyData.canLayAll0]
  | x :: xs => by rw [List.map_cons, PyData.canLayAll0, e.lay, lay_all e xs]; rfl
theorem dep_all (e : Enc α) : ∀ xs : List α, PyData.depthAll (xs.map e.to) ≤ e.deep
  | [] => by simp [PyData.depthAll]
  | x :: xs => by
    rw [List.map_cons, PyData.depthAll]
    exact Nat.max_le.mpr ⟨e.dep x, dep_all e xs⟩
theorem same_all (e : Enc α) : ∀ xs ys : List α, PyData.eqvAll (xs.map e.to) (ys.map e.to) = true ↔ xs = ys
  | [], [] => by simp [PyData.eqvAll]
  | [], _ :: _ => by simp [PyData.eqvAll]
  | _ :: _, [] => by simp [PyData.eqvAll]
  | x :: xs, y :: ys => by
    rw [List.map_cons, List.map_cons, PyData.eqvAll, Bool.and_eq_true, e.same, same_all e xs ys]
    simp
/-- lists, tuples -/
def eL (e : Enc α) : Enc (List α) where
  to := fun xs => .list (xs.map e.to)
  deep := e.deep + 1
  lay := fun xs => by rw [PyData.canLay0]; exact lay_all e xs
  dep := fun xs => by rw [PyData.depth]; exact Nat.succ_le_succ (dep_all e xs)
  same := fun xs ys => by rw [PyData.eqv]; exact same_all e xs ys
def eT (e : Enc α) : Enc (List α) where
  to := fun xs => .tuple (xs.map e.to)
  deep := e.deep + 1
  lay := fun xs => by rw [PyData.canLay0]; exact lay_all e xs
  dep := fun xs => by rw [PyData.depth]; exact Nat.succ_le_succ (dep_all e xs)
  same := fun xs ys => by rw [PyData.eqv]; exact same_all e xs ys
theorem Enc.shaped (e : Enc α) (h : e.deep ≤ 64) (a : α) : SeqAt.shaped (e.to a) = true := by
  unfold SeqAt.shaped
  rw [e.lay, decide_eq_true (Nat.le_trans (e.dep a) h)]
  rfl
theorem Enc.eqv [DecidableEq α] (e : Enc α) (a b : α) : PyData.eqv (e.to a) (e.to b) = decide (a = b) := by
  rw [Bool.eq_iff_iff, e.same, decide_eq_true_iff]
end
def eN : Enc Nat where
  to := fun n => .int (n : Int)
  deep := 0
  lay := fun _ => by rw [PyData.canLay0]
  dep := fun _ => by rw [PyData.depth]; exact Nat.le_refl _
  same := fun a b => by rw [PyData.eqv, beq_iff_eq]; omega
/-- a row's text -/
def sign (b : Bool) : Nat := if b then 35 else 46
def rowS (r : List Bool) : Str := ⟨(r.map sign).toArray⟩
theorem rowS_cps (r : List Bool) : (rowS r).cps.toList = r.map sign := rfl
theorem rowS_len (r : List Bool) : (rowS r).length = r.length := by
  show (r.map sign).toArray.size = r.length
  simp
theorem sign_inj {a b : Bool} (h : sign a = sign b) : a = b := by
  cases a <;> cases b <;> simp [sign] at h ⊢
theorem rowS_inj {r q : List Bool} (h : rowS r = rowS q) : r = q := by
  have e : r.map sign = q.map sign := by rw [← rowS_cps, ← rowS_cps, h]
  exact List.map_inj_right (fun _ _ => sign_inj) |>.mp e
theorem strOk_row (r : List Bool) : PyData.strOk (rowS r) = true := by
  unfold PyData.strOk
  rw [← Array.all_toList]
  show (r.map sign).all _ = true
  rw [List.all_map, List.all_eq_true]
  intro b _
  cases b <;> decide
def eR : Enc (List Bool) where
  to := fun r => .str (rowS r)
  deep := 0
  lay := fun r => by rw [PyData.canLay0]; exact strOk_row r
  dep := fun _ => by rw [PyData.depth]; exact Nat.le_refl _
  same := fun a b => by
    rw [PyData.eqv, beq_iff_eq]
    exact ⟨rowS_inj, fun e => by rw [e]⟩
/-- pictures, cells, pairs of lists -/
def eP : Enc (List (List Bool)) := eT eR
def eC : Enc (Nat × Nat) where
  to := fun c => .tuple [.int (c.1 : Int), .int (c.2 : Int)]
  deep := 1
  lay := fun c => by simp [PyData.canLay0, PyData.canLayAll0]
  dep := fun c => by simp [PyData.depth, PyData.depthAll]
  same := fun a b => by
    obtain ⟨a1, a2⟩ := a
    obtain ⟨b1, b2⟩ := b
    simp [PyData.eqv, PyData.eqvAll]
    omega
def ePr : Enc (List Nat × List Nat) where
  to := fun c => .tuple [(eL eN).to c.1, (eL eN).to c.2]
  deep := 2
  lay := fun c => by simp [PyData.canLay0, PyData.canLayAll0, (eL eN).lay]
  dep := fun c => by
    have h1 := (eL eN).dep c.1
    have h2 := (eL eN).dep c.2
    have e : (eL eN).deep = 1 := rfl
    rw [e] at h1 h2
    simp [PyData.depth, PyData.depthAll]
    omega
  same := fun a b => by
    obtain ⟨a1, a2⟩ := a
    obtain ⟨b1, b2⟩ := b
    simp only [PyData.eqv, PyData.eqvAll, Bool.and_true, Bool.and_eq_true, (eL eN).same, Prod.mk.injEq]
abbrev eLs : Enc (List Nat) := eL eN
abbrev eLL : Enc (List (List Nat)) := eL eLs
abbrev eCs : Enc (List (Nat × Nat)) := eL eC
section
variable {K : PySem.W.Frag} {G G' : Hp} {α : Type}
/-- v is a, over G -/
abbrev Is (K : PySem.W.Frag) (G : Hp) (e : Enc α) (v : V) (a : α) : Prop := Dp K G v (e.to a)
theorem is_list {e : Enc α} {v : V} {xs : List α} (h : Is K G (eL e) v xs) : ∃ a vs, v = .ref a ∧ SqL K G a vs ∧ DpAll K G vs (xs.map e.to) := h.list
theorem is_tuple {e : Enc α} {v : V} {xs : List α} (h : Is K G (eT e) v xs) : ∃ a vs, v = .ref a ∧ SqT K G a vs ∧ DpAll K G vs (xs.map e.to) := h.tuple
theorem all_get {e : Enc α} {vs : List V} {xs : List α} {i : Nat} {x : α} (h : DpAll K G vs (xs.map e.to)) (hx : xs[i]? = some x) : ∃ v, vs[i]? = some v ∧ Is K G e v x := by
  apply h.get
  rw [List.getElem?_map, hx]
  rfl
theorem all_at {e : Enc α} {vs : List V} {xs : List α} {i : Nat} {v : V} (h : DpAll K G vs (xs.map e.to)) (hv : vs[i]? = some v) : ∃ x, xs[i]? = some x ∧ Is K G e v x := by
  obtain ⟨d, h1, h2⟩ := h.at_ hv
  rw [List.getElem?_map] at h1
  cases q : xs[i]? with
  | none => rw [q] at h1; cases h1
  | some x => rw [q] at h1; cases h1; exact ⟨x, rfl, h2⟩
theorem all_len {e : Enc α} {vs : List V} {xs : List α} (h : DpAll K G vs (xs.map e.to)) : vs.length = xs.length := by rw [h.len, List.length_map]
def nV (n : Nat) : V := .int (n : Int)
theorem all_nats : ∀ {vs : List V} {xs : List Nat}, DpAll K G vs (xs.map eN.to) → vs = xs.map nV
  | _, [], h => by cases h; rfl
  | _, x :: xs, h => by
    cases h with
    | cons a b => rw [Dp.of_int a, all_nats b]; rfl
theorem nats_all : ∀ xs : List Nat, DpAll K G (xs.map nV) (xs.map eN.to)
  | [] => .nil
  | x :: xs => .cons (.int _) (nats_all xs)
theorem is_nats {v : V} {xs : List Nat} (h : Is K G eLs v xs) : ∃ a, v = .ref a ∧ SqL K G a (xs.map nV) := by
  obtain ⟨a, vs, e, h1, h2⟩ := is_list h
  rw [all_nats h2] at h1
  exact ⟨a, e, h1⟩
theorem nats_is {a : Addr} {xs : List Nat} (h : SqL K G a (xs.map nV)) : Is K G eLs (.ref a) xs := .lst h (nats_all xs)
theorem nV_int (xs : List Nat) : xs.map nV = (LP.up xs).map V.int := by
  unfold LP.up
  rw [List.map_map]
  rfl
def rV (r : List Bool) : V := .str (rowS r)
theorem all_rows : ∀ {vs : List V} {p : List (List Bool)}, DpAll K G vs (p.map eR.to) → vs = p.map rV
  | _, [], h => by cases h; rfl
  | _, x :: xs, h => by
    cases h with
    | cons a b => rw [Dp.of_str a, all_rows b]; rfl
theorem rows_all : ∀ p : List (List Bool), DpAll K G (p.map rV) (p.map eR.to)
  | [] => .nil
  | x :: xs => .cons (.str _) (rows_all xs)
theorem is_pic {v : V} {p : List (List Bool)} (h : Is K G eP v p) : ∃ a, v = .ref a ∧ SqT K G a (p.map rV) := by
  obtain ⟨a, vs, e, h1, h2⟩ := is_tuple h
  rw [all_rows h2] at h1
  exact ⟨a, e, h1⟩
theorem pic_is {a : Addr} {p : List (List Bool)} (h : SqT K G a (p.map rV)) : Is K G eP (.ref a) p := .tup h (rows_all p)
theorem is_cell {v : V} {c : Nat × Nat} (h : Is K G eC v c) : ∃ a, v = .ref a ∧ SqT K G a [nV c.1, nV c.2] := by
  obtain ⟨a, vs, e, h1, h2⟩ := Dp.tuple h
  cases h2 with
  | cons x y =>
    cases y with
    | cons z u =>
      cases u
      rw [Dp.of_int x, Dp.of_int z] at h1
      exact ⟨a, e, h1⟩
theorem cell_is {a : Addr} {c : Nat × Nat} (h : SqT K G a [nV c.1, nV c.2]) : Is K G eC (.ref a) c := .tup h (.cons (.int _) (.cons (.int _) .nil))
end
end LW
/-! Walks, comprehensions and loops over the two heaps. -/
namespace LW
open PySem PySem.Spec L2
open PyProof.Rows hiding St RelV
/-- n turns over what stands in G1 -/
structure GW (J : It) (n : Nat) (G1 : Hp) (Y : Nat → V → Hp → Prop) : Prop where
  goes : ∀ i G H, i < n → Same G1 G → Same G H → J.go i H
  stops : ∀ G H, Same G1 G → Same G H → J.stop n H
  yields : ∀ i G H x H', i < n → Same G1 G → Same G H → J.yld i H x H' → ∃ G', Grow M0 G H G' H' ∧ Y i x G'
section
variable {K : PySem.W.Frag} {G1 : Hp} {a : Addr} {xs : List V}
abbrev YV (xs : List V) : Nat → V → Hp → Prop := fun i x _ => xs[i]? = some x
theorem gw_list (h : SqL K G1 a xs) : GW (Itl K a) xs.length G1 (YV xs) where
  goes := fun i G H hi s1 s2 => ⟨xs, xs[i], s2.seq (s1.seq h), List.getElem?_eq_getElem hi⟩
  stops := fun G H s1 s2 => ⟨xs, s2.seq (s1.seq h), Nat.le_refl _⟩
  yields := fun i G H x H' hi s1 s2 y => by
    obtain ⟨rfl, y⟩ := y
    exact ⟨G, .here s2, y xs (s2.seq (s1.seq h))⟩
theorem gw_tup (h : SqT K G1 a xs) : GW (Itt K a) xs.length G1 (YV xs) where
  goes := fun i G H hi s1 s2 => ⟨xs, xs[i], s2.tup (s1.tup h), List.getElem?_eq_getElem hi⟩
  stops := fun G H s1 s2 => ⟨xs, s2.tup (s1.tup h), Nat.le_refl _⟩
  yields := fun i G H x H' hi s1 s2 y => by
    obtain ⟨rfl, y⟩ := y
    exact ⟨G, .here s2, y xs (s2.tup (s1.tup h))⟩
theorem gw_range {n : Nat} : GW (Itr 0 n) n G1 (fun i x _ => x = nV i) where
  goes := fun i G H hi _ _ => hi
  stops := fun G H _ _ => Nat.le_refl _
  yields := fun i G H x H' hi s1 s2 y => by
    obtain ⟨rfl, rfl⟩ := y
    refine ⟨G, .here s2, ?_⟩
    show V.int (0 + (i : Int)) = V.int (i : Int)
    rw [Int.zero_add]
theorem gw_rangeI {lo : Int} {n : Nat} : GW (Itr lo n) n G1 (fun i x _ => x = .int (lo + i)) where
  goes := fun i G H hi _ _ => hi
  stops := fun G H _ _ => Nat.le_refl _
  yields := fun i G H x H' hi s1 s2 y => by
    obtain ⟨rfl, rfl⟩ := y
    exact ⟨G, .here s2, rfl⟩
theorem gw_str {z : Str} : GW (Its z) z.cps.size G1 (fun i x _ => ∃ c, z.cps[i]? = some c ∧ x = .str ⟨#[c]⟩) where
  goes := fun i G H hi _ _ => hi
  stops := fun G H _ _ => Nat.le_refl _
  yields := fun i G H x H' hi s1 s2 y => by
    obtain ⟨rfl, y⟩ := y
    exact ⟨G, .here s2, y⟩
/-- new pairs -/
theorem gw_enumS {z : Str} : GW (ItE z.cps.size fun i x => ∃ c, z.cps[i]? = some c ∧ x = .str ⟨#[c]⟩) z.cps.size G1 (fun i v G => ∃ T c, v = .ref T ∧ SqT K G T [nV i, .str ⟨#[c]⟩] ∧ z.cps[i]? = some c) where
  goes := fun i G H hi _ _ => hi
  stops := fun G H _ _ => rfl
  yields := fun i G H x H' hi s1 s2 y => by
    obtain ⟨T, u, rfl, nT, rfl, c, hc, rfl⟩ := y
    exact ⟨_, .new s2 nT _, T, c, rfl, .of upd_same, hc⟩
theorem gw_enumT (h : SqT K G1 a xs) : GW (IteT K a) xs.length G1 (fun i v G => ∃ T x, v = .ref T ∧ SqT K G T [nV i, x] ∧ xs[i]? = some x) where
  goes := fun i G H hi s1 s2 => ⟨xs, xs[i], s2.tup (s1.tup h), List.getElem?_eq_getElem hi⟩
  stops := fun G H s1 s2 => ⟨xs, s2.tup (s1.tup h), rfl⟩
  yields := fun i G H x H' hi s1 s2 y => by
    obtain ⟨T, u, rfl, nT, rfl, hu⟩ := y
    exact ⟨_, .new s2 nT _, T, u, rfl, .of upd_same, hu xs (s2.tup (s1.tup h))⟩
theorem gw_enumL (h : SqL K G1 a xs) : GW (Ite K a) xs.length G1 (fun i v G => ∃ T x, v = .ref T ∧ SqT K G T [nV i, x] ∧ xs[i]? = some x) where
  goes := fun i G H hi s1 s2 => ⟨xs, xs[i], s2.seq (s1.seq h), List.getElem?_eq_getElem hi⟩
  stops := fun G H s1 s2 => ⟨xs, s2.seq (s1.seq h), Nat.le_refl _⟩
  yields := fun i G H x H' hi s1 s2 y => by
    obtain ⟨T, u, rfl, nT, rfl, hu⟩ := y
    exact ⟨_, .new s2 nT _, T, u, rfl, .of upd_same, hu xs (s2.seq (s1.seq h))⟩
end
/-! ### a list comprehension -/
/-- what holds of both heaps beside, whatever private objects are laid, changed and done -/
structure Beside (G1 H1 : Hp) (Sv : Hp → Hp → Prop) : Prop where
  grow : ∀ G H G' H', Sv G H → Grow M0 G H G' H' → Sv G' H'
  put : ∀ G H D o, H1 D = none → G D = none → Sv G H → Sv G (upd H D o)
  pub : ∀ G H D o, H1 D = none → G D = none → H D = some o → Sv G H → Sv (upd G D o) H
theorem beside_true {G1 H1 : Hp} : Beside G1 H1 fun _ _ => True := ⟨fun _ _ _ _ _ _ => trivial, fun _ _ _ _ _ _ _ => trivial, fun _ _ _ _ _ _ _ _ => trivial⟩
section
variable {M : Addr → Prop} {K : PySem.W.Frag} {J : It} {n : Nat} {G1 H1 : Hp} {Y : Nat → V → Hp → Prop} {g : TG} {tt : TT} {te : TE} {vs : List Nat} {σ : St} {Qd : Addr → Hp → Prop}
/-- one turn: from (G, H) to an element of the data, or to none -/
abbrev Turn1 (M : Addr → Prop) (K : PySem.W.Frag) (g : TG) (tt : TT) (te : TE) (vs : List Nat) (σ : St) (x : V) (G H : Hp) (Sv : Hp → Hp → Prop) (ok : Option PyData → Prop) : Prop :=
  ∀ (C1 : VK) (C0 : Hp → Prop), (∀ d y G' H', ok (some d) → Grow M G H G' H' → Sv G' H' → Dp K G' y d → C1 y H') → (ok none → ∀ G' H', Grow M G H G' H' → Sv G' H' → C0 H') →
    g x (wipe σ vs) H fun σ2 H2 => wipe σ2 vs = wipe σ vs ∧ tt σ2 H2 fun b H3 => if b = true then te σ2 H3 C1 else C0 H3
theorem lc_run (w : GW J n G1 Y) (s1 : Same G1 H1) (hM : ∀ b, M b → H1 b ≠ none) (hn : n ≤ 100000) (acc : Nat → List PyData → Prop) (Sv : Hp → Hp → Prop) (bs : Beside G1 H1 Sv) (sv0 : Sv G1 H1) (a0 : acc 0 [])
    (turn : ∀ i x ds G H, i < n → acc i ds → Grow M G1 H1 G H → Sv G H → Y i x G → Turn1 M K g tt te vs σ x G H Sv fun o => match o with
      | some d => acc (i + 1) (ds ++ [d])
      | none => acc (i + 1) ds)
    (done : ∀ D ds G' H', acc n ds → Grow M G1 H1 G' H' → Sv G' H' → Dp K G' (.ref D) (.list ds) → Qd D H') :
    ∀ D, H1 D = none → ∃ W : Nat → Nat → Hp → Prop, (∃ m, W 0 m (upd H1 D (.lst []))) ∧ ∀ i m H, W i m H → (J.stop i H ∧ Qd D H) ∨
      (J.go i H ∧ ∃ Nx : Hp → Prop, (∀ H', Nx H' → ∃ m', m' < m ∧ W (i + 1) m' H') ∧ ∀ x H', J.yld i H x H' → g x (wipe σ vs) H' fun σ2 H2 => wipe σ2 vs = wipe σ vs ∧ tt σ2 H2 fun b H3 =>
        if b = true then te σ2 H3 fun y H4 => ∃ acc, H4 D = some (.lst acc) ∧ acc.length < sizeLine ∧ Nx (upd H4 D (.lst (acc ++ [y]))) else Nx H3) := by
  intro D hD
  have gD : G1 D = none := s1.free hD
  have mD : ¬ M D := fun z => hM D z hD
  refine ⟨fun i m H => m = n - i ∧ i ≤ n ∧ ∃ G us ds, Grow M G1 H1 G H ∧ Sv G H ∧ G D = none ∧ H D = some (.lst us) ∧ DpAll K G us ds ∧ us.length ≤ i ∧ acc i ds,
    ⟨n, by simp, Nat.zero_le _, G1, [], [], .hide s1 hD _, bs.put _ _ _ _ hD gD sv0, gD, upd_same, .nil, Nat.le_refl _, a0⟩, ?_⟩
  rintro i m H ⟨rfl, hi, G, us, ds, gr, sv, g0, hH, hds, hlen, ha⟩
  by_cases hlt : i < n
  · refine .inr ⟨w.goes i G H hlt gr.g gr.s, fun H' => ∃ G' us' ds', Grow M G1 H1 G' H' ∧ Sv G' H' ∧ G' D = none ∧ H' D = some (.lst us') ∧ DpAll K G' us' ds' ∧ us'.length ≤ i + 1 ∧ acc (i + 1) ds', ?_, fun x H' y => ?_⟩
    · rintro H' ⟨G', us', ds', r⟩
      exact ⟨n - (i + 1), by omega, rfl, hlt, G', us', ds', r⟩
    · obtain ⟨G', gr1, hy⟩ := w.yields i G H x H' hlt gr.g gr.s y
      have hH1 : H' D = some (.lst us) := gr1.h D _ id hH
      have g1 : G' D = none := (gr1.old D (by rw [hH]; exact fun z => by cases z)).trans g0
      refine turn i x ds G' H' hlt ha (gr.trans gr1.weak) (bs.grow _ _ _ _ sv gr1) hy _ _ (fun d z G2 H2 k gr2 sv2 hz => ?_) fun k G2 H2 gr2 sv2 => ?_
      · have gr3 := (gr.trans gr1.weak).trans gr2
        have hH2 : H2 D = some (.lst us) := gr2.h D _ mD hH1
        have g2 : G2 D = none := (gr2.old D (by rw [hH1]; exact fun z => by cases z)).trans g1
        refine ⟨us, hH2, by rw [sizeLine_eq]; omega, G2, us ++ [z], ds ++ [d], gr3.put hD g2 _, bs.put _ _ _ _ hD g2 sv2, g2, upd_same, (hds.up (gr1.g.trans gr2.g)).app (.one hz), ?_, k⟩
        rw [List.length_append]
        exact Nat.succ_le_succ hlen
      · exact ⟨G2, us, ds, (gr.trans gr1.weak).trans gr2, sv2, (gr2.old D (by rw [hH1]; exact fun z => by cases z)).trans g1, gr2.h D _ mD hH1, hds.up (gr1.g.trans gr2.g), by omega, k⟩
  · have e : i = n := by omega
    subst e
    refine .inl ⟨w.stops G H gr.g gr.s, ?_⟩
    exact done D ds _ H ha (gr.pub hD g0 hH) (bs.pub _ _ _ _ hD g0 hH sv) (.lst (.of upd_same) (hds.up fun b o e => by
      rw [upd_ne (ne_of_none e g0)]; exact e))
/-- nothing drawn: the elements are f of the turn -/
theorem lc_pure (f : Nat → Option PyData) (w : GW J n G1 Y) (s1 : Same G1 H1) (hn : n ≤ 100000)
    (turn : ∀ i x G H, i < n → Grow M0 G1 H1 G H → Y i x G → ∀ (C1 : VK) (C0 : Hp → Prop), (∀ d y G' H', f i = some d → Grow M0 G H G' H' → Dp K G' y d → C1 y H') → (f i = none → ∀ G' H', Grow M0 G H G' H' → C0 H') →
      g x (wipe σ vs) H fun σ2 H2 => wipe σ2 vs = wipe σ vs ∧ tt σ2 H2 fun b H3 => if b = true then te σ2 H3 C1 else C0 H3)
    (done : ∀ D G' H', Grow M0 G1 H1 G' H' → Dp K G' (.ref D) (.list ((List.range n).filterMap f)) → Qd D H') :
    ∀ D, H1 D = none → ∃ W : Nat → Nat → Hp → Prop, (∃ m, W 0 m (upd H1 D (.lst []))) ∧ ∀ i m H, W i m H → (J.stop i H ∧ Qd D H) ∨
      (J.go i H ∧ ∃ Nx : Hp → Prop, (∀ H', Nx H' → ∃ m', m' < m ∧ W (i + 1) m' H') ∧ ∀ x H', J.yld i H x H' → g x (wipe σ vs) H' fun σ2 H2 => wipe σ2 vs = wipe σ vs ∧ tt σ2 H2 fun b H3 =>
        if b = true then te σ2 H3 fun y H4 => ∃ acc, H4 D = some (.lst acc) ∧ acc.length < sizeLine ∧ Nx (upd H4 D (.lst (acc ++ [y]))) else Nx H3) := by
  refine lc_run (M := M0) (K := K) w s1 (fun b z => z.elim) hn (fun i ds => ds = (List.range i).filterMap f) (fun _ _ => True) beside_true trivial rfl (fun i x ds G H hi ha gr _ hy C1 C0 k1 k0 => ?_) fun D ds G' H' ha gr _ hd => ?_
  · subst ha
    refine turn i x G H hi gr hy C1 C0 (fun d y G' H' e gr2 hd => k1 d y G' H' ?_ gr2 trivial hd) fun e G' H' gr2 => k0 ?_ G' H' gr2 trivial
    · show _ = _
      rw [List.range_succ, List.filterMap_append, List.filterMap_cons, e, List.filterMap_nil]
    · show _ = _
      rw [List.range_succ, List.filterMap_append, List.filterMap_cons, e, List.filterMap_nil, List.append_nil]
  · subst ha
    exact done D G' H' gr hd
end
/-! ### for -/
section
variable {J : It} {n : Nat} {G1 H1 : Hp} {Y : Nat → V → Hp → Prop} {g : TG} {tb : TS} {D : Ends} {σ : St}
theorem for_run (w : GW J n G1 Y) (Iv : Nat → St → Hp → Hp → Prop) (hI : ∀ i σ G H, Iv i σ G H → Same G1 G ∧ Same G H) (h0 : Iv 0 σ G1 H1)
    (turn : ∀ i x σ G H G' H', i < n → Iv i σ G H → Grow M0 G H G' H' → Y i x G' → g x σ H' fun σ2 H2 => tb { D with nx := fun σ' H'' => ∃ G'', Iv (i + 1) σ' G'' H'', ct := fun σ' H'' => ∃ G'', Iv (i + 1) σ' G'' H'', bk := D.nx } σ2 H2)
    (done : ∀ σ G H, Iv n σ G H → D.nx σ H) :
    ∃ W : Nat → Nat → St → Hp → Prop, (∃ m, W 0 m σ H1) ∧ ∀ i m σ H, W i m σ H → (J.stop i H ∧ D.nx σ H) ∨
      (J.go i H ∧ ∃ N : St → Hp → Prop, (∀ σ' H', N σ' H' → ∃ m', m' < m ∧ W (i + 1) m' σ' H') ∧ ∀ x H', J.yld i H x H' → g x σ H' fun σ2 H2 => tb { D with nx := N, ct := N, bk := D.nx } σ2 H2) := by
  refine ⟨fun i m σ H => m = n - i ∧ i ≤ n ∧ ∃ G, Iv i σ G H, ⟨n, by simp, Nat.zero_le _, G1, h0⟩, ?_⟩
  rintro i m σ H ⟨rfl, hi, G, iv⟩
  obtain ⟨s1, s2⟩ := hI i σ G H iv
  by_cases hlt : i < n
  · refine .inr ⟨w.goes i G H hlt s1 s2, fun σ' H' => ∃ G', Iv (i + 1) σ' G' H', ?_, fun x H' y => ?_⟩
    · rintro σ' H' ⟨G', iv'⟩
      exact ⟨n - (i + 1), by omega, rfl, hlt, G', iv'⟩
    · obtain ⟨G', gr, hy⟩ := w.yields i G H x H' hlt s1 s2 y
      exact turn i x σ G H G' H' hlt iv gr hy
  · have e : i = n := by omega
    subst e
    exact .inl ⟨w.stops G H s1 s2, done σ G H iv⟩
end
/-! ### dicts that tell which numbers are in -/
def ks (xs : List Nat) : List (Key × V) := xs.map fun (n : Nat) => ((Sum.inl (n : Int) : Key), V.bl true)
theorem ks_len (xs : List Nat) : (ks xs).length = xs.length := List.length_map ..
theorem ks_has (xs : List Nat) (n : Nat) : (valV (ks xs) (Sum.inl (n : Int))).isSome = xs.contains n := by
  rw [← valV_any]
  unfold ks
  rw [List.any_map]
  induction xs with
  | nil => rfl
  | cons x xs ih =>
    rw [List.any_cons, ih, List.contains_cons]
    congr 1
    show decide ((Sum.inl (x : Int) : Key) = Sum.inl (n : Int)) = (n == x)
    rw [Bool.eq_iff_iff, decide_eq_true_iff, beq_iff_eq]
    constructor
    · intro e; have := Sum.inl.inj e; omega
    · intro e; rw [e]
theorem ks_put (xs : List Nat) (n : Nat) : putK (ks xs) (Sum.inl (n : Int)) (.bl true) = ks (if xs.contains n then xs else xs ++ [n]) := by
  unfold putK
  rw [valV_any, ks_has]
  by_cases h : xs.contains n = true
  · rw [if_pos h, if_pos h]
    unfold ks
    rw [List.map_map]
    apply List.map_congr_left
    intro x _
    show (if (Sum.inl (x : Int) : Key) = Sum.inl (n : Int) then ((Sum.inl (x : Int) : Key), V.bl true) else (Sum.inl (x : Int), V.bl true)) = _
    split <;> rfl
  · rw [if_neg h, if_neg h]
    unfold ks
    rw [List.map_append]
    rfl
/-- {x: True for x in xs} of a list of numbers, each once -/
theorem dc_names {K : PySem.W.Frag} {a : Addr} {xs : List Nat} {G1 H1 : Hp} {σ : St} {v : Nat} {Qd : Addr → Hp → Prop} (h : SqL K G1 a (xs.map nV)) (s1 : Same G1 H1) (hn : xs.Nodup) (hl : xs.length ≤ 100000) (hv : v < σ.length)
    (done : ∀ D G' H', Grow M0 G1 H1 G' H' → G' D = some (.dK (ks xs)) → Qd D H') :
    ∀ D, H1 D = none → ∃ W : Nat → Nat → Hp → Prop, (∃ m, W 0 m (upd H1 D (.dK []))) ∧ ∀ i m H, W i m H → ((Itl K a).stop i H ∧ Qd D H) ∨
      ((Itl K a).go i H ∧ ∃ Nx : Hp → Prop, (∀ H', Nx H' → ∃ m', m' < m ∧ W (i + 1) m' H') ∧ ∀ x H', (Itl K a).yld i H x H' → gName v x (wipe σ [v]) H' fun σ2 H2 => wipe σ2 [v] = wipe σ [v] ∧ tYes σ2 H2 fun b H3 =>
        if b = true then tVar v σ2 H3 fun y H4 => tC (.bl true) σ2 H4 fun z H5 => ∃ kvs k, y = kV k ∧ H5 D = some (.dK kvs) ∧ kvs.length < sizeLine ∧ Nx (upd H5 D (.dK (putK kvs k z))) else Nx H3) := by
  intro D hD
  have gD : G1 D = none := s1.free hD
  have w := gw_list (K := K) h
  have wl : (xs.map nV).length = xs.length := List.length_map ..
  refine ⟨fun i m H => m = xs.length - i ∧ i ≤ xs.length ∧ Grow M0 G1 H1 G1 H ∧ H D = some (.dK (ks (xs.take i))), ⟨xs.length, by simp, Nat.zero_le _, .hide s1 hD _, upd_same⟩, ?_⟩
  rintro i m H ⟨rfl, hi, gr, hH⟩
  by_cases hlt : i < xs.length
  · refine .inr ⟨w.goes i G1 H (by rw [wl]; exact hlt) (.refl _) gr.s, fun H' => Grow M0 G1 H1 G1 H' ∧ H' D = some (.dK (ks (xs.take (i + 1)))), ?_, fun x H' y => ?_⟩
    · rintro H' ⟨r1, r2⟩
      exact ⟨xs.length - (i + 1), by omega, rfl, hlt, r1, r2⟩
    · obtain ⟨rfl, y⟩ := y
      have hx := y _ (gr.s.seq h)
      rw [List.getElem?_map, List.getElem?_eq_getElem hlt] at hx
      have hx2 : x = nV xs[i] := (Option.some.inj hx).symm
      subst hx2
      refine ⟨?_, ?_⟩
      · show ((σ.set v none).set v (some (nV xs[i]))).set v none = σ.set v none
        rw [List.set_set, List.set_set]
      · refine ⟨nV xs[i], ?_, ks (xs.take i), Sum.inl (xs[i] : Int), rfl, hH, ?_, gr.put hD gD _, ?_⟩
        · show ((σ.set v none).set v (some (nV xs[i])))[v]? = _
          rw [List.getElem?_set_self (by rw [List.length_set]; exact hv)]
        · rw [ks_len, List.length_take, sizeLine_eq]; omega
        · rw [upd_same, ks_put, if_neg]
          · rw [List.take_add_one, List.getElem?_eq_getElem hlt]; rfl
          · rw [List.contains_iff_mem]
            intro z
            obtain ⟨j, hj, e⟩ := List.getElem_of_mem z
            rw [List.getElem_take] at e
            rw [List.length_take] at hj
            have := (List.getElem_inj hn).mp e
            omega
  · have e : i = xs.length := by omega
    subst e
    rw [List.take_length] at hH
    refine .inl ⟨?_, done D _ H (gr.pub hD gD hH) upd_same⟩
    have := w.stops G1 H (.refl _) gr.s
    rw [wl] at this
    exact this
/-! ### sorted rows, over the two heaps -/
def rSortedG (K : PySem.W.Frag) : List V → Hp → VK → Prop := fun us H Q => ∃ (G : Hp) (v : V) (rows : List (List Nat)), us = [v] ∧ Same G H ∧ Is K G eLL v rows ∧ rows.length ≤ 100000 ∧
  ∀ v' G' H', Grow M0 G H G' H' → Is K G' eLL v' (rows.mergeSort LP.le2) → Q v' H'
theorem each_of {K : PySem.W.Frag} {G : Hp} {enc : List Nat → PyData} : ∀ {vs : List V} {us : List Value} {rows : List (List Nat)}, Vals vs us → DpAll K G vs (rows.map enc) → PySem.W.EachIs (fun u r => ∃ x, RelV x u ∧ Dp K G x (enc r)) us rows
  | _, _, [], .nil, .nil => .nil
  | _, _, r :: rows, .cons a b, .cons c d => .cons ⟨_, a, c⟩ (each_of b d)
theorem of_each {K : PySem.W.Frag} {G : Hp} {enc : List Nat → PyData} : ∀ {us : List Value} {rows : List (List Nat)}, PySem.W.EachIs (fun u r => ∃ x, RelV x u ∧ Dp K G x (enc r)) us rows → ∃ vs, Vals vs us ∧ DpAll K G vs (rows.map enc)
  | _, _, .nil => ⟨[], .nil, .nil⟩
  | _, _, .cons ⟨x, h1, h2⟩ b => by
    obtain ⟨vs, q1, q2⟩ := of_each b
    exact ⟨x :: vs, .cons h1 q1, .cons h2 q2⟩
theorem cr_sortedG {X : Cx} (hu : X.A.units + 64 < cLine) : CallR X (.builtin "sorted") (rSortedG X.K) := by
  intro pins s σ H vs us Q I r h
  obtain ⟨G, v, rows, rfl, sG, hv, hz, q⟩ := h
  obtain ⟨a, xs, rfl, hs, hds⟩ := is_list hv
  obtain ⟨its, rv, hl, _⟩ := I.list (sG.seq hs)
  rw [Vals.ref1 r]
  have enc_eq : (eLs.to : List Nat → PyData) = fun b => .list ((LP.up b).map .int) := by
    funext b
    show PyData.list (b.map eN.to) = _
    unfold LP.up
    rw [List.map_map]
    rfl
  have e := each_of rv hds
  have er : PySem.W.EachIs (fun v b => ∃ as, Reads s.heap v (eLs.to b) as) its rows := e.mono fun u b ⟨x, h1, h2⟩ => Dp.reads I (eLs.to b) x u (h2.up sG) h1
  have hdep : ∀ b : List Nat, (eLs.to b).depth ≤ 1 := fun b => eLs.dep b
  refine PySem.W.sorted_data (R := fun u r => ∃ x, RelV x u ∧ Dp X.K G x (eLs.to r)) (enc := eLs.to) hl.isList e er ?_ ?_ ?_ (fun b _ => by have := hdep b; omega) fun out hlen ho => ?_
  · apply PySem.W.AllAlike.of
    intro b b'
    rw [enc_eq]
    simp only [PySem.W.alike]
    exact PySem.W.alike_ints _ _
  · exact PySem.W.Sortable.others fun b => ⟨fun z => (by cases z), fun xs z => (by cases z)⟩
  · rw [sizeLine_eq]; omega
  · have eo : PySem.W.dataLe false (eLs.to : List Nat → PyData) = LP.le2 := by
      rw [enc_eq, PySem.W.dataLe_rows]
      rfl
    rw [eo] at ho
    obtain ⟨ys, q1, q2⟩ := of_each ho
    obtain ⟨ep, he'⟩ := PyProof.Rows.sortedAll_at s.heap its out.toArray
    have hn : H (s.heap.objs.size + 1) = none := I.hok.fresh (Nat.le_succ _)
    have hlen2 : ys.length ≤ sizeLine := by
      rw [q1.length, hlen, sizeLine_eq]; omega
    refine ⟨.ref _, upd H (s.heap.objs.size + 1) (.lst ys), I.laid (t' := s.toks) (fun _ _ => PyProof.Rows.sortedAll_old) (Nat.le_succ _) ⟨hlen2, out, ep, q1, he'⟩, rfl, ?_⟩
    exact q _ _ _ (.new sG hn _) (.lst (.of upd_same) (q2.up fun b o e => by rw [upd_ne (ne_of_none e (sG.free hn))]; exact e))
end LW
/-! Slices, sums of tuples, comprehensions of two clauses. -/
namespace LW
open PySem PySem.Spec L2
open PyProof.Rows hiding St RelV
theorem small_line {n : Nat} (h : n ≤ 100000) : n ≤ sizeLine := by rw [sizeLine_eq]; omega
/-! ### slices -/
theorem cut_take (xs : List V) (k : Nat) : cutV xs none (some (k : Int)) = xs.take k := by
  unfold cutV
  rw [HT.sIx_none, HT.sIx_nat, List.drop_zero, Nat.sub_zero]
  rcases Nat.le_total k xs.length with h | h
  · rw [Nat.min_eq_left h]
  · rw [Nat.min_eq_right h, List.take_length, List.take_of_length_le h]
theorem cut_drop (xs : List V) (k : Nat) : cutV xs (some (k : Int)) none = xs.drop k := by
  unfold cutV
  rw [HT.sIx_none, HT.sIx_nat]
  rcases Nat.le_total k xs.length with h | h
  · rw [Nat.min_eq_left h, List.take_of_length_le (by rw [List.length_drop]; omega)]
  · rw [Nat.min_eq_right h, Nat.sub_self, List.take_zero, List.drop_of_length_le h]
theorem cut_last (xs : List V) : cutV xs none (some (-1)) = xs.dropLast := by
  unfold cutV
  rw [HT.sIx_none, List.drop_zero, Nat.sub_zero, List.dropLast_eq_take]
  congr 1
  show (if (-1 : Int) < 0 then ((-1 : Int) + (xs.length : Int)).toNat else min (-1 : Int).toNat xs.length) = _
  rw [if_pos (by decide)]
  omega
theorem row_take (r : List Bool) (k : Nat) : cutS (rowS r) none (some (k : Int)) = rowS (r.take k) := by
  unfold cutS
  rw [HT.sIx_none, HT.sIx_nat, rowS_cps, rowS_len, List.drop_zero, Nat.sub_zero]
  unfold rowS
  congr 2
  rw [← List.map_take]
  rcases Nat.le_total k r.length with h | h
  · rw [Nat.min_eq_left h]
  · rw [Nat.min_eq_right h, List.take_length, List.take_of_length_le h]
theorem row_drop (r : List Bool) (k : Nat) : cutS (rowS r) (some (k : Int)) none = rowS (r.drop k) := by
  unfold cutS
  rw [HT.sIx_none, HT.sIx_nat, rowS_cps, rowS_len]
  unfold rowS
  congr 2
  rw [List.map_drop]
  rcases Nat.le_total k r.length with h | h
  · rw [Nat.min_eq_left h, List.take_of_length_le (by rw [List.length_drop, List.length_map]; omega)]
  · rw [Nat.min_eq_right h, Nat.sub_self, List.take_zero, List.drop_of_length_le (by rw [List.length_map]; exact h)]
theorem row_app (r q : List Bool) : rowS r ++ rowS q = rowS (r ++ q) := by
  unfold rowS
  rw [List.map_append]
  show Str.mk ((r.map sign).toArray ++ (q.map sign).toArray) = _
  rw [List.append_toArray]
theorem row_mul : ∀ {n : Nat}, 1 ≤ n → n ≤ 3 → Txt.mul ⟨#[35]⟩ n = rowS (List.replicate n true)
  | 0, h, _ => absurd h (by decide)
  | 1, _, _ => rfl
  | 2, _, _ => rfl
  | 3, _, _ => rfl
  | n + 4, _, h => absurd h (by omega)
theorem row_white : (⟨#[46]⟩ : Str) = rowS [false] := rfl
theorem row_black : (⟨#[35]⟩ : Str) = rowS [true] := rfl
theorem row_empty : Str.empty = rowS [] := rfl
section
variable {M : Addr → Prop} {K : PySem.W.Frag} {G H : Hp} {a b : Addr} {xs ys : List V} {Q : VK}
theorem slT_run {lo hi : Option Int} (ha : SqT K G a xs) (s : Same G H) (k : ∀ c G' H', Grow M0 G H G' H' → SqT K G' c (cutV xs lo hi) → Q (.ref c) H') : rSlA K (.ref a) lo hi H Q := by
  refine ⟨a, xs, rfl, s.tup ha, fun e => ?_, fun _ p np => k p _ _ (.new s np _) (.of upd_same)⟩
  refine k a G H (.here s) ?_
  have : cutV xs lo hi = xs := by
    unfold cutV
    rw [e.1, e.2, List.drop_zero, Nat.sub_zero, List.take_length]
  rw [this]
  exact ha
theorem slL_run {lo hi : Option Int} (ha : SqL K G a xs) (s : Same G H) (k : ∀ c G' H', Grow M0 G H G' H' → SqL K G' c (cutV xs lo hi) → Q (.ref c) H') : rSlL K (.ref a) lo hi H Q :=
  ⟨a, xs, rfl, s.seq ha, fun p np => k p _ _ (.new s np _) (.of upd_same)⟩
theorem cat_run (ha : SqT K G a xs) (hb : SqT K G b ys) (s : Same G H) (hl : xs.length + ys.length ≤ 100000) (k : ∀ c G' H', Grow M0 G H G' H' → SqT K G' c (xs ++ ys) → Q (.ref c) H') : rCatA K (.ref a) (.ref b) H Q := by
  refine ⟨a, b, xs, ys, rfl, rfl, s.tup ha, s.tup hb, small_line hl, fun e => ?_, fun _ e => ?_, fun _ _ p np => k p _ _ (.new s np _) (.of upd_same)⟩
  · subst e; exact k b G H (.here s) hb
  · subst e; exact k a G H (.here s) (by rw [List.append_nil]; exact ha)
/-- a new list, a new tuple, that stays -/
theorem new_lst (s : Same G H) (k : ∀ c G' H', Grow M0 G H G' H' → SqL K G' c xs → Q (.ref c) H') : ∀ p, H p = none → Q (.ref p) (upd H p (.lst xs)) :=
  fun p np => k p _ _ (.new s np _) (.of upd_same)
theorem new_tup (s : Same G H) (k : ∀ c G' H', Grow M0 G H G' H' → SqT K G' c xs → Q (.ref c) H') : ∀ p, H p = none → Q (.ref p) (upd H p (.tup xs)) :=
  fun p np => k p _ _ (.new s np _) (.of upd_same)
end
/-! ### data lists by turns -/
theorem fm_get {α β : Type} (g : α → β) : ∀ xs : List α, ((List.range xs.length).filterMap fun i => (xs[i]?).map g) = xs.map g := by
  intro xs
  induction xs with
  | nil => rfl
  | cons x xs ih =>
    rw [List.length_cons, List.range_succ_eq_map, List.filterMap_cons]
    show g x :: _ = _
    rw [List.filterMap_map, List.map_cons]
    congr 1
theorem fm_filter {α β : Type} (p : α → Bool) (g : α → β) : ∀ xs : List α, ((List.range xs.length).filterMap fun i => (xs[i]?).bind fun x => if p x = true then some (g x) else none) = (xs.filter p).map g := by
  intro xs
  induction xs with
  | nil => rfl
  | cons x xs ih =>
    rw [List.length_cons, List.range_succ_eq_map, List.filterMap_cons]
    show (match (if p x = true then some (g x) else none) with | none => _ | some b => _) = _
    rw [List.filterMap_map]
    by_cases h : p x = true
    · rw [if_pos h, List.filter_cons_of_pos h, List.map_cons]
      show g x :: _ = _
      congr 1
    · rw [if_neg h, List.filter_cons_of_neg h]
      exact ih
theorem fm_range {β : Type} (p : Nat → Bool) (g : Nat → β) (n : Nat) : ((List.range n).filterMap fun i => if p i = true then some (g i) else none) = ((List.range n).filter p).map g := by
  induction n with
  | zero => rfl
  | succ n ih =>
    rw [List.range_succ, List.filterMap_append, List.filter_append, List.map_append, ih]
    congr 1
    by_cases h : p n = true
    · simp [h]
    · simp [h]
theorem fm_map {β : Type} (g : Nat → β) (n : Nat) : ((List.range n).filterMap fun i => some (g i)) = (List.range n).map g := by
  rw [← List.filterMap_eq_map]
  rfl
/-! ### two clauses -/
section
variable {K : PySem.W.Frag} {J : It} {n : Nat} {G1 H1 : Hp} {Y : Nat → V → Hp → Prop} {g g1 : TG} {tt tt1 : TT} {te : TE} {wi1 : TI} {vs vs1 : List Nat} {σ : St} {Qd : Addr → Hp → Prop}
/-- the inner walk of a turn -/
structure Inner (K : PySem.W.Frag) (g1 : TG) (tt1 : TT) (te : TE) (vs1 : List Nat) (ds : List PyData) (J1 : It) (σ2 : St) (G2 H2 : Hp) : Prop where
  ex : ∃ (n1 : Nat) (Y1 : Nat → V → Hp → Prop) (f : Nat → Option PyData), GW J1 n1 G2 Y1 ∧ ds = (List.range n1).filterMap f ∧
    ∀ j y G H, j < n1 → Same G2 G → Same G H → Y1 j y G → ∀ (C1 : VK) (C0 : Hp → Prop), (∀ d z G' H', f j = some d → Grow M0 G H G' H' → Dp K G' z d → C1 z H') → (f j = none → ∀ G' H', Grow M0 G H G' H' → C0 H') →
      g1 y (wipe σ2 vs1) H fun σ3 H3 => wipe σ3 vs1 = wipe σ2 vs1 ∧ tt1 σ3 H3 fun b H4 => if b = true then te σ3 H4 C1 else C0 H4
theorem lc2_pure (F : Nat → List PyData) (w : GW J n G1 Y) (s1 : Same G1 H1) (hb : ∀ i, i ≤ n → ((List.range i).flatMap F).length ≤ 100000)
    (turn : ∀ i x G H, i < n → Grow M0 G1 H1 G H → Y i x G → ∀ (C : It → St → Hp → Prop) (C0 : Hp → Prop), (∀ J1 σ2 G2 H2, Grow M0 G H G2 H2 → Inner K g1 tt1 te vs1 (F i) J1 σ2 G2 H2 → C J1 σ2 H2) →
      g x (wipe σ vs) H fun σ2 H2 => wipe σ2 vs = wipe σ vs ∧ tt σ2 H2 fun b H3 => if b = true then wi1 σ2 H3 fun J1 H4 => C J1 σ2 H4 else C0 H3)
    (done : ∀ D G' H', Grow M0 G1 H1 G' H' → Dp K G' (.ref D) (.list ((List.range n).flatMap F)) → Qd D H') :
    ∀ D, H1 D = none → ∃ W : Nat → Nat → Hp → Prop, (∃ m, W 0 m (upd H1 D (.lst []))) ∧ ∀ i m H, W i m H → (J.stop i H ∧ Qd D H) ∨
      (J.go i H ∧ ∃ Nx : Hp → Prop, (∀ H', Nx H' → ∃ m', m' < m ∧ W (i + 1) m' H') ∧ ∀ x H', J.yld i H x H' → g x (wipe σ vs) H' fun σ2 H2 => wipe σ2 vs = wipe σ vs ∧ tt σ2 H2 fun b H3 =>
        if b = true then wi1 σ2 H3 fun J1 H4 => ∃ W1 : Nat → Nat → Hp → Prop, (∃ m, W1 0 m H4) ∧ ∀ j k H, W1 j k H → (J1.stop j H ∧ Nx H) ∨
          (J1.go j H ∧ ∃ Nx1 : Hp → Prop, (∀ H', Nx1 H' → ∃ k', k' < k ∧ W1 (j + 1) k' H') ∧ ∀ x H', J1.yld j H x H' → g1 x (wipe σ2 vs1) H' fun σ3 H5 => wipe σ3 vs1 = wipe σ2 vs1 ∧ tt1 σ3 H5 fun b H6 =>
            if b = true then te σ3 H6 fun y H7 => ∃ acc, H7 D = some (.lst acc) ∧ acc.length < sizeLine ∧ Nx1 (upd H7 D (.lst (acc ++ [y]))) else Nx1 H6)
        else Nx H3) := by
  intro D hD
  have gD : G1 D = none := s1.free hD
  refine ⟨fun i m H => m = n - i ∧ i ≤ n ∧ ∃ G us, Grow M0 G1 H1 G H ∧ G D = none ∧ H D = some (.lst us) ∧ DpAll K G us ((List.range i).flatMap F),
    ⟨n, by simp, Nat.zero_le _, G1, [], .hide s1 hD _, gD, upd_same, .nil⟩, ?_⟩
  rintro i m H ⟨rfl, hi, G, us, gr, g0, hH, hds⟩
  by_cases hlt : i < n
  · refine .inr ⟨w.goes i G H hlt gr.g gr.s, fun H' => ∃ G' us', Grow M0 G1 H1 G' H' ∧ G' D = none ∧ H' D = some (.lst us') ∧ DpAll K G' us' ((List.range (i + 1)).flatMap F), ?_, fun x H' y => ?_⟩
    · rintro H' ⟨G', us', r⟩
      exact ⟨n - (i + 1), by omega, rfl, hlt, G', us', r⟩
    · obtain ⟨G', gr1, hy⟩ := w.yields i G H x H' hlt gr.g gr.s y
      have hH1 : H' D = some (.lst us) := gr1.h D _ id hH
      have g1' : G' D = none := (gr1.old D (by rw [hH]; exact fun z => by cases z)).trans g0
      have e1 : (List.range (i + 1)).flatMap F = (List.range i).flatMap F ++ F i := by
        rw [List.range_succ, List.flatMap_append, List.flatMap_cons, List.flatMap_nil, List.append_nil]
      have hbi := hb (i + 1) hlt
      rw [e1, List.length_append] at hbi
      have hul := hds.len
      refine turn i x G' H' hlt (gr.trans gr1) hy (fun J1 σ2 H4 => ∃ W1 : Nat → Nat → Hp → Prop, (∃ m, W1 0 m H4) ∧ ∀ j k H, W1 j k H → (J1.stop j H ∧ ∃ G' us', Grow M0 G1 H1 G' H ∧ G' D = none ∧ H D = some (.lst us') ∧ DpAll K G' us' ((List.range (i + 1)).flatMap F)) ∨
          (J1.go j H ∧ ∃ Nx1 : Hp → Prop, (∀ H', Nx1 H' → ∃ k', k' < k ∧ W1 (j + 1) k' H') ∧ ∀ x H', J1.yld j H x H' → g1 x (wipe σ2 vs1) H' fun σ3 H5 => wipe σ3 vs1 = wipe σ2 vs1 ∧ tt1 σ3 H5 fun b H6 =>
            if b = true then te σ3 H6 fun y H7 => ∃ acc, H7 D = some (.lst acc) ∧ acc.length < sizeLine ∧ Nx1 (upd H7 D (.lst (acc ++ [y]))) else Nx1 H6)) _ ?_
      · intro J1 σ2 G2 H2 gr2 inn
        obtain ⟨n1, Y1, f, w1, ef, tr⟩ := inn.ex
        rw [ef] at e1 hbi
        have gr3 := (gr.trans gr1).trans gr2
        have hH2 : H2 D = some (.lst us) := gr2.h D _ id hH1
        have g2 : G2 D = none := (gr2.old D (by rw [hH1]; exact fun z => by cases z)).trans g1'
        refine ⟨fun j k H => k = n1 - j ∧ j ≤ n1 ∧ ∃ G ws, Same G2 G ∧ Grow M0 G1 H1 G H ∧ G D = none ∧ H D = some (.lst (us ++ ws)) ∧ DpAll K G ws ((List.range j).filterMap f),
          ⟨n1, by simp, Nat.zero_le _, G2, [], .refl _, gr3, g2, by rw [List.append_nil]; exact hH2, .nil⟩, ?_⟩
        rintro j k H ⟨rfl, hj, G, ws, grA, grB, g3, hH3, hws⟩
        have hwl : ws.length ≤ ((List.range n1).filterMap f).length := by
          rw [hws.len]
          exact ((List.range_sublist.mpr hj).filterMap f).length_le
        by_cases hlt1 : j < n1
        · refine .inr ⟨w1.goes j G H hlt1 grA grB.s, fun H' => ∃ G' ws', Same G2 G' ∧ Grow M0 G1 H1 G' H' ∧ G' D = none ∧ H' D = some (.lst (us ++ ws')) ∧ DpAll K G' ws' ((List.range (j + 1)).filterMap f), ?_, fun x H' y => ?_⟩
          · rintro H' ⟨G', ws', r⟩
            exact ⟨n1 - (j + 1), by omega, rfl, hlt1, G', ws', r⟩
          · obtain ⟨G', gr4, hy⟩ := w1.yields j G H x H' hlt1 grA grB.s y
            have hH4 : H' D = some (.lst (us ++ ws)) := gr4.h D _ id hH3
            have g4 : G' D = none := (gr4.old D (by rw [hH3]; exact fun z => by cases z)).trans g3
            refine tr j x G' H' hlt1 (grA.trans gr4.g) gr4.s hy _ _ (fun d z G5 H5 ed gr5 hz => ?_) fun ed G5 H5 gr5 => ?_
            · have hH5 : H5 D = some (.lst (us ++ ws)) := gr5.h D _ id hH4
              have g5 : G5 D = none := (gr5.old D (by rw [hH4]; exact fun z => by cases z)).trans g4
              refine ⟨us ++ ws, hH5, ?_, G5, ws ++ [z], grA.trans (gr4.g.trans gr5.g), ((grB.trans gr4).trans gr5).put hD g5 _, g5, ?_, ?_⟩
              · rw [List.length_append, sizeLine_eq]; omega
              · rw [upd_same, List.append_assoc]
              · rw [List.range_succ, List.filterMap_append, List.filterMap_cons, ed, List.filterMap_nil]
                exact (hws.up (gr4.g.trans gr5.g)).app (.one hz)
            · refine ⟨G5, ws, grA.trans (gr4.g.trans gr5.g), (grB.trans gr4).trans gr5, (gr5.old D (by rw [hH4]; exact fun z => by cases z)).trans g4, gr5.h D _ id hH4, ?_⟩
              rw [List.range_succ, List.filterMap_append, List.filterMap_cons, ed, List.filterMap_nil, List.append_nil]
              exact hws.up (gr4.g.trans gr5.g)
        · have e : j = n1 := by omega
          subst e
          refine .inl ⟨w1.stops G H grA grB.s, G, us ++ ws, grB, g3, hH3, ?_⟩
          rw [e1]
          exact (hds.up (gr1.g.trans (gr2.g.trans grA))).app hws
  · have e : i = n := by omega
    subst e
    refine .inl ⟨w.stops G H gr.g gr.s, ?_⟩
    exact done D _ H (gr.pub hD g0 hH) (.lst (.of upd_same) (hds.up fun b o e => by
      rw [upd_ne (ne_of_none e g0)]; exact e))
end
end LW
/-! The text by places; what the top leaves; the shortest defs. -/
namespace LW
open PySem PySem.Spec L2
open PyProof.Rows hiding St RelV
open C8 (Cal pe_c pe_gc)
open StX (pa_star)
def topS (i : Nat) : Stmt := PySem.Challenge.pw_linepainters_k10_whole_ways.main.body.getD i (.Pass ⟨0, 0, 0, 0⟩)
/-- what the top leaves of built-ins and constants -/
structure Txt (mg : Str → Option Value) : Prop where
  isinstance_ : mg "isinstance" = none
  len_ : mg "len" = none
  all_ : mg "all" = none
  any_ : mg "any" = none
  sum_ : mg "sum" = none
  sorted_ : mg "sorted" = none
  int_ : mg "int" = none
  bool_ : mg "bool" = none
  tuple_ : mg "tuple" = none
  list_ : mg "list" = none
  str_ : mg "str" = none
  set_ : mg "set" = none
  range_ : mg "range" = none
  enumerate_ : mg "enumerate" = none
  MOST_SIDE : ∃ u, mg "MOST_SIDE" = some u ∧ RelV (.int 30) u
  BLACK : ∃ u, mg "BLACK" = some u ∧ RelV (.str ⟨#[35]⟩) u
  WHITE : ∃ u, mg "WHITE" = some u ∧ RelV (.str ⟨#[46]⟩) u
  MOST_LISTED : ∃ u, mg "MOST_LISTED" = some u ∧ RelV (.int 500) u
/-- a comprehension's block within another's: the names that it reads from outside are told -/
def FreeAll (sc : Scope) (fs : List Str) : Prop := ∀ x ∈ fs, sc.names.lookup x = some .cell ∨ sc.names.lookup x = some .free
theorem free_nil {sc : Scope} : FreeAll sc [] := fun _ h => by cases h
theorem free_cons {sc : Scope} {x : Str} {xs : List Str} (h : sc.names.lookup x = some .cell ∨ sc.names.lookup x = some .free) (t : FreeAll sc xs) : FreeAll sc (x :: xs) := fun y m => by
  rcases List.mem_cons.mp m with rfl | m
  · exact h
  · exact t y m
def blkN (N : List Str) (scope : Scope) (own : List (Str × Nat)) (fs : List Str) : Bool :=
  (match scope.kind with | .function => true | _ => false) && (scope.names.all fun y => decide (scope.names.lookup y.1 = some y.2)) && (own.all fun p => decide (N[p.2]? = some p.1)) &&
    (scope.names.all fun y => match y.2 with
      | .free => decide (y.1 ∈ fs)
      | .local => decide (y.1 ∈ own.map (·.1)) || decide (y.1 ∉ N)
      | .cell => decide (y.1 ∈ own.map (·.1)) || decide (y.1 ∉ N)
      | _ => true)
theorem blk2 {N : List Str} {sc scope : Scope} {own : List (Str × Nat)} (fs : List Str) (h : blkN N scope own fs = true) (hf : FreeAll sc fs) : BlkOk N sc scope own := by
  unfold blkN at h
  rw [Bool.and_eq_true, Bool.and_eq_true, Bool.and_eq_true] at h
  obtain ⟨⟨⟨h1, h2⟩, h3⟩, h4⟩ := h
  rw [List.all_eq_true] at h2 h3 h4
  refine ⟨?_, fun y hy => of_decide_eq_true (h2 y hy), fun p hp => of_decide_eq_true (h3 p hp), fun y hy e => ?_, fun y hy e => ?_⟩
  · cases q : scope.kind <;> simp [q] at h1 ⊢
  · have := h4 y hy
    rw [e] at this
    exact hf _ (of_decide_eq_true this)
  · have := h4 y hy
    rcases e with e | e <;> (rw [e] at this; rw [Bool.or_eq_true, decide_eq_true_iff, decide_eq_true_iff] at this; exact this)
/-! ### the rules with the fragment's name said -/
theorem bt_isinstance : bootBuiltins "isinstance" = some (.builtin "isinstance") := by decide +kernel
theorem bt_all : bootBuiltins "all" = some (.builtin "all") := by decide +kernel
theorem bt_any : bootBuiltins "any" = some (.builtin "any") := by decide +kernel
theorem bt_sum : bootBuiltins "sum" = some (.builtin "sum") := by decide +kernel
theorem bt_sorted : bootBuiltins "sorted" = some (.builtin "sorted") := by decide +kernel
theorem bt_int : bootBuiltins "int" = some (.type "int") := by decide +kernel
theorem bt_bool : bootBuiltins "bool" = some (.type "bool") := by decide +kernel
theorem bt_tuple : bootBuiltins "tuple" = some (.type "tuple") := by decide +kernel
theorem bt_list : bootBuiltins "list" = some (.type "list") := by decide +kernel
theorem bt_str : bootBuiltins "str" = some (.type "str") := by decide +kernel
theorem bt_set : bootBuiltins "set" = some (.type "set") := by decide +kernel
def rSlG (K : PySem.W.Frag) : V → Option Int → Option Int → Hp → VK → Prop := fun x lo hi H Q => ∃ (G : Hp) (a : Addr) (xs : List V), x = .ref a ∧ Same G H ∧ SqT K G a xs ∧ ∀ c G' H', Grow M0 G H G' H' → SqT K G' c (cutV xs lo hi) → Q (.ref c) H'
def rCatG (K : PySem.W.Frag) : R2 := fun x y H Q => ∃ (G : Hp) (a b : Addr) (xs ys : List V), x = .ref a ∧ y = .ref b ∧ Same G H ∧ SqT K G a xs ∧ SqT K G b ys ∧ xs.length + ys.length ≤ 100000 ∧ ∀ c G' H', Grow M0 G H G' H' → SqT K G' c (xs ++ ys) → Q (.ref c) H'
section
variable {X : Cx} (K : PySem.W.Frag) (e : X.K = K := by rfl)
include e
theorem k_isi : CallR X (.builtin "isinstance") (rIsi K) := e ▸ call_isi
theorem k_isiT : CallR X (.builtin "isinstance") (rIsiT K) := e ▸ call_isiT
def rLenS (K : PySem.W.Frag) : List V → Hp → VK → Prop := fun xs H Q => ∃ p ys, xs = [.ref p] ∧ (SqL K H p ys ∨ SqT K H p ys) ∧ Q (.int ys.length) H
theorem k_len : CallR X (.builtin "len") (rLenS K) := e ▸ call_len_seq
def rLstOf (K : PySem.W.Frag) : List V → Hp → VK → Prop := fun xs H Q => ∃ p ys, xs = [.ref p] ∧ (SqL K H p ys ∨ SqT K H p ys) ∧ ∀ l, H l = none → Q (.ref l) (upd H l (.lst ys))
theorem k_list : CallR X (.type "list") (rLstOf K) := e ▸ call_list_of
def rTupOf (K : PySem.W.Frag) : List V → Hp → VK → Prop := fun xs H Q => ∃ p ys, xs = [.ref p] ∧ ((SqL K H p ys ∧ ∀ l, H l = none → Q (.ref l) (upd H l (.tup ys))) ∨ (SqT K H p ys ∧ Q (.ref p) H))
theorem k_tuple : CallR X (.type "tuple") (rTupOf K) := e ▸ call_tuple_of
theorem k_all (hc : X.calm = true) : CallR X (.builtin "all") (rAll K) := e ▸ cr_all hc
theorem k_any (hc : X.calm = true) : CallR X (.builtin "any") (rAny K) := e ▸ cr_any hc
theorem k_sum (hc : X.calm = true) : CallR X (.builtin "sum") (rSum K) := e ▸ cr_sum hc
theorem k_sortedI : CallR X (.builtin "sorted") (rSortedI K) := e ▸ cr_sortedI
theorem k_sortedG (hu : X.A.units + 64 < cLine) : CallR X (.builtin "sorted") (rSortedG K) := e ▸ cr_sortedG hu
theorem k_in : OpR X (compareOp .In) (rIn K false) := e ▸ op_in_seq
theorem k_notin : OpR X (compareOp .NotIn) (rIn K true) := e ▸ op_notIn_seq
theorem k_eqD (hu : X.A.units + 64 < cLine) : OpR X (compareOp .Eq) (rEqD K) := e ▸ op_eqD hu
theorem k_neD (hu : X.A.units + 64 < cLine) : OpR X (compareOp .NotEq) (rNeD K) := e ▸ op_neD hu
theorem k_inD (hu : X.A.units + 65 < cLine) : OpR X (compareOp .In) (rInD K) := e ▸ op_inD hu
theorem k_notinD (hu : X.A.units + 65 < cLine) : OpR X (compareOp .NotIn) (rNotInD K) := e ▸ op_notInD hu
theorem k_ixL : IxR X (rIxL K) := e ▸ ix_list
theorem k_ixT : IxR X (rIxT K) := e ▸ ix_tup
theorem k_ixA : IxR X (rIx K) := e ▸ ix_seq
theorem k_slL : SlR X (rSlL K) := e ▸ sl_list
theorem k_slT : SlR X (rSlG K) := by
  intro pins s σ H x v vl vu lo hi sl Q I rx hs pl pu h
  obtain ⟨G, a, xs, rfl, sG, ha, k⟩ := h
  subst e
  exact sl_tupA pins s σ H _ v vl vu lo hi sl Q I rx hs pl pu (slT_run ha sG k)
theorem k_cat : OpR X (binaryOp .Add) (rCatG K) := by
  intro pins s σ H x y v u Q I rx ry h
  obtain ⟨G, a, b, xs, ys, rfl, rfl, sG, ha, hb, hl, k⟩ := h
  subst e
  exact op_catA pins s σ H _ _ v u Q I rx ry (cat_run ha hb sG hl k)
theorem k_piL {tg l : Expr} {tl : TE} (hl : PE X l tl) : PI X tg l (iList K tl) := e ▸ pi_list hl
theorem k_piT {tg l : Expr} {tl : TE} (hl : PE X l tl) : PI X tg l (iTup K tl) := e ▸ pi_tup hl
theorem k_pgT {es : List Expr} {k : Nat} {pos : Pos} {t : TGs} {n : Nat} (hc : X.calm = true) (h : PGs X es t) (hn : (assignEach es X.env).length = n := by rfl) (hst : List.findIdx? (fun x => x.fst) (assignEach es X.env) = none := by rfl) : PG X (.Tuple es k pos) (gTup K n t) := e ▸ pg_tup hc h hn hst
theorem k_star {ex : Expr} {es : List Expr} {p : Pos} {te : TE} {t : TA} (he : PE X ex te) (hr : PA X es t) (hs : starEach (.Starred ex p :: es) X.env = (true, eval ex X.env) :: starEach es X.env := by rfl) : PA X (.Starred ex p :: es) (StX.tStar K te t) := e ▸ pa_star he hr hs
end
/-! ### types of data -/
def tyD : PyData → String
  | .none => "NoneType"
  | .bool _ => "bool"
  | .int _ => "int"
  | .str _ => "str"
  | .list _ => "list"
  | .tuple _ => "tuple"
  | .dict _ => "dict"
theorem ty_of {K : PySem.W.Frag} {H : Hp} {v : V} {d : PyData} (h : Dp K H v d) : TyX K H v (.type (tyD d)) := by
  cases h with
  | non => exact .base .non
  | bl b => exact .base (.bl b)
  | int i => exact .base (.int i)
  | str x => exact .base (.str x)
  | lst a b =>
    rcases a with (a | ⟨o, a⟩) | ⟨o, its, n, hl, hc, _⟩
    · exact .base (.lst a)
    · exact .base (.frz a)
    · exact .kList hl hc
  | tup a b =>
    rcases a with (a | ⟨o, a⟩) | ⟨o, its, n, hl, hc, _⟩
    · exact .base (.tup a)
    · exact .fTuple a
    · exact .kTuple hl hc
def isD (c : String) (d : PyData) : Bool := match d with
  | .int _ => c == "int"
  | .bool _ => c == "bool" || c == "int"
  | .str _ => c == "str"
  | .list _ => c == "list"
  | .tuple _ => c == "tuple"
  | _ => false
theorem kit_int (K : PySem.W.Frag) : ∀ d : PyData, tyD d ≠ "dict" → PySem.W.kitOne K (.type (tyD d)) (.type "int") = some (isD "int" d)
  | .none, _ => kit_ty (a := "NoneType") (b := "int") (r := false) (by decide +kernel)
  | .bool _, _ => kit_ty (a := "bool") (b := "int") (r := true) (by decide +kernel)
  | .int _, _ => kit_ty (a := "int") (b := "int") (r := true) (by decide +kernel)
  | .str _, _ => kit_ty (a := "str") (b := "int") (r := false) (by decide +kernel)
  | .list _, _ => kit_ty (a := "list") (b := "int") (r := false) (by decide +kernel)
  | .tuple _, _ => kit_ty (a := "tuple") (b := "int") (r := false) (by decide +kernel)
  | .dict _, h => absurd rfl h
theorem kit_bool (K : PySem.W.Frag) : ∀ d : PyData, tyD d ≠ "dict" → PySem.W.kitOne K (.type (tyD d)) (.type "bool") = some (isD "bool" d)
  | .none, _ => kit_ty (a := "NoneType") (b := "bool") (r := false) (by decide +kernel)
  | .bool _, _ => kit_ty (a := "bool") (b := "bool") (r := true) (by decide +kernel)
  | .int _, _ => kit_ty (a := "int") (b := "bool") (r := false) (by decide +kernel)
  | .str _, _ => kit_ty (a := "str") (b := "bool") (r := false) (by decide +kernel)
  | .list _, _ => kit_ty (a := "list") (b := "bool") (r := false) (by decide +kernel)
  | .tuple _, _ => kit_ty (a := "tuple") (b := "bool") (r := false) (by decide +kernel)
  | .dict _, h => absurd rfl h
theorem kit_str (K : PySem.W.Frag) : ∀ d : PyData, tyD d ≠ "dict" → PySem.W.kitOne K (.type (tyD d)) (.type "str") = some (isD "str" d)
  | .none, _ => kit_ty (a := "NoneType") (b := "str") (r := false) (by decide +kernel)
  | .bool _, _ => kit_ty (a := "bool") (b := "str") (r := false) (by decide +kernel)
  | .int _, _ => kit_ty (a := "int") (b := "str") (r := false) (by decide +kernel)
  | .str _, _ => kit_ty (a := "str") (b := "str") (r := true) (by decide +kernel)
  | .list _, _ => kit_ty (a := "list") (b := "str") (r := false) (by decide +kernel)
  | .tuple _, _ => kit_ty (a := "tuple") (b := "str") (r := false) (by decide +kernel)
  | .dict _, h => absurd rfl h
theorem kit_list (K : PySem.W.Frag) : ∀ d : PyData, tyD d ≠ "dict" → PySem.W.kitOne K (.type (tyD d)) (.type "list") = some (isD "list" d)
  | .none, _ => kit_ty (a := "NoneType") (b := "list") (r := false) (by decide +kernel)
  | .bool _, _ => kit_ty (a := "bool") (b := "list") (r := false) (by decide +kernel)
  | .int _, _ => kit_ty (a := "int") (b := "list") (r := false) (by decide +kernel)
  | .str _, _ => kit_ty (a := "str") (b := "list") (r := false) (by decide +kernel)
  | .list _, _ => kit_ty (a := "list") (b := "list") (r := true) (by decide +kernel)
  | .tuple _, _ => kit_ty (a := "tuple") (b := "list") (r := false) (by decide +kernel)
  | .dict _, h => absurd rfl h
theorem kit_tuple (K : PySem.W.Frag) : ∀ d : PyData, tyD d ≠ "dict" → PySem.W.kitOne K (.type (tyD d)) (.type "tuple") = some (isD "tuple" d)
  | .none, _ => kit_ty (a := "NoneType") (b := "tuple") (r := false) (by decide +kernel)
  | .bool _, _ => kit_ty (a := "bool") (b := "tuple") (r := false) (by decide +kernel)
  | .int _, _ => kit_ty (a := "int") (b := "tuple") (r := false) (by decide +kernel)
  | .str _, _ => kit_ty (a := "str") (b := "tuple") (r := false) (by decide +kernel)
  | .list _, _ => kit_ty (a := "list") (b := "tuple") (r := false) (by decide +kernel)
  | .tuple _, _ => kit_ty (a := "tuple") (b := "tuple") (r := true) (by decide +kernel)
  | .dict _, h => absurd rfl h
theorem no_dict {K : PySem.W.Frag} {H : Hp} {v : V} {d : PyData} (h : Dp K H v d) : tyD d ≠ "dict" := by
  cases h <;> simp [tyD]
theorem bl_eq {Q : VK} {H : Hp} {a b : Bool} (q : Q (.bl a) H) (e : b = a) : Q (.bl b) H := e ▸ q
theorem int_eq {Q : VK} {H : Hp} {a b : Int} (q : Q (.int a) H) (e : b = a) : Q (.int b) H := e ▸ q
section
variable {P : Program} {w : World} {K : PySem.W.Frag} {mg : Str → Option Value} {base : Heap}
/-- a def of the text, with its promise, ready to be called by its name -/
theorem cal_of {x : Str} {f : Addr} {fd : FuncData} {ps : List Str} {st : Stmt} {k : Nat} {sp : Sp} (F : Fun K x x st f fd) (h : FnOk P w K mg base CX0 k f fd ps sp) (m : mg x = some (.ref f)) (b : Binds K fd ps []) : Cal P w K mg base k x sp [] :=
  ⟨f, fd, ps, [], h, m, F.kp, b, .nil⟩
/-! is_int -/
abbrev s_is_int : Stmt := topS 11
abbrev n_is_int : List Str := ["value"]
theorem sc_is_int : FnScope n_is_int ["value"] (defScope s_is_int) := ⟨rfl, rfl, rfl, by decide +kernel, rfl, by decide +kernel, by decide +kernel⟩
def isI : PyData → Bool
  | .int _ => true
  | _ => false
theorem isI_eq (d : PyData) : isI d = (isD "int" d && !isD "bool" d) := by cases d <;> simp [isI, isD]
def sp_is_int (K : PySem.W.Frag) : Sp := fun vs H Q _ => ∃ v d, vs = [v] ∧ Dp K H v d ∧ Q (.bl (isI d)) H
theorem ok_is_int (T : Txt mg) {f : Addr} {fd : FuncData} (F : Fun K "is_int" "is_int" s_is_int f fd) : FnOk P w K mg base CX0 1 f fd ["value"] (sp_is_int K) := by
  refine F.ok sc_is_int (fun vs H Q E h => ?_) (fun cdv A outer s H vs Q E hr h => ?_)
  · obtain ⟨v, d, rfl, _⟩ := h
    rfl
  obtain ⟨v, d, rfl, hd, q⟩ := h
  refine ⟨_, (pss_one (ps_ret (pe_and (pe_callB call_isi (by rfl) T.isinstance_ bt_isinstance (pa_cons (pv 0) (pa_cons (pe_bltn (v := .ty "int") (u := .type "int") (by rfl) T.int_ bt_int rfl) pa_nil))) (pe_one (pe_not (pe_callB call_isi (by rfl) T.isinstance_ bt_isinstance (pa_cons (pv 0) (pa_cons (pe_bltn (v := .ty "bool") (u := .type "bool") (by rfl) T.bool_ bt_bool rfl) pa_nil)))))))), ?_⟩
  refine ⟨v, rfl, v, .ty "int", _, _, _, rfl, .ty _, ty_of hd, kit_int K d (no_dict hd), _, rfl, ?_⟩
  refine ite2 (fun c => ?_) (fun c => ?_)
  · refine ⟨v, rfl, v, .ty "bool", _, _, _, rfl, .ty _, ty_of hd, kit_bool K d (no_dict hd), _, rfl, ?_⟩
    rw [isI_eq, c, Bool.true_and] at q
    exact q
  · rw [isI_eq, Bool.eq_false_iff.mpr c, Bool.false_and] at q
    exact q
/-! is_in -/
abbrev s_is_in : Stmt := topS 12
abbrev n_is_in : List Str := ["value", "least", "most"]
theorem sc_is_in : FnScope n_is_in ["value", "least", "most"] (defScope s_is_in) := ⟨rfl, rfl, rfl, by decide +kernel, rfl, by decide +kernel, by decide +kernel⟩
def inD (d : PyData) (a b : Int) : Bool := match d with
  | .int i => decide (a ≤ i) && decide (i ≤ b)
  | _ => false
def sp_is_in (K : PySem.W.Frag) : Sp := fun vs H Q _ => ∃ v d a b, vs = [v, .int a, .int b] ∧ Dp K H v d ∧ Q (.bl (inD d a b)) H
theorem ok_is_in (T : Txt mg) {f : Addr} {fd : FuncData} (F : Fun K "is_in" "is_in" s_is_in f fd) (c_is_int : Cal P w K mg base 1 "is_int" (sp_is_int K) []) : FnOk P w K mg base CX0 2 f fd ["value", "least", "most"] (sp_is_in K) := by
  refine F.ok sc_is_in (fun vs H Q E h => ?_) (fun cdv A outer s H vs Q E hr h => ?_)
  · obtain ⟨v, d, a, b, rfl, _⟩ := h
    rfl
  obtain ⟨v, d, a, b, rfl, hd, q⟩ := h
  refine ⟨_, (pss_one (ps_ret (pe_and (pe_c c_is_int hr (by decide) rfl (pa_cons (pv 0) pa_nil)) (pe_one (pe_chain op_le op_le (pv 1) (pv 0) (pv 2)))))), ?_⟩
  refine ⟨v, rfl, v, d, rfl, hd, _, rfl, ?_⟩
  refine ite2 (fun c => ?_) (fun c => ?_)
  · cases hd with
    | int i =>
      refine ⟨_, rfl, _, rfl, _, _, rfl, rfl, _, rfl, ?_⟩
      refine ite2 (fun c2 => ?_) (fun c2 => ?_)
      · exact ⟨_, rfl, _, _, rfl, rfl, bl_eq q (by show _ = (decide (a ≤ i) && decide (i ≤ b)); rw [c2]; rfl)⟩
      · exact bl_eq q (by show _ = (decide (a ≤ i) && decide (i ≤ b)); rw [Bool.eq_false_iff.mpr c2]; rfl)
    | _ => simp [isI] at c
  · exact bl_eq q (by cases d <;> first | rfl | simp [isI] at c)
end
end LW
/-! boards -/
namespace LW
open PySem PySem.Spec L2
open PyProof.Rows hiding St RelV
open C8 (Cal pe_c pe_gc)
open StX (pa_star)
structure PicOk (h w : Nat) (p : LP.Pic) : Prop where
  wf : LP.Wf h w p
  h1 : 1 ≤ h
  h3 : h ≤ 3
  w1 : 1 ≤ w
  w3 : w ≤ 3
theorem PicOk.row {h w : Nat} {p : LP.Pic} (ok : PicOk h w p) {i : Nat} (hi : i < h) : ∃ r, p[i]? = some r ∧ r.length = w := by
  have h1 : i < p.length := by rw [ok.wf.len]; exact hi
  exact ⟨p[i], List.getElem?_eq_getElem h1, ok.wf.row _ (List.getElem_mem h1)⟩
theorem at_map {p : LP.Pic} {i : Nat} {r : List Bool} (e : p[i]? = some r) : (p.map rV)[i]? = some (rV r) := by rw [List.getElem?_map, e]; rfl
theorem kk_tuple {K : PySem.W.Frag} : PySem.W.kitOne K (.type "tuple") (.type "tuple") = some true := kit_ty (by decide +kernel)
theorem kk_str {K : PySem.W.Frag} : PySem.W.kitOne K (.type "str") (.type "str") = some true := kit_ty (by decide +kernel)
theorem true_all {n : Nat} : ((List.range n).filterMap fun _ => some (PyData.bool true)) = List.replicate n (PyData.bool true) := by
  induction n with
  | zero => rfl
  | succ n ih => rw [List.range_succ, List.filterMap_append, ih, List.replicate_succ']; rfl
theorem all_bools {K : PySem.W.Frag} {G : Hp} : ∀ {bs : List Bool} {vs : List V}, DpAll K G vs (bs.map PyData.bool) → vs = bs.map V.bl
  | [], _, h => by cases h; rfl
  | b :: bs, _, h => by
    cases h with
    | cons x y => rw [Dp.of_bool x, all_bools y]; rfl
theorem bools_of {K : PySem.W.Frag} {G : Hp} {bs : List Bool} {v : V} (h : Dp K G v (.list (bs.map PyData.bool))) : ∃ a, v = .ref a ∧ SqL K G a (bs.map V.bl) := by
  obtain ⟨a, vs, e, h1, h2⟩ := h.list
  rw [all_bools h2] at h1
  exact ⟨a, e, h1⟩
theorem trues_of {K : PySem.W.Frag} {G : Hp} {n : Nat} {v : V} (h : Dp K G v (.list ((List.range n).filterMap fun _ => some (PyData.bool true)))) : ∃ a, v = .ref a ∧ SqL K G a ((List.replicate n true).map V.bl) := by
  rw [true_all] at h
  apply bools_of
  rw [List.map_replicate]
  exact h
theorem trues_all (n : Nat) : (List.replicate n true).all id = true := by simp
section
variable {P : Program} {w : World} {K : PySem.W.Frag} {mg : Str → Option Value} {base : Heap}
/-! is_picture -/
abbrev s_is_picture : Stmt := topS 14
abbrev n_is_picture : List Str := ["value", "row", "sign"]
theorem sc_is_picture : FnScope n_is_picture ["value"] (defScope s_is_picture) := ⟨rfl, rfl, rfl, by decide +kernel, rfl, by decide +kernel, by decide +kernel⟩
def sp_is_picture (K : PySem.W.Frag) : Sp := fun vs H Q _ => ∃ (G : Hp) (v : V) (h w : Nat) (p : LP.Pic), vs = [v] ∧ Same G H ∧ Is K G eP v p ∧ PicOk h w p ∧ ∀ G' H', Grow M0 G H G' H' → Q (.bl true) H'
theorem ok_is_picture (T : Txt mg) {f : Addr} {fd : FuncData} (F : Fun K "is_picture" "is_picture" s_is_picture f fd) : FnOk P w K mg base CX0 1 f fd ["value"] (sp_is_picture K) := by
  refine F.ok sc_is_picture (fun vs H Q E h => ?_) (fun cdv A outer s H vs Q E hr h => ?_)
  · obtain ⟨G, v, h, w, p, rfl, _⟩ := h
    rfl
  obtain ⟨G, v, h, w, p, rfl, sG, hv, ok, q⟩ := h
  obtain ⟨a, rfl, ha⟩ := is_pic hv
  refine ⟨_, (pss_cons (ps_if (PW.pt (pw_or (pt_not (pt_val (pe_callB (k_isi K) (by rfl) T.isinstance_ bt_isinstance (pa_cons (pv 0) (pa_cons (pe_bltn (v := .ty "tuple") (u := .type "tuple") (by rfl) T.tuple_ bt_tuple rfl) pa_nil))) (fun _ => rfl))) (pw_or1 (pt_not (pt_chain op_le op_le pe_int (pe_callB (k_len K) (by rfl) T.len_ PySem.boot_len (pa_cons (pv 0) pa_nil)) (pe_gc rfl T.MOST_SIDE)))))) (pss_one (ps_ret pe_bl)) pss_nil)
      (pss_cons (ps_if (PW.pt (pw_or (pt_not (pt_val (pe_callB (k_all K rfl rfl) (by rfl) T.all_ bt_all (pa_cons (pe_lc (own := [("row", 1)]) rfl sc_is_picture.nd (k_piT K rfl (pv 0)) (blkOk_by (own := [("row", 1)]) (N := n_is_picture) (sc := defScope s_is_picture) (by decide +kernel)) (fun _ _ _ _ _ => (pg_name (i := 1) sc_is_picture.nd rfl (.inl rfl))) (fun _ _ _ _ _ => pts_nil) (fun _ _ _ _ _ => (pe_callB (k_isi K) (by rfl) T.isinstance_ bt_isinstance (pa_cons (pv 1) (pa_cons (pe_bltn (v := .ty "str") (u := .type "str") (by rfl) T.str_ bt_str rfl) pa_nil))))) pa_nil)) (fun _ => rfl))) (pw_or1 (pt_not (pt_chain op_le op_le pe_int (pe_callB call_len_str (by rfl) T.len_ PySem.boot_len (pa_cons (pe_ix (k_ixT K) (pv 0) pe_int (fun _ _ => rfl)) pa_nil)) (pe_gc rfl T.MOST_SIDE)))))) (pss_one (ps_ret pe_bl)) pss_nil)
      (pss_one (ps_ret (pe_callB (k_all K rfl rfl) (by rfl) T.all_ bt_all (pa_cons (pe_lc (own := [("row", 1)]) rfl sc_is_picture.nd (k_piT K rfl (pv 0)) (blkOk_by (own := [("row", 1)]) (N := n_is_picture) (sc := defScope s_is_picture) (by decide +kernel)) (fun _ _ _ _ _ => (pg_name (i := 1) sc_is_picture.nd rfl (.inl rfl))) (fun _ _ _ _ _ => pts_nil) (fun _ _ _ _ _ => (pe_and (pe_cmpR op_eq (pe_callB call_len_str (by rfl) T.len_ PySem.boot_len (pa_cons (pv 1) pa_nil)) (pe_callB call_len_str (by rfl) T.len_ PySem.boot_len (pa_cons (pe_ix (k_ixT K) (pv 0) pe_int (fun _ _ => rfl)) pa_nil)) (nomark _)) (pe_one (pe_callB (k_all K rfl rfl) (by rfl) T.all_ bt_all (pa_cons (pe_lc (own := [("sign", 2)]) rfl sc_is_picture.nd (pi_str (pv 1)) (blk2 (N := n_is_picture) (own := [("sign", 2)]) (fs := []) (by decide +kernel) free_nil) (fun _ _ _ _ _ => (pg_name (i := 2) sc_is_picture.nd rfl (.inl rfl))) (fun _ _ _ _ _ => pts_nil) (fun _ _ _ _ _ => (pe_cmpR (k_in K) (pv 2) (pe_tup (pa_cons (pe_gc rfl T.BLACK) (pa_cons (pe_gc rfl T.WHITE) pa_nil))) (by rfl)))) pa_nil)))))) pa_nil)))))), ?_⟩
  have hlen : (p.map rV).length = h := by rw [List.length_map, ok.wf.len]
  obtain ⟨r0, e0, l0⟩ := ok.row (i := 0) (by have := ok.h1; omega)
  refine ⟨.ref a, rfl, .ref a, .ty "tuple", .type "tuple", _, true, rfl, .ty _, ty_of (hv.up sG), kk_tuple, true, rfl, ?_⟩
  refine iteF ?_
  refine ⟨.ref a, rfl, a, _, rfl, .inr (sG.tup ha), _, _, rfl, rfl, _, rfl, ?_⟩
  rw [hlen]
  refine ite2 (fun _ => ?_) (fun c => absurd (decide_eq_true (by have := ok.h1; omega)) c)
  refine ⟨_, _, rfl, rfl, _, rfl, ?_⟩
  rw [decide_eq_true (show (h : Int) ≤ 30 by have := ok.h3; omega)]
  refine iteF ?_
  -- all rows are texts
  refine ⟨.ref a, rfl, a, rfl, ⟨_, sG.tup ha⟩, ?_⟩
  refine lc_pure (K := K) (fun _ => some (.bool true)) (gw_tup ha) sG (by rw [hlen]; have := ok.h3; omega) (fun i x G1 H1 hi gr hy C1 C0 k1 k0 => ?_) fun D G1 H1 gr hD => ?_
  · refine ⟨rfl, ?_⟩
    obtain ⟨r, er, lr⟩ := ok.row (i := i) (by rw [← hlen]; exact hi)
    rw [YV, at_map er] at hy
    cases hy
    exact ⟨rV r, rfl, rV r, .ty "str", .type "str", _, true, rfl, .ty _, ty_of (d := .str (rowS r)) (.str _), kk_str, k1 _ _ _ _ rfl (.here gr.s) (.bl true)⟩
  obtain ⟨b, eb, hb⟩ := trues_of hD
  cases eb
  refine ⟨D, _, rfl, gr.s.seq hb, _, rfl, ?_⟩
  rw [trues_all]
  refine iteF ?_
  refine ⟨.ref a, rfl, a, _, 0, rV r0, rfl, rfl, gr.s.tup (gr.g.tup ha), atI_nat (at_map e0), rowS r0, rfl, by rw [rowS_len, l0]; exact small_line (by have := ok.w3; omega), _, _, rfl, rfl, _, rfl, ?_⟩
  rw [rowS_len, l0]
  refine ite2 (fun _ => ?_) (fun c => absurd (decide_eq_true (by have := ok.w1; omega)) c)
  refine ⟨_, _, rfl, rfl, _, rfl, ?_⟩
  rw [decide_eq_true (show (w : Int) ≤ 30 by have := ok.w3; omega)]
  refine iteF ?_
  -- each row has as many signs, each of the two
  refine ⟨.ref a, rfl, a, rfl, ⟨_, gr.s.tup (gr.g.tup ha)⟩, ?_⟩
  refine lc_pure (K := K) (fun _ => some (.bool true)) (gw_tup (gr.g.tup ha)) gr.s (by rw [hlen]; have := ok.h3; omega) (fun i x G2 H2 hi gr2 hy C1 C0 k1 k0 => ?_) fun D2 G2 H2 gr2 hD2 => ?_
  · refine ⟨rfl, ?_⟩
    obtain ⟨r, er, lr⟩ := ok.row (i := i) (by rw [← hlen]; exact hi)
    rw [YV, at_map er] at hy
    cases hy
    refine ⟨rV r, rfl, rowS r, rfl, by rw [rowS_len, lr]; exact small_line (by have := ok.w3; omega), .ref a, rfl, a, _, 0, rV r0, rfl, rfl, gr2.s.tup (gr2.g.tup (gr.g.tup ha)), atI_nat (at_map e0), rowS r0, rfl, by rw [rowS_len, l0]; exact small_line (by have := ok.w3; omega), rfl, ?_⟩
    rw [rowS_len, rowS_len, lr, l0]
    refine ⟨_, rfl, ?_⟩
    rw [decide_eq_true rfl]
    refine iteT ?_
    refine ⟨rV r, rfl, rowS r, rfl, ?_⟩
    refine lc_pure (K := K) (fun _ => some (.bool true)) gw_str gr2.s (by show (r.map sign).toArray.size ≤ _; simp; have := ok.w3; omega) (fun j y G3 H3 hj gr3 hy3 C1' C0' k1' k0' => ?_) fun D3 G3 H3 gr3 hD3 => ?_
    · refine ⟨rfl, ?_⟩
      obtain ⟨c, hc, rfl⟩ := hy3
      refine ⟨.str ⟨#[c]⟩, rfl, by show 2 ≤ sizeLine; exact small_line (by decide), fun t nt => ?_⟩
      have gr4 := Grow.new (M := M0) gr3.s nt (.tup [.str ⟨#[35]⟩, .str ⟨#[46]⟩])
      have hcs : inV (.str ⟨#[c]⟩) [.str ⟨#[35]⟩, .str ⟨#[46]⟩] = true := by
        have h1 : (r.map sign)[j]? = some c := by
          rw [← rowS_cps, Array.getElem?_toList]; exact hc
        rw [List.getElem?_map] at h1
        cases hb : r[j]? with
        | none => rw [hb] at h1; cases h1
        | some b => rw [hb] at h1; cases h1; cases b <;> decide +kernel
      refine ⟨t, _, rfl, .inr (.of upd_same), rfl, rfl, ?_⟩
      show C1' (.bl (inV (.str ⟨#[c]⟩) [.str ⟨#[35]⟩, .str ⟨#[46]⟩])) _
      rw [hcs]
      exact k1' _ _ _ _ rfl gr4 (.bl true)
    · obtain ⟨b3, eb3, hb3⟩ := trues_of hD3
      cases eb3
      refine ⟨D3, _, rfl, gr3.s.seq hb3, ?_⟩
      rw [trues_all]
      exact k1 _ _ _ _ rfl gr3 (.bl true)
  obtain ⟨b2, eb2, hb2⟩ := trues_of hD2
  cases eb2
  refine ⟨D2, _, rfl, gr2.s.seq hb2, ?_⟩
  rw [trues_all]
  exact q _ _ (gr.trans gr2)
/-! need_picture -/
abbrev s_need_picture : Stmt := topS 15
abbrev n_need_picture : List Str := ["value"]
theorem sc_need_picture : FnScope n_need_picture ["value"] (defScope s_need_picture) := ⟨rfl, rfl, rfl, by decide +kernel, rfl, by decide +kernel, by decide +kernel⟩
def sp_need_picture (K : PySem.W.Frag) : Sp := fun vs H Q _ => ∃ (G : Hp) (v : V) (h w : Nat) (p : LP.Pic), vs = [v] ∧ Same G H ∧ Is K G eP v p ∧ PicOk h w p ∧ ∀ G' H', Grow M0 G H G' H' → Q .non H'
theorem ok_need_picture (T : Txt mg) {f : Addr} {fd : FuncData} (F : Fun K "need_picture" "need_picture" s_need_picture f fd) (c_is_picture : Cal P w K mg base 1 "is_picture" (sp_is_picture K) []) : FnOk P w K mg base CX0 2 f fd ["value"] (sp_need_picture K) := by
  refine F.ok sc_need_picture (fun vs H Q E h => ?_) (fun cdv A outer s H vs Q E hr h => ?_)
  · obtain ⟨G, v, h, w, p, rfl, _⟩ := h
    rfl
  obtain ⟨G, v, h, w, p, rfl, sG, hv, ok, q⟩ := h
  refine ⟨_, (pss_one (ps_if (pt_not (pt_val (pe_c c_is_picture hr (by decide) rfl (pa_cons (pv 0) pa_nil)) (fun _ => rfl))) (pss_one ps_never) pss_nil)), ?_⟩
  exact ⟨v, rfl, G, v, h, w, p, rfl, sG, hv, ok, fun G' H' gr => ⟨true, rfl, iteF (q G' H' gr)⟩⟩
/-! need_two -/
abbrev s_need_two : Stmt := topS 16
abbrev n_need_two : List Str := ["start", "goal"]
theorem sc_need_two : FnScope n_need_two ["start", "goal"] (defScope s_need_two) := ⟨rfl, rfl, rfl, by decide +kernel, rfl, by decide +kernel, by decide +kernel⟩
def sp_need_two (K : PySem.W.Frag) : Sp := fun vs H Q _ => ∃ (G : Hp) (u v : V) (h w : Nat) (s g : LP.Pic), vs = [u, v] ∧ Same G H ∧ Is K G eP u s ∧ Is K G eP v g ∧ PicOk h w s ∧ PicOk h w g ∧ ∀ G' H', Grow M0 G H G' H' → Q .non H'
theorem ok_need_two (T : Txt mg) {f : Addr} {fd : FuncData} (F : Fun K "need_two" "need_two" s_need_two f fd) (c_need_picture : Cal P w K mg base 2 "need_picture" (sp_need_picture K) []) : FnOk P w K mg base CX0 3 f fd ["start", "goal"] (sp_need_two K) := by
  refine F.ok sc_need_two (fun vs H Q E h => ?_) (fun cdv A outer s H vs Q E hr h => ?_)
  · obtain ⟨G, u, v, h, w, p, g, rfl, _⟩ := h
    rfl
  obtain ⟨G, u, v, h, w, p, g, rfl, sG, hu, hv, okp, okg, q⟩ := h
  refine ⟨_, (pss_cons (ps_expr (pe_c c_need_picture hr (by decide) rfl (pa_cons (pv 0) pa_nil)))
      (pss_cons (ps_expr (pe_c c_need_picture hr (by decide) rfl (pa_cons (pv 1) pa_nil)))
      (pss_one (ps_if (PW.pt (pw_or (pt_cmpR op_ne (pe_callB (k_len K) (by rfl) T.len_ PySem.boot_len (pa_cons (pv 0) pa_nil)) (pe_callB (k_len K) (by rfl) T.len_ PySem.boot_len (pa_cons (pv 1) pa_nil)) (nomark _)) (pw_or1 (pt_cmpR op_ne (pe_callB call_len_str (by rfl) T.len_ PySem.boot_len (pa_cons (pe_ix (k_ixT K) (pv 0) pe_int (fun _ _ => rfl)) pa_nil)) (pe_callB call_len_str (by rfl) T.len_ PySem.boot_len (pa_cons (pe_ix (k_ixT K) (pv 1) pe_int (fun _ _ => rfl)) pa_nil)) (nomark _))))) (pss_one ps_never) pss_nil)))), ?_⟩
  refine ⟨u, rfl, G, u, h, w, p, rfl, sG, hu, okp, fun G1 H1 gr1 => ?_⟩
  refine ⟨v, rfl, G1, v, h, w, g, rfl, gr1.s, hv.up gr1.g, okg, fun G2 H2 gr2 => ?_⟩
  obtain ⟨a, rfl, ha⟩ := is_pic (hu.up (gr1.g.trans gr2.g))
  obtain ⟨b, rfl, hb⟩ := is_pic (hv.up (gr1.g.trans gr2.g))
  obtain ⟨r0, e0, l0⟩ := okp.row (i := 0) (by have := okp.h1; omega)
  obtain ⟨q0, f0, m0⟩ := okg.row (i := 0) (by have := okp.h1; omega)
  have small : w ≤ sizeLine := small_line (by have := okp.w3; omega)
  refine ⟨.ref a, rfl, a, _, rfl, .inr (gr2.s.tup ha), .ref b, rfl, b, _, rfl, .inr (gr2.s.tup hb), rfl, ?_⟩
  rw [List.length_map, List.length_map, okp.wf.len, okg.wf.len]
  refine ⟨_, rfl, ?_⟩
  rw [decide_eq_true rfl]
  refine iteF ?_
  refine ⟨.ref a, rfl, a, _, 0, rV r0, rfl, rfl, gr2.s.tup ha, atI_nat (at_map e0), rowS r0, rfl, by rw [rowS_len, l0]; exact small, .ref b, rfl, b, _, 0, rV q0, rfl, rfl, gr2.s.tup hb, atI_nat (at_map f0), rowS q0, rfl, by rw [rowS_len, m0]; exact small, rfl, ?_⟩
  rw [rowS_len, rowS_len, l0, m0]
  refine ⟨_, rfl, ?_⟩
  rw [decide_eq_true rfl]
  exact iteF (q _ _ (gr1.trans gr2))
/-! lines_of -/
abbrev s_lines_of : Stmt := topS 17
abbrev n_lines_of : List Str := ["picture"]
theorem sc_lines_of : FnScope n_lines_of ["picture"] (defScope s_lines_of) := ⟨rfl, rfl, rfl, by decide +kernel, rfl, by decide +kernel, by decide +kernel⟩
def sp_lines_of (K : PySem.W.Frag) : Sp := fun vs H Q _ => ∃ (v : V) (h w : Nat) (p : LP.Pic), vs = [v] ∧ Is K H eP v p ∧ PicOk h w p ∧ Q (nV (h + w)) H
theorem ok_lines_of (T : Txt mg) {f : Addr} {fd : FuncData} (F : Fun K "lines_of" "lines_of" s_lines_of f fd) : FnOk P w K mg base CX0 1 f fd ["picture"] (sp_lines_of K) := by
  refine F.ok sc_lines_of (fun vs H Q E h => ?_) (fun cdv A outer s H vs Q E hr h => ?_)
  · obtain ⟨v, h, w, p, rfl, _⟩ := h
    rfl
  obtain ⟨v, h, w, p, rfl, hv, ok, q⟩ := h
  refine ⟨_, (pss_one (ps_ret (pe_op op_add (pe_callB (k_len K) (by rfl) T.len_ PySem.boot_len (pa_cons (pv 0) pa_nil)) (pe_callB call_len_str (by rfl) T.len_ PySem.boot_len (pa_cons (pe_ix (k_ixT K) (pv 0) pe_int (fun _ _ => rfl)) pa_nil))))), ?_⟩
  obtain ⟨a, rfl, ha⟩ := is_pic hv
  obtain ⟨r0, e0, l0⟩ := ok.row (i := 0) (by have := ok.h1; omega)
  refine ⟨.ref a, rfl, a, _, rfl, .inr ha, .ref a, rfl, a, _, 0, rV r0, rfl, rfl, ha, atI_nat (at_map e0), rowS r0, rfl, by rw [rowS_len, l0]; exact small_line (by have := ok.w3; omega), _, _, rfl, rfl, ?_⟩
  refine int_eq (a := ((h + w : Nat) : Int)) q ?_
  rw [rowS_len, l0, List.length_map, ok.wf.len]
  omega
/-! are_deeds -/
abbrev s_are_deeds : Stmt := topS 18
abbrev n_are_deeds : List Str := ["picture", "value", "line"]
theorem sc_are_deeds : FnScope n_are_deeds ["picture", "value"] (defScope s_are_deeds) := ⟨rfl, rfl, rfl, by decide +kernel, rfl, by decide +kernel, by decide +kernel⟩
def deedsD (n : Nat) : PyData → Bool
  | .list ds => ds.all fun d => inD d 0 ((n : Int) - 1)
  | _ => false
def sp_are_deeds (K : PySem.W.Frag) : Sp := fun vs H Q _ => ∃ (G : Hp) (u v : V) (h w : Nat) (p : LP.Pic) (d : PyData), vs = [u, v] ∧ Same G H ∧ Is K G eP u p ∧ PicOk h w p ∧ Dp K G v d ∧ (∀ ds, d = .list ds → ds.length ≤ 1000) ∧ ∀ G' H', Grow M0 G H G' H' → Q (.bl (deedsD (h + w) d)) H'
theorem ok_are_deeds (T : Txt mg) {f : Addr} {fd : FuncData} (F : Fun K "are_deeds" "are_deeds" s_are_deeds f fd) (c_is_in : Cal P w K mg base 2 "is_in" (sp_is_in K) []) (c_lines_of : Cal P w K mg base 1 "lines_of" (sp_lines_of K) []) : FnOk P w K mg base CX0 3 f fd ["picture", "value"] (sp_are_deeds K) := by
  refine F.ok sc_are_deeds (fun vs H Q E h => ?_) (fun cdv A outer s H vs Q E hr h => ?_)
  · obtain ⟨G, u, v, h, w, p, d, rfl, _⟩ := h
    rfl
  obtain ⟨G, u, v, h, w, p, d, rfl, sG, hu, ok, hv, hz, q⟩ := h
  refine ⟨_, (pss_one (ps_ret (pe_and (pe_callB (k_isi K) (by rfl) T.isinstance_ bt_isinstance (pa_cons (pv 1) (pa_cons (pe_bltn (v := .ty "list") (u := .type "list") (by rfl) T.list_ bt_list rfl) pa_nil))) (pe_one (pe_callB (k_all K rfl rfl) (by rfl) T.all_ bt_all (pa_cons (pe_lc (own := [("line", 2)]) rfl sc_are_deeds.nd (k_piL K rfl (pv 1)) (blkOk_by (own := [("line", 2)]) (N := n_are_deeds) (sc := defScope s_are_deeds) (by decide +kernel)) (fun _ _ _ _ _ => (pg_name (i := 2) sc_are_deeds.nd rfl (.inl rfl))) (fun _ _ _ _ _ => pts_nil) (fun _ _ _ _ _ => (pe_c c_is_in hr (by decide) rfl (pa_cons (pv 2) (pa_cons pe_int (pa_cons (pe_op op_sub (pe_c c_lines_of hr (by decide) rfl (pa_cons (pv 0) pa_nil)) pe_int) pa_nil)))))) pa_nil)))))), ?_⟩
  have hv2 := hv.up sG
  refine ⟨v, rfl, v, .ty "list", _, _, _, rfl, .ty _, ty_of hv2, kit_list K d (no_dict hv2), _, rfl, ?_⟩
  refine ite2 (fun c => ?_) (fun c => ?_)
  · cases hv with
    | @lst a xs ds h1 h2 =>
      have hl := h2.len
      have hz1 := hz ds rfl
      refine ⟨.ref a, rfl, a, rfl, ⟨_, sG.seq h1⟩, ?_⟩
      refine lc_pure (K := K) (fun i => (ds[i]?).map fun d => .bool (inD d 0 (((h + w : Nat) : Int) - 1))) (gw_list h1) sG (by omega) (fun i x G1 H1 hi gr hy C1 C0 k1 k0 => ?_) fun D G1 H1 gr hD => ?_
      · refine ⟨rfl, ?_⟩
        obtain ⟨d, e1, e2⟩ := h2.at_ hy
        refine ⟨x, rfl, u, rfl, u, h, w, p, rfl, hu.up (sG.trans fun b o e => gr.h b o id e), ok, _, _, rfl, rfl, x, d, 0, _, rfl, e2.up (gr.g.trans gr.s), ?_⟩
        exact k1 _ _ _ _ (by rw [e1]; rfl) (.here gr.s) (.bl _)
      · rw [hl, fm_get] at hD
        rw [show (ds.map fun d => PyData.bool (inD d 0 (((h + w : Nat) : Int) - 1))) = (ds.map fun d => inD d 0 (((h + w : Nat) : Int) - 1)).map PyData.bool by rw [List.map_map]; rfl] at hD
        obtain ⟨b, eb, hb⟩ := bools_of hD
        cases eb
        refine ⟨D, _, rfl, gr.s.seq hb, ?_⟩
        refine bl_eq (q _ _ gr) ?_
        rw [List.all_map]
        rfl
    | _ => simp [isD] at c
  · refine bl_eq (q _ _ (.here sG)) ?_
    cases d <;> first | rfl | exact absurd rfl c
end
end LW
/-! painting -/
namespace LW
open PySem PySem.Spec L2
open PyProof.Rows hiding St RelV
open C8 (Cal pe_c pe_gc)
open StX (pa_star)
theorem PicOk.paint {h w : Nat} {p : LP.Pic} (ok : PicOk h w p) (l : Nat) : PicOk h w (LP.paint h w p l) := ⟨LP.tab_wf h w _, ok.h1, ok.h3, ok.w1, ok.w3⟩
theorem PicOk.all {h w : Nat} {p : LP.Pic} (ok : PicOk h w p) (d : List Nat) : PicOk h w (LP.paintAll h w p d) := ⟨LP.paintAll_wf d ok.wf, ok.h1, ok.h3, ok.w1, ok.w3⟩
section
variable {P : Program} {w : World} {K : PySem.W.Frag} {mg : Str → Option Value} {base : Heap}
/-! painted_line -/
abbrev s_painted_line : Stmt := topS 19
abbrev n_painted_line : List Str := ["picture", "line", "at", "row"]
theorem sc_painted_line : FnScope n_painted_line ["picture", "line"] (defScope s_painted_line) := ⟨rfl, rfl, rfl, by decide +kernel, rfl, by decide +kernel, by decide +kernel⟩
def sp_painted_line (K : PySem.W.Frag) : Sp := fun vs H Q _ => ∃ (G : Hp) (v : V) (h w l : Nat) (p : LP.Pic), vs = [v, nV l] ∧ Same G H ∧ Is K G eP v p ∧ PicOk h w p ∧ l < h + w ∧ ∀ v' G' H', Grow M0 G H G' H' → Is K G' eP v' (LP.paint h w p l) → Q v' H'
theorem ok_painted_line (T : Txt mg) {f : Addr} {fd : FuncData} (F : Fun K "painted_line" "painted_line" s_painted_line f fd) : FnOk P w K mg base CX0 1 f fd ["picture", "line"] (sp_painted_line K) := by
  refine F.ok sc_painted_line (fun vs H Q E h => ?_) (fun cdv A outer s H vs Q E hr h => ?_)
  · obtain ⟨G, v, h, w, l, p, rfl, _⟩ := h
    rfl
  obtain ⟨G, v, h, w, l, p, rfl, sG, hv, ok, hl, q⟩ := h
  obtain ⟨a, rfl, ha⟩ := is_pic hv
  refine ⟨_, (pss_cons (ps_if (pt_cmpR op_lt (pv 1) (pe_callB (k_len K) (by rfl) T.len_ PySem.boot_len (pa_cons (pv 0) pa_nil)) (nomark _)) (pss_one (ps_ret (pe_op (k_cat K) (pe_op (k_cat K) (pe_slice (k_slT K) (pv 0) po_none (po_some (pv 1))) (pe_tup (pa_cons (pe_op op_mulS (pe_gc rfl T.BLACK) (pe_callB call_len_str (by rfl) T.len_ PySem.boot_len (pa_cons (pe_ix (k_ixT K) (pv 0) pe_int (fun _ _ => rfl)) pa_nil))) pa_nil))) (pe_slice (k_slT K) (pv 0) (po_some (pe_op op_add (pv 1) pe_int)) po_none)))) pss_nil)
      (pss_cons (ps_set (i := 2) sc_painted_line.nd rfl (.inr rfl) (pe_op op_sub (pv 1) (pe_callB (k_len K) (by rfl) T.len_ PySem.boot_len (pa_cons (pv 0) pa_nil))))
      (pss_one (ps_ret (pe_callTy (k_tuple K) (by rfl) T.tuple_ bt_tuple (pa_cons (pe_lc (own := [("row", 3)]) rfl sc_painted_line.nd (k_piT K rfl (pv 0)) (blkOk_by (own := [("row", 3)]) (N := n_painted_line) (sc := defScope s_painted_line) (by decide +kernel)) (fun _ _ _ _ _ => (pg_name (i := 3) sc_painted_line.nd rfl (.inl rfl))) (fun _ _ _ _ _ => pts_nil) (fun _ _ _ _ _ => (pe_op op_add_str (pe_op op_add_str (pe_slice sl_str (pv 3) po_none (po_some (pv 2))) (pe_gc rfl T.WHITE)) (pe_slice sl_str (pv 3) (po_some (pe_op op_add (pv 2) pe_int)) po_none)))) pa_nil)))))), ?_⟩
  have hlen : (p.map rV).length = h := by rw [List.length_map, ok.wf.len]
  obtain ⟨r0, e0, l0⟩ := ok.row (i := 0) (by have := ok.h1; omega)
  have small : w ≤ sizeLine := small_line (by have := ok.w3; omega)
  refine ⟨_, rfl, _, rfl, a, _, rfl, .inr (sG.tup ha), _, _, rfl, rfl, _, rfl, ?_⟩
  rw [hlen]
  refine ite2 (fun c => ?_) (fun c => ?_)
  · have hlh : l < h := by have := of_decide_eq_true c; omega
    refine ⟨_, rfl, _, rfl, _, rfl, ?_⟩
    refine ⟨G, a, _, rfl, sG, ha, fun b G1 H1 gr1 hb => ?_⟩
    rw [cut_take] at hb
    have ha1 := gr1.g.tup ha
    refine ⟨_, rfl, a, _, 0, rV r0, rfl, rfl, gr1.s.tup ha1, atI_nat (at_map e0), rowS r0, rfl, by rw [rowS_len, l0]; exact small, ⟨#[35]⟩, w, rfl, by rw [rowS_len, l0], ?_⟩
    refine ⟨by show 1 * w ≤ 1000; have := ok.w3; omega, by have := ok.w3; omega, by decide, ?_⟩
    rw [row_mul ok.w1 ok.w3]
    refine ⟨by show 1 ≤ _; exact small_line (by decide), fun t nt => ?_⟩
    have gr2 := Grow.new (M := M0) gr1.s nt (.tup [rV (List.replicate w true)])
    have ht : SqT K (upd G1 t (.tup [rV (List.replicate w true)])) t [rV (List.replicate w true)] := .of upd_same
    refine ⟨_, b, t, _, _, rfl, rfl, gr2.s, gr2.g.tup hb, ht, (by rw [List.length_take, hlen]; have := ok.h3; simp; omega), fun c1 G3 H3 gr3 h3 => ?_⟩
    have ha3 := gr3.g.tup (gr2.g.tup ha1)
    refine ⟨_, rfl, _, rfl, _, _, rfl, rfl, _, rfl, ?_⟩
    refine ⟨G3, a, _, rfl, gr3.s, ha3, fun b2 G4 H4 gr4 hb4 => ?_⟩
    rw [show ((l : Int) + 1) = ((l + 1 : Nat) : Int) by omega, cut_drop] at hb4
    refine ⟨_, c1, b2, _, _, rfl, rfl, gr4.s, gr4.g.tup h3, hb4, (by rw [List.length_append, List.length_take, List.length_drop, hlen]; have := ok.h3; simp; omega), fun c2 G5 H5 gr5 h5 => ?_⟩
    refine q _ _ _ ((((gr1.trans gr2).trans gr3).trans gr4).trans gr5) ?_
    rw [← LP.paint_row ok.wf hlh]
    apply pic_is
    rw [List.map_append, List.map_append, List.map_take, List.map_drop]
    exact h5
  · have hlh : ¬ l < h := by intro z; exact c (decide_eq_true (by omega))
    refine ⟨_, rfl, _, rfl, a, _, rfl, .inr (sG.tup ha), _, _, rfl, rfl, ?_⟩
    have elh : ((l : Int) - (h : Int)) = ((l - h : Nat) : Int) := by omega
    rw [hlen]
    refine ⟨.ref a, rfl, a, rfl, ⟨_, sG.tup ha⟩, ?_⟩
    refine lc_pure (K := K) (fun i => (p[i]?).map fun r => eR.to (r.take (l - h) ++ [false] ++ r.drop (l - h + 1))) (gw_tup ha) sG (by rw [hlen]; have := ok.h3; omega) (fun i x G1 H1 hi gr hy C1 C0 k1 k0 => ?_) fun D G1 H1 gr hD => ?_
    · refine ⟨rfl, ?_⟩
      obtain ⟨r, er, lr⟩ := ok.row (i := i) (by rw [← hlen]; exact hi)
      rw [YV, at_map er] at hy
      cases hy
      have small2 : (rowS r).length ≤ sizeLine := by rw [rowS_len, lr]; exact small
      refine ⟨rV r, rfl, _, rfl, _, rfl, rowS r, rfl, small2, ?_⟩
      rw [elh, row_take]
      refine ⟨_, _, rfl, rfl, by rw [rowS_len, List.length_take]; exact small_line (by show _ + 1 ≤ _; have := ok.w3; omega), ?_⟩
      refine ⟨rV r, rfl, _, rfl, _, _, rfl, rfl, _, rfl, rowS r, rfl, small2, ?_⟩
      rw [show ((l : Int) - (h : Int) + 1) = ((l - h + 1 : Nat) : Int) by omega, row_drop, row_white, row_app]
      refine ⟨_, _, rfl, rfl, by rw [rowS_len, rowS_len, List.length_append, List.length_take, List.length_drop]; exact small_line (by have := ok.w3; simp; omega), ?_⟩
      rw [row_app]
      exact k1 _ _ _ _ (by rw [er]; rfl) (.here gr.s) (.str _)
    · rw [hlen, show List.range h = List.range p.length by rw [ok.wf.len], fm_get] at hD
      obtain ⟨b, us, eb, h1, h2⟩ := hD.list
      cases eb
      have e2 := congrArg (List.map eR.to) (LP.paint_col ok.wf hlh hl)
      rw [List.map_map] at e2
      refine ⟨D, us, rfl, .inl ⟨gr.s.seq h1, fun t nt => ?_⟩⟩
      have gr2 := Grow.new (M := M0) gr.s nt (.tup us)
      exact q _ _ _ (gr.trans gr2) (.tup (.of upd_same) (e2 ▸ h2.up gr2.g))
/-! all_painted -/
abbrev s_all_painted : Stmt := topS 20
abbrev n_all_painted : List Str := ["picture", "deeds", "line"]
theorem sc_all_painted : FnScope n_all_painted ["picture", "deeds"] (defScope s_all_painted) := ⟨rfl, rfl, rfl, by decide +kernel, rfl, by decide +kernel, by decide +kernel⟩
def sp_all_painted (K : PySem.W.Frag) : Sp := fun vs H Q _ => ∃ (G : Hp) (v u : V) (h w : Nat) (p : LP.Pic) (d : List Nat), vs = [v, u] ∧ Same G H ∧ Is K G eP v p ∧ PicOk h w p ∧ Is K G eLs u d ∧ (∀ l ∈ d, l < h + w) ∧ ∀ v' G' H', Grow M0 G H G' H' → Is K G' eP v' (LP.paintAll h w p d) → Q v' H'
theorem ok_all_painted (T : Txt mg) {f : Addr} {fd : FuncData} (F : Fun K "all_painted" "all_painted" s_all_painted f fd) (c_painted_line : Cal P w K mg base 1 "painted_line" (sp_painted_line K) []) : FnOk P w K mg base CX0 2 f fd ["picture", "deeds"] (sp_all_painted K) := by
  refine F.ok sc_all_painted (fun vs H Q E h => ?_) (fun cdv A outer s H vs Q E hr h => ?_)
  · obtain ⟨G, v, u, h, w, p, d, rfl, _⟩ := h
    rfl
  obtain ⟨G, v, u, h, w, p, d, rfl, sG, hv, ok, hu, hd, q⟩ := h
  obtain ⟨a, rfl, ha⟩ := is_nats hu
  refine ⟨_, (pss_cons (ps_for PassesOwn.never rfl (k_piL K rfl (pv 1)) (pg_name (i := 2) sc_all_painted.nd rfl (.inl rfl)) (pss_one (ps_set (i := 0) sc_all_painted.nd rfl (.inl rfl) (pe_c c_painted_line hr (by decide) rfl (pa_cons (pv 0) (pa_cons (pv 2) pa_nil))))))
      (pss_one (ps_ret (pv 0)))), ?_⟩
  refine ⟨.ref a, rfl, a, rfl, ⟨_, sG.seq ha⟩, ?_⟩
  refine for_run (gw_list ha) (fun i σ G1 H1 => Grow M0 G H G1 H1 ∧ ∃ v x, σ = [some v, some (.ref a), x] ∧ Is K G1 eP v (LP.paintAll h w p (d.take i))) (fun i σ G1 H1 iv => ⟨iv.1.g, iv.1.s⟩) ⟨.here sG, v, none, rfl, hv⟩ (fun i x σ G1 H1 G2 H2 hi iv gr hy => ?_) fun σ G1 H1 iv => ?_
  · obtain ⟨gr0, v1, x1, rfl, hv1⟩ := iv
    rw [List.length_map] at hi
    rw [YV, List.getElem?_map, List.getElem?_eq_getElem hi] at hy
    cases hy
    refine ⟨v1, rfl, _, rfl, G2, v1, h, w, d[i], _, rfl, gr.s, hv1.up gr.g, ok.all _, hd _ (List.getElem_mem hi), fun v2 G3 H3 gr3 h3 => ?_⟩
    refine ⟨G3, (gr0.trans gr).trans gr3, v2, _, rfl, ?_⟩
    rw [List.take_add_one, List.getElem?_eq_getElem hi]
    show Is K G3 eP v2 (List.foldl _ _ (d.take i ++ [d[i]]))
    rw [List.foldl_append]
    exact h3
  · obtain ⟨gr0, v1, x1, rfl, hv1⟩ := iv
    rw [List.length_map, List.take_length] at hv1
    exact ⟨v1, rfl, q _ _ _ gr0 hv1⟩
/-! differing -/
abbrev s_differing : Stmt := topS 21
abbrev n_differing : List Str := ["start", "goal", "at", "row", "spot", "sign"]
theorem sc_differing : FnScope n_differing ["start", "goal"] (defScope s_differing) := ⟨rfl, rfl, rfl, by decide +kernel, rfl, by decide +kernel, by decide +kernel⟩
def sp_differing (K : PySem.W.Frag) : Sp := fun vs H Q _ => ∃ (G : Hp) (u v : V) (h w : Nat) (s g : LP.Pic), vs = [u, v] ∧ Same G H ∧ Is K G eP u s ∧ Is K G eP v g ∧ PicOk h w s ∧ PicOk h w g ∧ ∀ v' G' H', Grow M0 G H G' H' → Is K G' eCs v' (LP.diff h w s g) → Q v' H'
theorem ok_differing (T : Txt mg) {f : Addr} {fd : FuncData} (F : Fun K "differing" "differing" s_differing f fd) : FnOk P w K mg base CX0 1 f fd ["start", "goal"] (sp_differing K) := by
  refine F.ok sc_differing (fun vs H Q E h => ?_) (fun cdv A outer s H vs Q E hr h => ?_)
  · obtain ⟨G, u, v, h, w, p, g, rfl, _⟩ := h
    rfl
  obtain ⟨G, u, v, h, w, p, g, rfl, sG, hu, hv, okp, okg, q⟩ := h
  obtain ⟨a, rfl, ha⟩ := is_pic hu
  obtain ⟨b, rfl, hb⟩ := is_pic hv
  refine ⟨_, (pss_one (ps_ret (pe_lc2 (own := [("at", 2), ("row", 3), ("spot", 4), ("sign", 5)]) (vs1 := [4, 5]) rfl sc_differing.nd (pi_enumT rfl T.enumerate_ (pa_cons (pv 0) pa_nil)) (blkOk_by (own := [("at", 2), ("row", 3), ("spot", 4), ("sign", 5)]) (N := n_differing) (sc := defScope s_differing) (by decide +kernel)) (by decide) (fun _ _ _ _ _ => (k_pgT (n := 2) K rfl rfl (pgs_cons (pg_name (i := 2) sc_differing.nd rfl (.inl rfl)) (pgs_cons (pg_name (i := 3) sc_differing.nd rfl (.inl rfl)) pgs_nil)))) (fun _ _ _ _ _ => pts_nil) (fun _ _ _ _ _ => (pi_enumS rfl T.enumerate_ (pa_cons (pv 3) pa_nil))) (fun _ _ _ _ _ => (k_pgT (n := 2) K rfl rfl (pgs_cons (pg_name (i := 4) sc_differing.nd rfl (.inl rfl)) (pgs_cons (pg_name (i := 5) sc_differing.nd rfl (.inl rfl)) pgs_nil)))) (fun _ _ _ _ _ => pts_one (pt_cmpR op_ne (pe_ix ix_str (pe_ix (k_ixT K) (pv 1) (pv 2) (fun _ _ => rfl)) (pv 4) (fun _ _ => rfl)) (pv 5) (nomark _))) (fun _ _ _ _ _ => (pe_tup (pa_cons (pv 2) (pa_cons (pv 4) pa_nil))))))), ?_⟩
  have hlen : (p.map rV).length = h := by rw [List.length_map, okp.wf.len]
  refine ⟨.ref a, rfl, a, _, rfl, sG.tup ha, ?_⟩
  refine lc2_pure (K := K) (fun i => ((List.range w).filter fun j => LP.cell g i j != LP.cell p i j).map fun j => eC.to (i, j)) (gw_enumT ha) sG (fun i hi => ?_) (fun i x G1 H1 hi gr hy C C0 k => ?_) fun D G1 H1 gr hD => ?_
  · rw [hlen] at hi
    have hle : ∀ k, ((List.range k).flatMap fun i => ((List.range w).filter fun j => LP.cell g i j != LP.cell p i j).map fun j => eC.to (i, j)).length ≤ k * w := by
      intro k
      induction k with
      | zero => simp
      | succ k ih =>
        rw [List.range_succ, List.flatMap_append, List.length_append, Nat.add_mul]
        have : (((List.range w).filter fun j => LP.cell g k j != LP.cell p k j).map fun j => eC.to (k, j)).length ≤ w := by
          rw [List.length_map]
          exact Nat.le_trans (List.length_filter_le _ _) (by rw [List.length_range]; exact Nat.le_refl _)
        simp only [List.flatMap_cons, List.flatMap_nil, List.append_nil]
        omega
    have := hle i
    have h3 := okp.h3
    have w3 := okp.w3
    have : i * w ≤ 3 * 3 := Nat.mul_le_mul (by omega) w3
    omega
  · obtain ⟨T1, x1, rfl, hT, hx⟩ := hy
    rw [hlen] at hi
    obtain ⟨r, er, lr⟩ := okp.row hi
    rw [at_map er] at hx
    cases hx
    obtain ⟨rg, erg, lrg⟩ := okg.row hi
    refine ⟨T1, _, rfl, gr.s.tup hT, rfl, _, _, rfl, _, _, rfl, rfl, rfl, ?_⟩
    refine iteT (B := C0 H1) ?_
    refine ⟨rV r, rfl, rowS r, rfl, ?_⟩
    refine k _ _ _ _ (.here gr.s) ⟨w, fun j v G => ∃ T c, v = .ref T ∧ SqT K G T [nV j, .str ⟨#[c]⟩] ∧ (rowS r).cps[j]? = some c, fun j => if (LP.cell g i j != LP.cell p i j) = true then some (eC.to (i, j)) else none, ?_, (fm_range _ _ _).symm, fun j y G2 H2 hj s12 s22 hy2 C1 C2 k1 k0 => ?_⟩
    · have : (rowS r).cps.size = w := by
        show (r.map sign).toArray.size = w
        simp [lr]
      rw [← this]
      exact gw_enumS
    · obtain ⟨T2, c, rfl, hT2, hc⟩ := hy2
      have hjr : r[j]? = some (r[j]'(by omega)) := List.getElem?_eq_getElem (by omega)
      have hjg : rg[j]? = some (rg[j]'(by omega)) := List.getElem?_eq_getElem (by omega)
      have ec : c = sign (r[j]'(by omega)) := by
        have h1 : (r.map sign)[j]? = some c := by rw [← rowS_cps, Array.getElem?_toList]; exact hc
        rw [List.getElem?_map, hjr] at h1
        exact (Option.some.inj h1).symm
      refine ⟨T2, _, rfl, s22.tup hT2, rfl, _, _, rfl, _, _, rfl, rfl, rfl, ?_⟩
      refine ⟨.ref b, rfl, nV i, rfl, b, _, (i : Int), rV rg, rfl, rfl, s22.tup (s12.tup (gr.g.tup hb)), atI_nat (at_map erg), nV j, rfl, rowS rg, (j : Int), sign (rg[j]'(by omega)), rfl, rfl, by rw [rowS_len, lrg]; exact small_line (by have := okp.w3; omega), ?_, ?_⟩
      · apply atI_nat
        rw [rowS_cps, List.getElem?_map, hjg]
        rfl
      · refine ⟨.str ⟨#[c]⟩, rfl, rfl, _, rfl, ?_⟩
        rw [ec]
        have ecg : LP.cell g i j = rg[j]'(by omega) := LP.cell_of erg hjg
        have ecp : LP.cell p i j = r[j]'(by omega) := LP.cell_of er hjr
        have et : (!decide (V.str ⟨#[sign (rg[j]'(by omega))]⟩ = V.str ⟨#[sign (r[j]'(by omega))]⟩)) = (LP.cell g i j != LP.cell p i j) := by
          rw [ecg, ecp]
          cases rg[j]'(by omega) <;> cases r[j]'(by omega) <;> decide +kernel
        rw [et]
        refine ite2 (fun cc => ?_) (fun cc => ?_)
        · refine ⟨nV i, rfl, nV j, rfl, (by show 2 ≤ _; exact small_line (by decide)), fun t nt => ?_⟩
          have gr5 := Grow.new (M := M0) s22 nt (.tup [nV i, nV j])
          exact k1 _ _ _ _ (if_pos cc) gr5 (cell_is (.of upd_same))
        · exact k0 (if_neg cc) _ _ (.here s22)
  · rw [hlen] at hD
    refine q _ _ _ gr ?_
    unfold LP.diff
    show Dp K G1 (.ref D) (.list (List.map eC.to _))
    rw [List.map_flatMap]
    have : (fun i => List.map eC.to (List.map (fun j => (i, j)) (List.filter (fun j => LP.cell g i j != LP.cell p i j) (List.range w)))) = fun i => ((List.range w).filter fun j => LP.cell g i j != LP.cell p i j).map fun j => eC.to (i, j) := by
      funext i
      rw [List.map_map]
      rfl
    rw [this]
    exact hD
end
end LW
/-! arrows and layers -/
namespace LW
open PySem PySem.Spec L2
open PyProof.Rows hiding St RelV
open C8 (Cal pe_c pe_gc)
open StX (pa_star)
/-- a sign of a row, told by the picture's cell -/
theorem sign_at {h w : Nat} {p : LP.Pic} (ok : PicOk h w p) {i j : Nat} (hi : i < h) (hj : j < w) : ∃ r, p[i]? = some r ∧ r.length = w ∧ (rowS r).cps[j]? = some (sign (LP.cell p i j)) := by
  obtain ⟨r, er, lr⟩ := ok.row hi
  have hjr : r[j]? = some (r[j]'(by omega)) := List.getElem?_eq_getElem (by omega)
  refine ⟨r, er, lr, ?_⟩
  rw [← Array.getElem?_toList, rowS_cps, List.getElem?_map, hjr, LP.cell_of er hjr]
  rfl
theorem dget_n {H : Hp} {d : Addr} {xs : List Nat} {y : V} {n : Nat} (hd : H d = some (.dK (ks xs))) (e : y = nV n) : DGet H d y (valV (ks xs) (Sum.inl (n : Int))) := by subst e; exact DGet.k (k := Sum.inl (n : Int)) hd
theorem rg_nV (n : Nat) : rgV 0 (n : Int) = (List.range n).map nV := by
  unfold rgV
  rw [Int.sub_zero, Int.toNat_natCast]
  apply List.map_congr_left
  intro i _
  rw [Int.zero_add]
  rfl
theorem black_ne (b : Bool) : (!decide (V.str ⟨#[sign b]⟩ = V.str ⟨#[35]⟩)) = !b := by cases b <;> decide +kernel
theorem black_eq (b : Bool) : (decide (V.str ⟨#[sign b]⟩ = V.str ⟨#[35]⟩)) = b := by cases b <;> decide +kernel
theorem white_eq (b : Bool) : (decide (V.str ⟨#[sign b]⟩ = V.str ⟨#[46]⟩)) = !b := by cases b <;> decide +kernel
theorem _root_.LP.layLoop_cons {ld : Nat → List Nat} {left : List Nat} (e : LP.layStep ld left ≠ []) : LP.layLoop ld left.length left = LP.layStep ld left :: LP.layLoop ld (LP.minus left (LP.layStep ld left)).length (LP.minus left (LP.layStep ld left)) := by
  have hlt := LP.minus_lt e LP.layStep_sub
  obtain ⟨n, hn⟩ : ∃ n, left.length = n + 1 := ⟨left.length - 1, by omega⟩
  rw [hn]
  conv => lhs; unfold LP.layLoop
  rw [if_neg e, LP.layLoop_eq n _ _ (by omega) (Nat.le_refl _)]
theorem lead_len (h w : Nat) (c : Nat → Nat → Bool) (l : Nat) : (LP.lead h w c l).length ≤ h + w := by
  unfold LP.lead
  split
  · rw [List.length_map]
    exact Nat.le_trans (List.length_filter_le _ _) (by rw [List.length_range]; omega)
  · exact Nat.le_trans (List.length_filter_le _ _) (by rw [List.length_range]; omega)
section
variable {P : Program} {w : World} {K : PySem.W.Frag} {mg : Str → Option Value} {base : Heap}
/-! leads_to -/
abbrev s_leads_to : Stmt := topS 24
abbrev n_leads_to : List Str := ["picture", "line", "high", "at", "row", "sign"]
theorem sc_leads_to : FnScope n_leads_to ["picture", "line"] (defScope s_leads_to) := ⟨rfl, rfl, rfl, by decide +kernel, rfl, by decide +kernel, by decide +kernel⟩
def sp_leads_to (K : PySem.W.Frag) : Sp := fun vs H Q _ => ∃ (G : Hp) (v : V) (h w l : Nat) (p : LP.Pic), vs = [v, nV l] ∧ Same G H ∧ Is K G eP v p ∧ PicOk h w p ∧ l < h + w ∧ ∀ v' G' H', Grow M0 G H G' H' → Is K G' eLs v' (LP.lead h w (LP.cell p) l) → Q v' H'
theorem ok_leads_to (T : Txt mg) {f : Addr} {fd : FuncData} (F : Fun K "leads_to" "leads_to" s_leads_to f fd) : FnOk P w K mg base CX0 1 f fd ["picture", "line"] (sp_leads_to K) := by
  refine F.ok sc_leads_to (fun vs H Q E h => ?_) (fun cdv A outer s H vs Q E hr h => ?_)
  · obtain ⟨G, v, h, w, l, p, rfl, _⟩ := h
    rfl
  obtain ⟨G, v, h, w, l, p, rfl, sG, hv, ok, hl, q⟩ := h
  obtain ⟨a, rfl, ha⟩ := is_pic hv
  refine ⟨_, (pss_cons (ps_set (i := 2) sc_leads_to.nd rfl (.inr rfl) (pe_callB (k_len K) (by rfl) T.len_ PySem.boot_len (pa_cons (pv 0) pa_nil)))
      (pss_cons (ps_if (pt_cmpR op_lt (pv 1) (pv 2) (nomark _)) (pss_one (ps_ret (pe_lc (own := [("at", 3), ("sign", 5)]) rfl sc_leads_to.nd (pi_enumS rfl T.enumerate_ (pa_cons (pe_ix (k_ixT K) (pv 0) (pv 1) (fun _ _ => rfl)) pa_nil)) (blkOk_by (own := [("at", 3), ("sign", 5)]) (N := n_leads_to) (sc := defScope s_leads_to) (by decide +kernel)) (fun _ _ _ _ _ => (k_pgT (n := 2) K rfl rfl (pgs_cons (pg_name (i := 3) sc_leads_to.nd rfl (.inl rfl)) (pgs_cons (pg_name (i := 5) sc_leads_to.nd rfl (.inl rfl)) pgs_nil)))) (fun _ _ _ _ _ => pts_one (pt_cmpR op_ne (pv 5) (pe_gc rfl T.BLACK) (nomark _))) (fun _ _ _ _ _ => (pe_op op_add (pv 2) (pv 3)))))) pss_nil)
      (pss_one (ps_ret (pe_lc (own := [("at", 3), ("row", 4)]) rfl sc_leads_to.nd (pi_enumT rfl T.enumerate_ (pa_cons (pv 0) pa_nil)) (blkOk_by (own := [("at", 3), ("row", 4)]) (N := n_leads_to) (sc := defScope s_leads_to) (by decide +kernel)) (fun _ _ _ _ _ => (k_pgT (n := 2) K rfl rfl (pgs_cons (pg_name (i := 3) sc_leads_to.nd rfl (.inl rfl)) (pgs_cons (pg_name (i := 4) sc_leads_to.nd rfl (.inl rfl)) pgs_nil)))) (fun _ _ _ _ _ => pts_one (pt_cmpR op_eq (pe_ix ix_str (pv 4) (pe_op op_sub (pv 1) (pv 2)) (fun _ _ => rfl)) (pe_gc rfl T.BLACK) (nomark _))) (fun _ _ _ _ _ => (pv 3))))))), ?_⟩
  have hlen : (p.map rV).length = h := by rw [List.length_map, ok.wf.len]
  refine ⟨.ref a, rfl, a, _, rfl, .inr (sG.tup ha), ?_⟩
  rw [hlen]
  refine ⟨nV l, rfl, nV h, rfl, _, _, rfl, rfl, _, rfl, ?_⟩
  refine ite2 (fun c => ?_) (fun c => ?_)
  · have hlh : l < h := by have := of_decide_eq_true c; omega
    obtain ⟨r, er, lr⟩ := ok.row hlh
    refine ⟨.ref a, rfl, nV l, rfl, a, _, (l : Int), rV r, rfl, rfl, sG.tup ha, atI_nat (at_map er), rowS r, rfl, ?_⟩
    have hw : (rowS r).cps.size = w := by show (r.map sign).toArray.size = w; simp [lr]
    refine lc_pure (K := K) (fun j => if (!LP.cell p l j) = true then some (eN.to (h + j)) else none) (gw_enumS (K := K) (z := rowS r)) sG (by rw [hw]; have := ok.w3; omega) (fun j x G1 H1 hj gr hy C1 C0 k1 k0 => ?_) fun D G1 H1 gr hD => ?_
    · rw [hw] at hj
      obtain ⟨T1, cc, rfl, hT, hc⟩ := hy
      obtain ⟨r2, er2, _, hc2⟩ := sign_at ok hlh hj
      rw [er] at er2
      cases er2
      rw [hc] at hc2
      cases hc2
      refine ⟨T1, _, rfl, gr.s.tup hT, rfl, _, _, rfl, _, _, rfl, rfl, rfl, ?_⟩
      refine ⟨_, rfl, rfl, _, rfl, ?_⟩
      rw [black_ne]
      refine ite2 (fun e => ?_) (fun e => ?_)
      · exact ⟨nV h, rfl, nV j, rfl, _, _, rfl, rfl, k1 _ _ _ _ (if_pos e) (.here gr.s) (.int _)⟩
      · exact k0 (if_neg e) _ _ (.here gr.s)
    · rw [hw] at hD
      have e2 : (List.range w).filterMap (fun j => if (!LP.cell p l j) = true then some (eN.to (h + j)) else none) = (LP.lead h w (LP.cell p) l).map eN.to := by
        rw [fm_range, LP.lead, if_pos hlh, List.map_map]
        rfl
      rw [e2] at hD
      exact q _ _ _ gr hD
  · have hlh : ¬ l < h := by intro z; exact c (decide_eq_true (by omega))
    refine ⟨.ref a, rfl, a, _, rfl, sG.tup ha, ?_⟩
    refine lc_pure (K := K) (fun i => if LP.cell p i (l - h) = true then some (eN.to i) else none) (gw_enumT ha) sG (by rw [hlen]; have := ok.h3; omega) (fun i x G1 H1 hi gr hy C1 C0 k1 k0 => ?_) fun D G1 H1 gr hD => ?_
    · rw [hlen] at hi
      obtain ⟨T1, cc, rfl, hT, hc⟩ := hy
      obtain ⟨r, er, lr, hs⟩ := sign_at ok hi (show l - h < w by omega)
      rw [at_map er] at hc
      cases hc
      refine ⟨T1, _, rfl, gr.s.tup hT, rfl, _, _, rfl, _, _, rfl, rfl, rfl, ?_⟩
      refine ⟨rV r, rfl, nV l, rfl, nV h, rfl, _, _, rfl, rfl, rowS r, _, sign (LP.cell p i (l - h)), rfl, rfl, by rw [rowS_len, lr]; exact small_line (by have := ok.w3; omega), ?_, ?_⟩
      · rw [show ((l : Int) - (h : Int)) = ((l - h : Nat) : Int) by omega]
        apply atI_nat
        rw [Array.getElem?_toList]
        exact hs
      refine ⟨rfl, _, rfl, ?_⟩
      rw [black_eq]
      refine ite2 (fun e => ?_) (fun e => ?_)
      · exact ⟨nV i, rfl, k1 _ _ _ _ (if_pos e) (.here gr.s) (.int _)⟩
      · exact k0 (if_neg e) _ _ (.here gr.s)
    · rw [hlen, fm_range (fun i => LP.cell p i (l - h)) eN.to] at hD
      have e2 : LP.lead h w (LP.cell p) l = (List.range h).filter fun i => LP.cell p i (l - h) := by rw [LP.lead, if_neg hlh]
      refine q _ _ _ gr ?_
      rw [e2]
      exact hD
/-! product_to -/
abbrev s_product_to : Stmt := topS 27
abbrev n_product_to : List Str := ["number", "found", "more"]
theorem sc_product_to : FnScope n_product_to ["number"] (defScope s_product_to) := ⟨rfl, rfl, rfl, by decide +kernel, rfl, by decide +kernel, by decide +kernel⟩
def sp_product_to : Sp := fun vs H Q _ => ∃ n : Nat, vs = [nV n] ∧ n ≤ 10 ∧ Q (nV (LP.fct n)) H
theorem fct_small : ∀ n, n ≤ 10 → LP.fct n ≤ 3628800 := by
  intro n hn
  have : ∀ n, n < 11 → LP.fct n ≤ 3628800 := by decide
  exact this n (by omega)
theorem ok_product_to (T : Txt mg) {f : Addr} {fd : FuncData} (F : Fun K "product_to" "product_to" s_product_to f fd) : FnOk P w K mg base CX0 1 f fd ["number"] sp_product_to := by
  refine F.ok sc_product_to (fun vs H Q E h => ?_) (fun cdv A outer s H vs Q E hr h => ?_)
  · obtain ⟨n, rfl, _⟩ := h
    rfl
  obtain ⟨n, rfl, hn, q⟩ := h
  refine ⟨_, (pss_cons (ps_set (i := 1) sc_product_to.nd rfl (.inl rfl) pe_int)
      (pss_cons (ps_for PassesOwn.never rfl (pi_range2 rfl T.range_ (pa_cons pe_int (pa_cons (pe_op op_add (pv 0) pe_int) pa_nil))) (pg_name (i := 2) sc_product_to.nd rfl (.inl rfl)) (pss_one (ps_set (i := 1) sc_product_to.nd rfl (.inl rfl) (pe_op op_mul (pv 1) (pv 2)))))
      (pss_one (ps_ret (pv 1))))), ?_⟩
  refine ⟨nV n, rfl, _, _, rfl, rfl, _, _, rfl, by omega, ?_⟩
  refine for_range (lo := 2) (n := ((n : Int) + 1 - 2).toNat) (fun i σ H' => ∃ x, σ = [some (nV n), some (nV (LP.fct (i + 1))), x] ∧ H' = H) ⟨none, rfl, rfl⟩ (fun i σ H' hi iv => ?_) fun σ H' iv => ?_
  · obtain ⟨x, rfl, rfl⟩ := iv
    have hs := fct_small (i + 1) (by omega)
    refine ⟨nV (LP.fct (i + 1)), rfl, .int (2 + (i : Int)), rfl, _, _, rfl, rfl, .inl ⟨by omega, by omega⟩, ?_⟩
    refine ⟨some (.int (2 + (i : Int))), ?_, rfl⟩
    have : ((LP.fct (i + 1) : Nat) : Int) * (2 + (i : Int)) = ((LP.fct (i + 1 + 1) : Nat) : Int) := by
      show _ = (((i + 1 + 1) * LP.fct (i + 1) : Nat) : Int)
      rw [Int.natCast_mul, Int.mul_comm]
      congr 1
      omega
    show [_, some (V.int (((LP.fct (i + 1) : Nat) : Int) * (2 + (i : Int)))), _] = _
    rw [this]
    rfl
  · obtain ⟨x, rfl, rfl⟩ := iv
    refine ⟨_, rfl, ?_⟩
    have : LP.fct (((n : Int) + 1 - 2).toNat + 1) = LP.fct n := by
      rcases n with _ | _ | n
      · rfl
      · rfl
      · congr 1
        omega
    rw [this]
    exact q
/-! meets -/
abbrev s_meets : Stmt := topS 28
abbrev n_meets : List Str := ["picture", "cell", "lines"]
theorem sc_meets : FnScope n_meets ["picture", "cell", "lines"] (defScope s_meets) := ⟨rfl, rfl, rfl, by decide +kernel, rfl, by decide +kernel, by decide +kernel⟩
def sp_meets (K : PySem.W.Frag) : Sp := fun vs H Q _ => ∃ (u v : V) (d : Addr) (h w : Nat) (p : LP.Pic) (c : Nat × Nat) (xs : List Nat), vs = [u, v, .ref d] ∧ Is K H eP u p ∧ PicOk h w p ∧ Is K H eC v c ∧ H d = some (.dK (ks xs)) ∧ Q (.bl (LP.meets h c xs)) H
theorem ok_meets (T : Txt mg) {f : Addr} {fd : FuncData} (F : Fun K "meets" "meets" s_meets f fd) : FnOk P w K mg base CX0 1 f fd ["picture", "cell", "lines"] (sp_meets K) := by
  refine F.ok sc_meets (fun vs H Q E h => ?_) (fun cdv A outer s H vs Q E hr h => ?_)
  · obtain ⟨u, v, d, h, w, p, c, xs, rfl, _⟩ := h
    rfl
  obtain ⟨u, v, d, h, w, p, c, xs, rfl, hu, ok, hv, hd, q⟩ := h
  have hu1 := hu_of hr
  obtain ⟨a, rfl, ha⟩ := is_pic hu
  obtain ⟨b, rfl, hb⟩ := is_cell hv
  refine ⟨_, (pss_one (ps_ret (pe_or (pe_cmp (pc_din hu1 (pe_ix (k_ixT K) (pv 1) pe_int (fun _ _ => rfl)) (pv 2)) (by rfl)) (pe_one (pe_cmp (pc_din hu1 (pe_op op_add (pe_callB (k_len K) (by rfl) T.len_ PySem.boot_len (pa_cons (pv 0) pa_nil)) (pe_ix (k_ixT K) (pv 1) pe_int (fun _ _ => rfl))) (pv 2)) (by rfl)))))), ?_⟩
  refine ⟨.ref b, rfl, b, _, 0, nV c.1, rfl, rfl, hb, rfl, .ref d, rfl, d, _, rfl, dget_n hd rfl, _, rfl, ?_⟩
  rw [ks_has]
  refine ite2 (fun e => ?_) (fun e => ?_)
  · exact bl_eq q (by unfold LP.meets; rw [e]; rfl)
  · refine ⟨.ref a, rfl, a, _, rfl, .inr ha, .ref b, rfl, b, _, 1, nV c.2, rfl, rfl, hb, rfl, _, _, rfl, rfl, .ref d, rfl, d, _, rfl, dget_n (n := h + c.2) hd ?_, ?_⟩
    · show V.int (((p.map rV).length : Int) + (c.2 : Int)) = V.int ((h + c.2 : Nat) : Int)
      rw [List.length_map, ok.wf.len]
      congr 1
    · rw [ks_has]
      exact bl_eq q (by unfold LP.meets; rw [Bool.eq_false_iff.mpr e]; rfl)
/-! layers_of -/
abbrev s_layers_of : Stmt := topS 25
abbrev n_layers_of : List Str := ["picture", "left", "found", "ways", "told", "some", "gone", "line", "other"]
theorem sc_layers_of : FnScope n_layers_of ["picture"] (defScope s_layers_of) := ⟨rfl, rfl, rfl, by decide +kernel, rfl, by decide +kernel, by decide +kernel⟩
def sp_layers_of (K : PySem.W.Frag) : Sp := fun vs H Q _ => ∃ (G : Hp) (v : V) (h w : Nat) (p : LP.Pic), vs = [v] ∧ Same G H ∧ Is K G eP v p ∧ PicOk h w p ∧ ∀ v' G' H', Grow M0 G H G' H' → Is K G' eLL v' (LP.layersOf h w p) → Q v' H'
theorem ok_layers_of (T : Txt mg) {f : Addr} {fd : FuncData} (F : Fun K "layers_of" "layers_of" s_layers_of f fd) (c_lines_of : Cal P w K mg base 1 "lines_of" (sp_lines_of K) []) (c_leads_to : Cal P w K mg base 1 "leads_to" (sp_leads_to K) []) : FnOk P w K mg base CX0 2 f fd ["picture"] (sp_layers_of K) := by
  refine F.ok sc_layers_of (fun vs H Q E h => ?_) (fun cdv A outer s H vs Q E hr h => ?_)
  · obtain ⟨G, v, h, w, p, rfl, _⟩ := h
    rfl
  obtain ⟨G, v, h, w, p, rfl, sG, hv, ok, q⟩ := h
  have hu1 := hu_of hr
  have hu := hr.units
  refine ⟨_, (pss_cons (ps_par (i := 1) (j := 2) rfl sc_layers_of.nd rfl rfl (by decide) rfl rfl (pa_cons (pe_listRg rfl rfl T.list_ (prg_1 rfl T.range_ (pe_c c_lines_of hr (by decide) rfl (pa_cons (pv 0) pa_nil)))) (pa_cons (pe_lst pa_nil) pa_nil)) (by rfl))
      (pss_cons (ps_set (i := 3) sc_layers_of.nd rfl (.inr rfl) (pe_lc (own := [("line", 7)]) rfl sc_layers_of.nd (k_piL K rfl (pv 1)) (blkOk_by (own := [("line", 7)]) (N := n_layers_of) (sc := defScope s_layers_of) (by decide +kernel)) (fun _ _ _ _ _ => (pg_name (i := 7) sc_layers_of.nd rfl (.inl rfl))) (fun _ _ _ _ _ => pts_nil) (fun _ _ _ _ _ => (pe_c c_leads_to hr (by decide) rfl (pa_cons (pv 0) (pa_cons (pv 7) pa_nil))))))
      (pss_one (ps_while PassesOwn.never (pt_val pe_bl (fun _ => rfl)) (pss_cons (ps_set (i := 4) sc_layers_of.nd rfl (.inr rfl) (pe_dc (own := [("line", 7)]) rfl sc_layers_of.nd (k_piL K rfl (pv 1)) (blkOk_by (own := [("line", 7)]) (N := n_layers_of) (sc := defScope s_layers_of) (by decide +kernel)) (fun _ _ _ _ _ => (pg_name (i := 7) sc_layers_of.nd rfl (.inl rfl))) (fun _ _ _ _ _ => pts_nil) (fun _ _ _ _ _ => (pv 7)) (fun _ _ _ _ _ => pe_bl)))
      (pss_cons (ps_setLc (i := 5) (own := [("line", 7)]) rfl sc_layers_of.nd rfl rfl (sw_true rfl rfl rfl (by decide +kernel)) (k_piL K rfl (pv 1)) (blkOk_by (own := [("line", 7)]) (N := n_layers_of) (sc := defScope s_layers_of) (by decide +kernel)) (fun _ _ _ _ _ => (pg_name (i := 7) sc_layers_of.nd rfl (.inl rfl))) (fun _ _ _ _ _ => pts_one (pt_not (pt_val (pe_callB (k_any K rfl rfl) (by rfl) T.any_ bt_any (pa_cons (pe_lc (own := [("other", 8)]) rfl sc_layers_of.nd (k_piL K rfl (pe_ix (k_ixL K) (pv 3) (pv 7) (fun _ _ => rfl))) (blk2 (N := n_layers_of) (own := [("other", 8)]) (fs := ["told"]) (by decide +kernel) (free_cons (by first | exact .inl rfl | exact .inr rfl) free_nil)) (fun _ _ _ _ _ => (pg_name (i := 8) sc_layers_of.nd rfl (.inl rfl))) (fun _ _ _ _ _ => pts_nil) (fun _ _ _ _ _ => (pe_cmp (pc_din hu1 (pv 8) (pv 4)) (by rfl)))) pa_nil)) (fun _ => rfl)))) (fun _ _ _ _ _ => (pv 7)))
      (pss_cons (ps_if (pt_cmpR (k_eqD K rfl hu) (pv 5) (pe_lst pa_nil) (nomark _)) (pss_one (ps_ret (pv 2))) pss_nil)
      (pss_cons (ps_expr (pe_bm PySem.F.plainAttrs_list PySem.F.slot_list_append PySem.F.type_list_append mt_append (pv 2) (pa_cons (pv 5) pa_nil)))
      (pss_cons (ps_set (i := 6) sc_layers_of.nd rfl (.inr rfl) (pe_dc (own := [("line", 7)]) rfl sc_layers_of.nd (k_piL K rfl (pv 5)) (blkOk_by (own := [("line", 7)]) (N := n_layers_of) (sc := defScope s_layers_of) (by decide +kernel)) (fun _ _ _ _ _ => (pg_name (i := 7) sc_layers_of.nd rfl (.inl rfl))) (fun _ _ _ _ _ => pts_nil) (fun _ _ _ _ _ => (pv 7)) (fun _ _ _ _ _ => pe_bl)))
      (pss_one (ps_setLc (i := 1) (own := [("line", 7)]) rfl sc_layers_of.nd rfl rfl (sw_true rfl rfl rfl (by decide +kernel)) (k_piL K rfl (pv 1)) (blkOk_by (own := [("line", 7)]) (N := n_layers_of) (sc := defScope s_layers_of) (by decide +kernel)) (fun _ _ _ _ _ => (pg_name (i := 7) sc_layers_of.nd rfl (.inl rfl))) (fun _ _ _ _ _ => pts_one (pt_cmp (pc_dnotin hu1 (pv 7) (pv 6)) (by rfl))) (fun _ _ _ _ _ => (pv 7))))))))))))), ?_⟩
  -- left, found = list(range(lines_of(picture))), []
  have hb : h + w ≤ 6 := by have := ok.h3; have := ok.w3; omega
  refine ⟨v, rfl, v, h, w, p, rfl, hv.up sG, ok, _, rfl, RgOk.of_le (by decide) (by omega) (by decide) (by omega), fun l nl => ?_⟩
  have gr1 := Grow.new (M := M0) sG nl (.lst (rgV 0 ((h + w : Nat) : Int)))
  have hl : SqL K (upd G l (.lst (rgV 0 ((h + w : Nat) : Int)))) l ((List.range (h + w)).map nV) := by
    rw [← rg_nV]
    exact .of upd_same
  generalize upd G l (.lst (rgV 0 ((h + w : Nat) : Int))) = G1 at gr1 hl
  generalize upd H l (.lst (rgV 0 ((h + w : Nat) : Int))) = H1 at gr1
  refine ⟨small_line (by decide), fun f nf => ?_⟩
  have gf1 : G1 f = none := gr1.s.free nf
  have gr2 := Grow.hide (M := M0) gr1.s nf (.lst [])
  have hf2 : upd H1 f (.lst []) f = some (.lst []) := upd_same
  have old2 : ∀ b, H b ≠ none → H1 b ≠ none := fun b hb => gr1.alive hb
  generalize upd H1 f (.lst []) = H2 at gr2 hf2
  refine ⟨_, _, rfl, ?_⟩
  -- ways
  refine ⟨.ref l, rfl, l, rfl, ⟨_, gr2.s.seq hl⟩, ?_⟩
  have hn : (List.range (h + w)).length = h + w := List.length_range
  refine lc_pure (K := K) (fun i => ((List.range (h + w))[i]?).map fun i => eLs.to (LP.lead h w (LP.cell p) i)) (gw_list hl) gr2.s (by rw [List.length_map, hn]; omega) (fun i x G3 H3 hi gr hy C1 C0 k1 k0 => ?_) fun D G3 H3 gr3 hD => ?_
  · refine ⟨rfl, ?_⟩
    rw [List.length_map, hn] at hi
    rw [YV, List.getElem?_map, List.getElem?_range hi] at hy
    cases hy
    refine ⟨v, rfl, _, rfl, G3, v, h, w, i, p, rfl, gr.s, hv.up (gr1.g.trans gr.g), ok, hi, fun u G4 H4 gr4 hu => ?_⟩
    exact k1 _ _ _ _ (by rw [List.getElem?_range hi]; rfl) gr4 hu
  rw [List.length_map, fm_get] at hD
  have hways : Is K G3 eLL (.ref D) ((List.range (h + w)).map fun i => LP.lead h w (LP.cell p) i) := by
    show Dp K G3 (.ref D) (.list (List.map eLs.to _))
    rw [List.map_map]
    exact hD
  clear hD
  -- while
  refine ⟨fun m σ H' => ∃ (G' : Hp) (l : Addr) (left : List Nat) (fs : List (List Nat)) (us : List V) (x4 x5 x6 : Option V), m = left.length ∧ σ = [some v, some (.ref l), some (.ref f), some (.ref D), x4, x5, x6, none, none] ∧ Grow M0 G1 H1 G' H' ∧ Same G3 G' ∧ G' f = none ∧ H' f = some (.lst us) ∧ DpAll K G' us (fs.map eLs.to) ∧
    Is K G' eLs (.ref l) left ∧ (∀ i ∈ left, i < h + w) ∧ left.Nodup ∧ fs.length + left.length ≤ h + w ∧ fs ++ LP.layLoop (LP.lead h w (LP.cell p)) left.length left = LP.layersOf h w p, ⟨h + w, G3, l, List.range (h + w), [], [], none, none, none, hn.symm, rfl, gr2.trans gr3, .refl _, ?_, ?_, .nil, nats_is (gr3.g.seq hl), fun i hi => List.mem_range.mp hi, List.nodup_range, by rw [hn]; simp, by rw [hn]; rfl⟩, ?_⟩
  · exact (gr3.old f (by rw [hf2]; exact fun z => by cases z)).trans gf1
  · exact gr3.h f _ id hf2
  rintro m σ H4 ⟨G4, l4, left, fs, us, x4, x5, x6, rfl, rfl, gr4, s34, gf4, hf4, hus, hleft, hbd, hnd, hlen, heq⟩
  refine ⟨true, rfl, iteT ?_⟩
  refine ⟨_, fun σ' H' n => n, ?_⟩
  obtain ⟨l5, e5, hl5⟩ := is_nats hleft
  cases e5
  -- told
  refine ⟨.ref l4, rfl, l4, rfl, ⟨_, gr4.s.seq hl5⟩, ?_⟩
  refine dc_names hl5 gr4.s hnd (by omega) (by show 7 < 9; decide) fun T G5 H5 gr5 hT => ?_
  -- some
  refine ⟨.ref l4, rfl, l4, rfl, ⟨_, gr5.s.seq (gr5.g.seq hl5)⟩, ?_⟩
  have hwy := is_list (hways.up (s34.trans gr5.g))
  obtain ⟨dw, wus, edw, hdw, hwus⟩ := hwy
  cases edw
  have lf : LP.layStep (LP.lead h w (LP.cell p)) left = left.filter fun l => !(LP.lead h w (LP.cell p) l).any fun m => left.contains m := rfl
  refine lc_pure (K := K) (fun i => (left[i]?).bind fun i => if (!(LP.lead h w (LP.cell p) i).any fun m => left.contains m) = true then some (eN.to i) else none) (gw_list (gr5.g.seq hl5)) gr5.s (by rw [List.length_map]; omega) (fun i x G6 H6 hi gr6 hy C1 C0 k1 k0 => ?_) fun S G6 H6 gr6 hS => ?_
  · rw [List.length_map] at hi
    rw [YV, List.getElem?_map, List.getElem?_eq_getElem hi] at hy
    cases hy
    have hlt := hbd _ (List.getElem_mem hi)
    refine ⟨rfl, ?_⟩
    have gx := hwus
    obtain ⟨y, ey, hy⟩ := all_get (i := left[i]) (x := LP.lead h w (LP.cell p) left[i]) hwus (by rw [List.getElem?_map, List.getElem?_range hlt]; rfl)
    obtain ⟨ly, rfl, hly⟩ := is_nats hy
    refine ⟨.ref D, rfl, nV left[i], rfl, D, wus, (left[i] : Int), .ref ly, rfl, rfl, gr6.s.seq (gr6.g.seq hdw), atI_nat ey, ly, rfl, ⟨_, gr6.s.seq (gr6.g.seq hly)⟩, ?_⟩
    refine lc_pure (K := K) (fun j => ((LP.lead h w (LP.cell p) left[i])[j]?).map fun m => .bool (left.contains m)) (gw_list (gr6.g.seq hly)) gr6.s (by rw [List.length_map]; exact Nat.le_trans (lead_len ..) (by omega)) (fun j x G7 H7 hj gr7 hy C1' C0' k1' k0' => ?_) fun S7 G7 H7 gr7 hS7 => ?_
    · rw [List.length_map] at hj
      rw [YV, List.getElem?_map, List.getElem?_eq_getElem hj] at hy
      cases hy
      refine ⟨rfl, ?_⟩
      refine ⟨_, rfl, .ref T, rfl, T, _, rfl, dget_n (gr7.s _ _ (gr7.g _ _ (gr6.g _ _ hT))) rfl, ?_⟩
      rw [ks_has]
      exact k1' _ _ _ _ (by rw [List.getElem?_eq_getElem hj]; rfl) (.here gr7.s) (.bl _)
    · rw [List.length_map, fm_get] at hS7
      rw [show ((LP.lead h w (LP.cell p) left[i]).map fun m => PyData.bool (left.contains m)) = ((LP.lead h w (LP.cell p) left[i]).map fun m => left.contains m).map PyData.bool by rw [List.map_map]; rfl] at hS7
      obtain ⟨b, eb, hb⟩ := bools_of hS7
      cases eb
      refine ⟨S7, _, rfl, gr7.s.seq hb, _, rfl, ?_⟩
      rw [List.any_map]
      refine ite2 (fun c => ?_) (fun c => ?_)
      · refine ⟨_, rfl, k1 _ _ _ _ ?_ gr7 (.int _)⟩
        rw [List.getElem?_eq_getElem hi]
        exact if_pos c
      · refine k0 ?_ _ _ gr7
        rw [List.getElem?_eq_getElem hi]
        exact if_neg c
  rw [List.length_map, fm_filter (fun i => !(LP.lead h w (LP.cell p) i).any fun m => left.contains m) eN.to] at hS
  have hsome : Is K G6 eLs (.ref S) (LP.layStep (LP.lead h w (LP.cell p)) left) := hS
  clear hS
  -- some == []
  refine ⟨_, rfl, small_line (by decide), fun e ne => ?_⟩
  have gr7 := Grow.new (M := M0) gr6.s ne (.lst [])
  have he : Is K (upd G6 e (.lst [])) eLs (.ref e) [] := .lst (.of upd_same) .nil
  generalize upd G6 e (.lst []) = G7 at gr7 he
  generalize upd H6 e (.lst []) = H7 at gr7
  refine ⟨_, _, (hsome.up gr7.g).up gr7.s, he.up gr7.s, eLs.shaped (by decide) _, eLs.shaped (by decide) _, ?_⟩
  have grA := ((gr4.trans gr5).trans gr6).trans gr7
  have gf7 : G7 f = none := by
    rw [((gr5.trans gr6).trans gr7).old f (by rw [hf4]; exact fun z => by cases z)]; exact gf4
  have hf7 : H7 f = some (.lst us) := ((gr5.trans gr6).trans gr7).h f _ id hf4
  have hus7 := hus.up ((gr5.trans gr6).trans gr7).g
  refine ⟨_, rfl, ?_⟩
  rw [eLs.eqv]
  refine ite2 (fun c => ?_) (fun c => ?_)
  · have c2 := of_decide_eq_true c
    have e2 : LP.layersOf h w p = fs := by
      rw [← heq, LP.layLoop_nil c2, List.append_nil]
    refine ⟨_, rfl, ?_⟩
    have grB := grA.pub nf gf7 hf7
    refine q _ _ _ (gr1.trans grB) ?_
    rw [e2]
    refine .lst (.of upd_same) (hus7.up fun b o e => ?_)
    rw [upd_ne (ne_of_none e gf7)]
    exact e
  · have c2 : ¬ LP.layStep (LP.lead h w (LP.cell p)) left = [] := fun z => c (decide_eq_true z)
    -- found.append(some)
    have hlt := LP.minus_lt c2 (LP.layStep_sub (ld := LP.lead h w (LP.cell p)))
    refine ⟨_, rfl, .inl ⟨rfl, _, .of hf7⟩, _, rfl, f, us, _, rfl, rfl, hf7, by rw [hus.len, List.length_map, sizeLine_eq]; omega, ?_⟩
    have gr8 := grA.put nf gf7 (.lst (us ++ [V.ref S]))
    have hf8 : upd H7 f (.lst (us ++ [V.ref S])) f = some (.lst (us ++ [V.ref S])) := upd_same
    have hus8 : DpAll K G7 (us ++ [V.ref S]) ((fs ++ [LP.layStep (LP.lead h w (LP.cell p)) left]).map eLs.to) := by
      rw [List.map_append]
      exact hus7.app (.one (hsome.up gr7.g))
    generalize upd H7 f (.lst (us ++ [V.ref S])) = H8 at gr8 hf8
    -- gone
    obtain ⟨s8, e8, hs8⟩ := is_nats (hsome.up gr7.g)
    cases e8
    refine ⟨_, rfl, S, rfl, ⟨_, gr8.s.seq hs8⟩, ?_⟩
    refine dc_names hs8 gr8.s (hnd.filter _) (Nat.le_trans (List.length_filter_le _ _) (by omega)) (by show 7 < 9; decide) fun U G9 H9 gr9 hU => ?_
    -- left
    have hl9 : SqL K G9 l4 (left.map nV) := (((gr5.g.trans gr6.g).trans gr7.g).trans gr9.g).seq hl5
    refine ⟨.ref l4, rfl, l4, rfl, ⟨_, gr9.s.seq hl9⟩, ?_⟩
    refine lc_pure (K := K) (fun i => (left[i]?).bind fun i => if (!(LP.layStep (LP.lead h w (LP.cell p)) left).contains i) = true then some (eN.to i) else none) (gw_list hl9) gr9.s (by rw [List.length_map]; omega) (fun i x GA HA hi grA hy C1 C0 k1 k0 => ?_) fun L GA HA grA hL => ?_
    · rw [List.length_map] at hi
      rw [YV, List.getElem?_map, List.getElem?_eq_getElem hi] at hy
      cases hy
      refine ⟨rfl, ?_⟩
      refine ⟨_, rfl, .ref U, rfl, U, _, rfl, dget_n (grA.s _ _ (grA.g _ _ hU)) rfl, _, rfl, ?_⟩
      rw [ks_has]
      refine ite2 (fun d => ?_) (fun d => ?_)
      · refine ⟨_, rfl, k1 _ _ _ _ ?_ (.here grA.s) (.int _)⟩
        rw [List.getElem?_eq_getElem hi]
        exact if_pos d
      · refine k0 ?_ _ _ (.here grA.s)
        rw [List.getElem?_eq_getElem hi]
        exact if_neg d
    rw [List.length_map, fm_filter (fun i => !(LP.layStep (LP.lead h w (LP.cell p)) left).contains i) eN.to] at hL
    have hleft2 : Is K GA eLs (.ref L) (LP.minus left (LP.layStep (LP.lead h w (LP.cell p)) left)) := hL
    clear hL
    refine ⟨_, hlt, GA, L, _, _, _, _, _, _, rfl, rfl, (gr8.trans gr9).trans grA, s34.trans (((((gr5.trans gr6).trans gr7).g).trans gr9.g).trans grA.g), ?_, ?_, hus8.up (gr9.g.trans grA.g), hleft2, fun i hi => hbd _ (LP.mem_minus.mp hi).1, hnd.filter _, ?_, ?_⟩
    · rw [(gr9.trans grA).old f (by rw [hf8]; exact fun z => by cases z)]; exact gf7
    · exact (gr9.trans grA).h f _ id hf8
    · rw [List.length_append, List.length_singleton]; omega
    · rw [← heq, List.append_assoc, LP.layLoop_cons c2]
      rfl
end
end LW
/-! the least set -/
namespace LW
open PySem PySem.Spec L2
open PyProof.Rows hiding St RelV
open C8 (Cal pe_c pe_gc)
open StX (pa_star)
/-- list + list, whatever lists -/
def rCatL (K : PySem.W.Frag) : R2 := fun x y H Q => ∃ (G : Hp) (a b : Addr) (xs ys : List V), x = .ref a ∧ y = .ref b ∧ Same G H ∧ SqL K G a xs ∧ SqL K G b ys ∧ xs.length + ys.length ≤ 100000 ∧ ∀ c G' H', Grow M0 G H G' H' → SqL K G' c (xs ++ ys) → Q (.ref c) H'
theorem op_catL {X : Cx} : OpR X (binaryOp .Add) (rCatL X.K) := by
  intro pins s σ H x y v u Q I rx ry h
  obtain ⟨G, a, b, xs, ys, rfl, rfl, sG, ha, hb, hz, k⟩ := h
  cases rx
  cases ry
  obtain ⟨its, r1, p1, z1⟩ := I.list (sG.seq ha)
  obtain ⟨its2, r2, p2, z2⟩ := I.list (sG.seq hb)
  obtain ⟨⟨cls, dd, data, sl⟩, n, ho, hc, hd0, hd⟩ := p1
  obtain ⟨⟨cls2, dd2, data2, sl2⟩, n2, ho2, hc2, hd02, hd2⟩ := p2
  simp only at hc hd hc2 hd2
  subst hc hd hc2 hd2
  have hsz : its.toArray.size + its2.toArray.size ≤ sizeLine := by
    rw [List.size_toArray, List.size_toArray, ← r1.length, ← r2.length, sizeLine_eq]; omega
  refine concat_meets ⟨_, ho, rfl⟩ ⟨_, ho2, rfl⟩ noFill_list_add seq_list_add PySem.F.slot_list_add PySem.F.entry_list_add (PySem.F.args_list_add_2 _ _) (list_addW a b its.toArray its2.toArray n n2 dd dd2 sl sl2 hsz) ⟨ho, ho2, ?_⟩
  have e : its.toArray ++ its2.toArray = (its ++ its2).toArray := by simp
  rw [e]
  have hn : H s.heap.objs.size = none := I.hok.fresh (Nat.le_refl _)
  refine ⟨.ref s.heap.objs.size, _, I.laid (t' := s.toks) (o := .lst (xs ++ ys)) (fun b ob q => Heap.get?_push_of_some _ q) (Nat.le_refl _) ?_, rfl, k _ _ _ (.new sG hn _) (.of upd_same)⟩
  exact ⟨by rw [List.length_append, sizeLine_eq]; omega, _, 0, r1.append r2, Heap.get?_push_size _ rfl⟩
theorem k_catL {X : Cx} (K : PySem.W.Frag) (e : X.K = K := by rfl) : OpR X (binaryOp .Add) (rCatL K) := e ▸ op_catL
theorem is_pair {K : PySem.W.Frag} {G : Hp} {v : V} {c : List Nat × List Nat} (h : Is K G ePr v c) : ∃ t x y, v = .ref t ∧ SqT K G t [x, y] ∧ Is K G eLs x c.1 ∧ Is K G eLs y c.2 := by
  obtain ⟨t, vs, e, h1, h2⟩ := Dp.tuple h
  cases h2 with
  | cons a b =>
    cases b with
    | cons c d =>
      cases d
      exact ⟨t, _, _, e, h1, a, c⟩
theorem pair_is {K : PySem.W.Frag} {G : Hp} {t : Addr} {x y : V} {c : List Nat × List Nat} (h : SqT K G t [x, y]) (hx : Is K G eLs x c.1) (hy : Is K G eLs y c.2) : Is K G ePr (.ref t) c := .tup h (.cons hx (.cons hy .nil))
theorem atI_last {α : Type} {xs : List α} {x : α} (h : 0 < xs.length) (e : xs[xs.length - 1]? = some x) : atI xs (-1) = some x := by
  unfold atI ixN
  rw [if_neg (by decide), if_pos (by omega)]
  show xs[((-1 : Int) + (xs.length : Int)).toNat]? = _
  rw [show ((-1 : Int) + (xs.length : Int)).toNat = xs.length - 1 by omega]
  exact e
section
variable {P : Program} {w : World} {K : PySem.W.Frag} {mg : Str → Option Value} {base : Heap}
/-! trimmed -/
abbrev s_trimmed : Stmt := topS 30
abbrev n_trimmed : List Str := ["found", "some", "needed"]
theorem sc_trimmed : FnScope n_trimmed ["found"] (defScope s_trimmed) := ⟨rfl, rfl, rfl, by decide +kernel, rfl, by decide +kernel, by decide +kernel⟩
def sp_trimmed (K : PySem.W.Frag) : Sp := fun vs H Q _ => ∃ (G : Hp) (v : V) (f : List (List Nat × List Nat)), vs = [v] ∧ Same G H ∧ Is K G (eL ePr) v f ∧ f.length ≤ 1000 ∧ ∀ v' G' H', Grow M0 G H G' H' → Is K G' eLL v' (LP.trimmed f) → Q v' H'
theorem ok_trimmed (T : Txt mg) {f : Addr} {fd : FuncData} (F : Fun K "trimmed" "trimmed" s_trimmed f fd) : FnOk P w K mg base CX0 1 f fd ["found"] (sp_trimmed K) := by
  refine F.ok sc_trimmed (fun vs H Q E h => ?_) (fun cdv A outer s H vs Q E hr h => ?_)
  · obtain ⟨G, v, f, rfl, _⟩ := h
    rfl
  obtain ⟨G, v, f, rfl, sG, hv, hf, q⟩ := h
  have hu1 := hu_of hr
  have hu := hr.units
  refine ⟨_, (pss_cons (ps_if (pt_cmpR (k_eqD K rfl hu) (pv 0) (pe_lst pa_nil) (nomark _)) (pss_one (ps_ret (pe_lst pa_nil))) pss_nil)
      (pss_one (ps_ret (pe_op (k_catL K) (pe_lc (own := [("some", 1), ("needed", 2)]) rfl sc_trimmed.nd (k_piL K rfl (pe_slice (k_slL K) (pv 0) po_none (po_some (pe_un un_neg pe_int)))) (blkOk_by (own := [("some", 1), ("needed", 2)]) (N := n_trimmed) (sc := defScope s_trimmed) (by decide +kernel)) (fun _ _ _ _ _ => (k_pgT (n := 2) K rfl rfl (pgs_cons (pg_name (i := 1) sc_trimmed.nd rfl (.inl rfl)) (pgs_cons (pg_name (i := 2) sc_trimmed.nd rfl (.inl rfl)) pgs_nil)))) (fun _ _ _ _ _ => pts_nil) (fun _ _ _ _ _ => (pe_callTy (k_list K) (by rfl) T.list_ bt_list (pa_cons (pv 1) pa_nil)))) (pe_lst (pa_cons (pe_ix (k_ixT K) (pe_ix (k_ixL K) (pv 0) (pe_un un_neg pe_int) (fun _ _ => rfl)) pe_int (fun _ _ => rfl)) pa_nil)))))), ?_⟩
  refine ⟨v, rfl, small_line (by decide), fun e ne => ?_⟩
  have gr1 := Grow.new (M := M0) sG ne (.lst [])
  have he : Is K (upd G e (.lst [])) (eL ePr) (.ref e) [] := .lst (.of upd_same) .nil
  generalize upd G e (.lst []) = G1 at gr1 he
  generalize upd H e (.lst []) = H1 at gr1
  refine ⟨_, _, (hv.up gr1.g).up gr1.s, he.up gr1.s, (eL ePr).shaped (by decide) _, (eL ePr).shaped (by decide) _, ?_⟩
  rw [(eL ePr).eqv]
  refine ⟨_, rfl, ite2 (fun c => ?_) (fun c => ?_)⟩
  · have c2 := of_decide_eq_true c
    subst c2
    refine ⟨small_line (by decide), fun e2 ne2 => ?_⟩
    have gr2 := Grow.new (M := M0) gr1.s ne2 (.lst [])
    exact q _ _ _ (gr1.trans gr2) (.lst (.of upd_same) .nil)
  · have c2 : ¬ f = [] := fun z => c (decide_eq_true z)
    obtain ⟨f0, x, rfl⟩ : ∃ f0 x, f = f0 ++ [x] := ⟨f.dropLast, f.getLast c2, (List.dropLast_concat_getLast c2).symm⟩
    obtain ⟨a, us, rfl, ha, hus⟩ := is_list (hv.up gr1.g)
    have hlen : us.length = f0.length + 1 := by rw [hus.len, List.length_map, List.length_append]; rfl
    rw [List.length_append, List.length_singleton] at hf
    refine ⟨.ref a, rfl, _, rfl, _, rfl, a, us, rfl, gr1.s.seq ha, fun p np => ?_⟩
    rw [show -(1 : Int) = -1 from rfl, cut_last]
    have gr2 := Grow.new (M := M0) gr1.s np (.lst us.dropLast)
    have hp : SqL K (upd G1 p (.lst us.dropLast)) p us.dropLast := .of upd_same
    generalize upd G1 p (.lst us.dropLast) = G2 at gr2 hp
    generalize upd H1 p (.lst us.dropLast) = H2 at gr2
    refine ⟨p, rfl, ⟨_, gr2.s.seq hp⟩, ?_⟩
    have hus2 := hus.up gr2.g
    have hdl : us.dropLast.length = f0.length := by rw [List.length_dropLast]; omega
    refine lc_pure (K := K) (fun i => (f0[i]?).map fun c => eLs.to c.1) (gw_list hp) gr2.s (by omega) (fun i y G3 H3 hi gr3 hy C1 C0 k1 k0 => ?_) fun D G3 H3 gr3 hD => ?_
    · rw [hdl] at hi
      have hy2 : us[i]? = some y := by
        rw [YV, List.getElem?_dropLast, if_pos (by omega)] at hy
        exact hy
      obtain ⟨c, hc, hyc⟩ := all_at (hus2.up gr3.g) hy2
      rw [List.getElem?_append_left hi] at hc
      obtain ⟨t, u1, u2, rfl, ht, h1, h2⟩ := is_pair hyc
      obtain ⟨b, rfl, hb⟩ := is_nats h1
      refine ⟨t, _, rfl, gr3.s.tup ht, rfl, _, _, rfl, _, _, rfl, rfl, rfl, ?_⟩
      refine ⟨.ref b, rfl, b, _, rfl, .inl (gr3.s.seq hb), fun l nl => ?_⟩
      exact k1 _ _ _ _ (by rw [hc]; rfl) (.new gr3.s nl _) (nats_is (.of upd_same))
    · rw [hdl, fm_get] at hD
      have hD2 : Is K G3 eLL (.ref D) (f0.map (·.1)) := by
        show Dp K G3 (.ref D) (.list (List.map eLs.to _))
        rw [List.map_map]
        exact hD
      obtain ⟨D', ds, eD, hD3, hds⟩ := is_list hD2
      cases eD
      have hx0 : us[us.length - 1]? = some (us[us.length - 1]'(by omega)) := List.getElem?_eq_getElem (by omega)
      obtain ⟨c, hc, hyc⟩ := all_at (hus2.up gr3.g) hx0
      rw [hlen, Nat.add_sub_cancel, List.getElem?_append_right (Nat.le_refl _), Nat.sub_self] at hc
      cases hc
      obtain ⟨t, u1, u2, et, ht, h1, h2⟩ := is_pair hyc
      refine ⟨.ref a, rfl, _, rfl, a, us, _, _, rfl, rfl, gr3.s.seq ((gr2.g.trans gr3.g).seq ha), atI_last (by omega) hx0, t, _, 1, u2, et, rfl, gr3.s.tup ht, rfl, (by show 1 ≤ _; exact small_line (by decide)), fun e2 ne2 => ?_⟩
      have gr4 := Grow.new (M := M0) gr3.s ne2 (.lst [u2])
      refine ⟨_, D, e2, _, [u2], rfl, rfl, gr4.s, gr4.g.seq hD3, .of upd_same, (by rw [hds.len, List.length_map, List.length_map]; exact Nat.le_trans (show f0.length + 1 ≤ 1000 from hf) (show 1000 ≤ 100000 by decide)), fun c3 G5 H5 gr5 h5 => ?_⟩
      refine q _ _ _ ((((gr1.trans gr2).trans gr3).trans gr4).trans gr5) ?_
      rw [LP.trimmed_snoc]
      refine .lst h5 ?_
      rw [List.map_append]
      exact (hds.up (gr4.g.trans gr5.g)).app (.one (h2.up (gr4.g.trans gr5.g)))
/-! ways_number -/
abbrev s_ways_number : Stmt := topS 35
abbrev n_ways_number : List Str := ["told", "found", "some"]
theorem sc_ways_number : FnScope n_ways_number ["told"] (defScope s_ways_number) := ⟨rfl, rfl, rfl, by decide +kernel, rfl, by decide +kernel, by decide +kernel⟩
def sp_ways_number (K : PySem.W.Frag) : Sp := fun vs H Q _ => ∃ (G : Hp) (v : V) (f : List (List Nat)), vs = [v] ∧ Same G H ∧ Is K G eLL v f ∧ (∀ T ∈ f, T.length ≤ 10) ∧ ∀ G' H', Grow M0 G H G' H' → Q (nV (LP.wn f)) H'
theorem ok_ways_number (T : Txt mg) {f : Addr} {fd : FuncData} (F : Fun K "ways_number" "ways_number" s_ways_number f fd) (c_product_to : Cal P w K mg base 1 "product_to" sp_product_to []) : FnOk P w K mg base CX0 2 f fd ["told"] (sp_ways_number K) := by
  refine F.ok sc_ways_number (fun vs H Q E h => ?_) (fun cdv A outer s H vs Q E hr h => ?_)
  · obtain ⟨G, v, f, rfl, _⟩ := h
    rfl
  obtain ⟨G, v, f, rfl, sG, hv, hT, q⟩ := h
  obtain ⟨a, us, rfl, ha, hus⟩ := is_list hv
  have hlen := all_len hus
  refine ⟨_, (pss_cons (ps_set (i := 1) sc_ways_number.nd rfl (.inl rfl) pe_int)
      (pss_cons (ps_for PassesOwn.never rfl (k_piL K rfl (pv 0)) (pg_name (i := 2) sc_ways_number.nd rfl (.inl rfl)) (pss_one (ps_set (i := 1) sc_ways_number.nd rfl (.inl rfl) (pe_op op_mul (pv 1) (pe_c c_product_to hr (by decide) rfl (pa_cons (pe_callB (k_len K) (by rfl) T.len_ PySem.boot_len (pa_cons (pv 2) pa_nil)) pa_nil))))))
      (pss_one (ps_ret (pv 1))))), ?_⟩
  refine ⟨.ref a, rfl, a, rfl, ⟨_, sG.seq ha⟩, ?_⟩
  refine for_run (gw_list ha) (fun i σ G1 H1 => Grow M0 G H G1 H1 ∧ ∃ x, σ = [some (.ref a), some (nV (LP.wn (f.take i))), x]) (fun i σ G1 H1 iv => ⟨iv.1.g, iv.1.s⟩) ⟨.here sG, none, rfl⟩ (fun i x σ G1 H1 G2 H2 hi iv gr hy => ?_) fun σ G1 H1 iv => ?_
  · obtain ⟨gr0, x1, rfl⟩ := iv
    rw [hlen] at hi
    obtain ⟨T1, hT1, hx⟩ := all_at (hus.up (gr0.g.trans gr.g)) hy
    obtain ⟨b, rfl, hb⟩ := is_nats hx
    have hTm : T1 ∈ f := List.mem_of_getElem? hT1
    have hl := hT T1 hTm
    have hs := fct_small _ hl
    refine ⟨_, rfl, .ref b, rfl, b, _, rfl, .inl (gr.s.seq hb), T1.length, by rw [List.length_map]; rfl, hl, _, _, rfl, rfl, .inr ⟨by omega, by omega⟩, ?_⟩
    refine ⟨G2, gr0.trans gr, some (.ref b), ?_⟩
    rw [List.take_add_one, hT1]
    show _ = [_, some (nV (LP.wn (f.take i ++ [T1]))), _]
    rw [LP.wn_append]
    show _ = [_, some (V.int ((LP.wn (f.take i) * (LP.fct T1.length * 1) : Nat) : Int)), _]
    rw [Nat.mul_one, Int.natCast_mul]
    rfl
  · obtain ⟨gr0, x1, rfl⟩ := iv
    rw [hlen, List.take_length]
    exact ⟨_, rfl, q _ _ gr0⟩
/-! need_number -/
abbrev s_need_number : Stmt := topS 13
abbrev n_need_number : List Str := ["value", "least", "most"]
theorem sc_need_number : FnScope n_need_number ["value", "least", "most"] (defScope s_need_number) := ⟨rfl, rfl, rfl, by decide +kernel, rfl, by decide +kernel, by decide +kernel⟩
def sp_need_number (K : PySem.W.Frag) : Sp := fun vs H Q _ => ∃ v d a b, vs = [v, .int a, .int b] ∧ Dp K H v d ∧ inD d a b = true ∧ Q .non H
theorem ok_need_number (T : Txt mg) {f : Addr} {fd : FuncData} (F : Fun K "need_number" "need_number" s_need_number f fd) (c_is_in : Cal P w K mg base 2 "is_in" (sp_is_in K) []) : FnOk P w K mg base CX0 3 f fd ["value", "least", "most"] (sp_need_number K) := by
  refine F.ok sc_need_number (fun vs H Q E h => ?_) (fun cdv A outer s H vs Q E hr h => ?_)
  · obtain ⟨v, d, a, b, rfl, _⟩ := h
    rfl
  obtain ⟨v, d, a, b, rfl, hd, hi, q⟩ := h
  refine ⟨_, (pss_one (ps_if (pt_not (pt_val (pe_c c_is_in hr (by decide) rfl (pa_cons (pv 0) (pa_cons (pv 1) (pa_cons (pv 2) pa_nil)))) (fun _ => rfl))) (pss_one ps_never) pss_nil)), ?_⟩
  refine ⟨v, rfl, _, rfl, _, rfl, v, d, a, b, rfl, hd, ?_⟩
  rw [hi]
  exact ⟨true, rfl, iteF q⟩
end
end LW
/-! least_of -/
namespace LW
open PySem PySem.Spec L2
open PyProof.Rows hiding St RelV
open C8 (Cal pe_c pe_gc)
open StX (pa_star)
def IsO (K : PySem.W.Frag) (G : Hp) (v : V) : Option (List (List Nat)) → Prop
  | none => v = .non
  | some Ts => Is K G eLL v Ts
theorem up_nV (xs : List Nat) : (LP.up xs).map V.int = xs.map nV := (nV_int xs).symm
theorem ks_keys (xs : List Nat) : (ks xs).map (·.1) = (LP.up xs).map Sum.inl := by
  unfold ks LP.up
  rw [List.map_map, List.map_map]
  rfl
section
variable {P : Program} {w : World} {K : PySem.W.Frag} {mg : Str → Option Value} {base : Heap}
/-! least_of -/
abbrev s_least_of : Stmt := topS 29
abbrev n_least_of : List Str := ["start", "goal", "left", "found", "some", "told", "needed", "at", "spot", "line", "cell"]
theorem sc_least_of : FnScope n_least_of ["start", "goal"] (defScope s_least_of) := ⟨rfl, rfl, rfl, by decide +kernel, rfl, by decide +kernel, by decide +kernel⟩
def sp_least_of (K : PySem.W.Frag) : Sp := fun vs H Q _ => ∃ (G : Hp) (u v : V) (h w : Nat) (s g : LP.Pic), vs = [u, v] ∧ Same G H ∧ Is K G eP u s ∧ Is K G eP v g ∧ PicOk h w s ∧ PicOk h w g ∧ ∀ v' G' H', Grow M0 G H G' H' → IsO K G' v' (LP.toldOf h w s g) → Q v' H'
theorem ok_least_of (T : Txt mg) {f : Addr} {fd : FuncData} (F : Fun K "least_of" "least_of" s_least_of f fd) (c_differing : Cal P w K mg base 1 "differing" (sp_differing K) []) (c_layers_of : Cal P w K mg base 2 "layers_of" (sp_layers_of K) []) (c_meets : Cal P w K mg base 1 "meets" (sp_meets K) []) (c_trimmed : Cal P w K mg base 1 "trimmed" (sp_trimmed K) []) : FnOk P w K mg base CX0 3 f fd ["start", "goal"] (sp_least_of K) := by
  refine F.ok sc_least_of (fun vs H Q E h => ?_) (fun cdv A outer s H vs Q E hr h => ?_)
  · obtain ⟨G, u, v, h, w, p, g, rfl, _⟩ := h
    rfl
  obtain ⟨G, u, v, h, w, p, g, rfl, sG, hu0, hv0, okp, okg, q⟩ := h
  have hu1 := hu_of hr
  have hu := hr.units
  refine ⟨_, (pss_cons (ps_par (i := 2) (j := 3) rfl sc_least_of.nd rfl rfl (by decide) rfl rfl (pa_cons (pe_c c_differing hr (by decide) rfl (pa_cons (pv 0) (pa_cons (pv 1) pa_nil))) (pa_cons (pe_lst pa_nil) pa_nil)) (by rfl))
      (pss_cons (ps_for PassesOwn.never rfl (k_piL K rfl (pe_c c_layers_of hr (by decide) rfl (pa_cons (pv 1) pa_nil))) (pg_name (i := 4) sc_least_of.nd rfl (.inl rfl)) (pss_cons (ps_if (pt_cmpR (k_eqD K rfl hu) (pv 2) (pe_lst pa_nil) (nomark _)) (pss_one (ps_ret (pe_c c_trimmed hr (by decide) rfl (pa_cons (pv 3) pa_nil)))) pss_nil)
      (pss_cons (ps_set (i := 5) sc_least_of.nd rfl (.inr rfl) (pe_dc (own := [("line", 9)]) rfl sc_least_of.nd (k_piL K rfl (pv 4)) (blkOk_by (own := [("line", 9)]) (N := n_least_of) (sc := defScope s_least_of) (by decide +kernel)) (fun _ _ _ _ _ => (pg_name (i := 9) sc_least_of.nd rfl (.inl rfl))) (fun _ _ _ _ _ => pts_nil) (fun _ _ _ _ _ => (pv 9)) (fun _ _ _ _ _ => pe_bl)))
      (pss_cons (ps_set (i := 6) sc_least_of.nd rfl (.inl rfl) pe_dnewK)
      (pss_cons (ps_for PassesOwn.never rfl (k_piL K rfl (pv 2)) (k_pgT (n := 2) K rfl rfl (pgs_cons (pg_name (i := 7) sc_least_of.nd rfl (.inl rfl)) (pgs_cons (pg_name (i := 8) sc_least_of.nd rfl (.inl rfl)) pgs_nil))) (pss_one (ps_for PassesOwn.never rfl (k_piT K rfl (pe_tup (pa_cons (pv 7) (pa_cons (pe_op op_add (pe_callB (k_len K) (by rfl) T.len_ PySem.boot_len (pa_cons (pv 0) pa_nil)) (pv 8)) pa_nil)))) (pg_name (i := 9) sc_least_of.nd rfl (.inl rfl)) (pss_one (ps_if (pt_cmp (pc_din hu1 (pv 9) (pv 5)) (by rfl)) (pss_one (ps_dput hu1 (pv 6) (pv 9) pe_bl rfl)) pss_nil)))))
      (pss_cons (ps_expr (pe_bm PySem.F.plainAttrs_list PySem.F.slot_list_append PySem.F.type_list_append mt_append (pv 3) (pa_cons (pe_tup (pa_cons (pv 4) (pa_cons (pe_callB (call_sortedDI rfl) (by rfl) T.sorted_ bt_sorted (pa_cons (pv 6) pa_nil)) pa_nil))) pa_nil)))
      (pss_one (ps_setLc (i := 2) (own := [("cell", 10)]) rfl sc_least_of.nd rfl rfl (sw_true rfl rfl rfl (by decide +kernel)) (k_piL K rfl (pv 2)) (blkOk_by (own := [("cell", 10)]) (N := n_least_of) (sc := defScope s_least_of) (by decide +kernel)) (fun _ _ _ _ _ => (pg_name (i := 10) sc_least_of.nd rfl (.inl rfl))) (fun _ _ _ _ _ => pts_one (pt_not (pt_val (pe_c c_meets hr (by decide) rfl (pa_cons (pv 0) (pa_cons (pv 10) (pa_cons (pv 5) pa_nil)))) (fun _ => rfl)))) (fun _ _ _ _ _ => (pv 10))))))))))
      (pss_one (ps_ret (pe_ifExp (pt_cmpR (k_eqD K rfl hu) (pv 2) (pe_lst pa_nil) (nomark _)) (pe_c c_trimmed hr (by decide) rfl (pa_cons (pv 3) pa_nil)) pe_non))))), ?_⟩
  refine ⟨u, rfl, v, rfl, G, u, v, h, w, p, g, rfl, sG, hu0, hv0, okp, okg, fun l G1 H1 gr1 hl => ?_⟩
  refine ⟨small_line (by decide), fun f nf => ?_⟩
  have gf1 : G1 f = none := gr1.s.free nf
  have gr2 := Grow.hide (M := M0) gr1.s nf (.lst [])
  have hf2 : upd H1 f (.lst []) f = some (.lst []) := upd_same
  generalize upd H1 f (.lst []) = H2 at gr2 hf2
  refine ⟨_, _, rfl, ?_⟩
  refine ⟨v, rfl, G1, v, h, w, g, rfl, gr2.s, hv0.up gr1.g, okg, fun ly G3 H3 gr3 hly => ?_⟩
  obtain ⟨a, lus, rfl, ha, hlus⟩ := is_list hly
  have hlen := all_len hlus
  have hL6 := LP.layers_len h w g
  have hsum : h + w ≤ 6 := by have := okp.h3; have := okp.w3; omega
  refine ⟨a, rfl, ⟨_, gr3.s.seq ha⟩, ?_⟩
  refine for_run (gw_list ha) (fun i σ G' H' => ∃ (l : V) (left : List (Nat × Nat)) (fs : List (List Nat × List Nat)) (us : List V) (x4 x5 x6 x7 x8 x9 : Option V), σ = [some u, some v, some l, some (.ref f), x4, x5, x6, x7, x8, x9, none] ∧ Grow M0 G1 H1 G' H' ∧ Same G3 G' ∧ G' f = none ∧ H' f = some (.lst us) ∧ DpAll K G' us (fs.map ePr.to) ∧ fs.length = i ∧
    Is K G' eCs l left ∧ left.length ≤ 9 ∧ LP.leastP h ((LP.layersOf h w g).drop i) left fs = LP.toldOf h w p g) (fun i σ G' H' iv => ?_) ⟨l, _, [], [], none, none, none, none, none, none, rfl, gr2.trans gr3, .refl _, ?_, ?_, .nil, rfl, hl.up gr3.g, LP.diff_len okp.h3 okp.w3, LP.leastP_least _ _⟩ (fun i x σ G4 H4 G5 H5 hi iv gr5 hy => ?_) fun σ G' H' iv => ?_
  · obtain ⟨l, left, fs, us, x4, x5, x6, x7, x8, x9, rfl, i1, i2, _⟩ := iv
    exact ⟨i2, i1.s⟩
  · exact (gr3.old f (by rw [hf2]; exact fun z => by cases z)).trans gf1
  · exact gr3.h f _ id hf2
  · obtain ⟨l, left, fs, us, x4, x5, x6, x7, x8, x9, rfl, gr4, s34, gf4, hf4, hus, hfl, hleft, hle, heq⟩ := iv
    rw [hlen] at hi
    obtain ⟨L, hL, hx⟩ := all_at (hlus.up (s34.trans gr5.g)) hy
    have hLm : L ∈ LP.layersOf h w g := List.mem_of_getElem? hL
    have S := LP.layer_small okp.h3 okp.w3 hLm
    have hdr : (LP.layersOf h w g).drop i = L :: (LP.layersOf h w g).drop (i + 1) := by
      have e2 := List.getElem?_eq_some_iff.mp hL
      obtain ⟨q1, q2⟩ := e2
      rw [List.drop_eq_getElem_cons q1, q2]
    obtain ⟨b, rfl, hb⟩ := is_nats hx
    have gf5 : G5 f = none := (gr5.old f (by rw [hf4]; exact fun z => by cases z)).trans gf4
    have hf5 : H5 f = some (.lst us) := gr5.h f _ id hf4
    -- left == []
    refine ⟨l, rfl, small_line (by decide), fun e ne => ?_⟩
    have gr6 := Grow.new (M := M0) gr5.s ne (.lst [])
    have he : Is K (upd G5 e (.lst [])) eCs (.ref e) [] := .lst (.of upd_same) .nil
    have gf6 : (upd G5 e (.lst [])) f = none := (gr6.old f (by rw [hf5]; exact fun z => by cases z)).trans gf5
    have hf6 : (upd H5 e (.lst [])) f = some (.lst us) := gr6.h f _ id hf5
    generalize upd G5 e (.lst []) = G6 at gr6 he gf6
    generalize upd H5 e (.lst []) = H6 at gr6 hf6
    have hus6 := hus.up (gr5.g.trans gr6.g)
    have hleft6 := hleft.up (gr5.g.trans gr6.g)
    refine ⟨_, _, hleft6.up gr6.s, he.up gr6.s, eCs.shaped (by decide) _, eCs.shaped (by decide) _, ?_⟩
    rw [eCs.eqv]
    have gr46 := (gr4.trans gr5).trans gr6
    refine ⟨_, rfl, ite2 (fun c => ?_) (fun c => ?_)⟩
    · have c2 := of_decide_eq_true c
      subst c2
      rw [LP.leastP_nil] at heq
      have gr7 := gr46.pub nf gf6 hf6
      refine ⟨_, rfl, _, _, fs, rfl, gr7.s, .lst (.of upd_same) (hus6.up fun b o e => by rw [upd_ne (ne_of_none e gf6)]; exact e), by omega, fun v' G8 H8 gr8 hv8 => ?_⟩
      refine q _ _ _ ((gr1.trans gr7).trans gr8) ?_
      rw [← heq]
      exact hv8
    · have c2 : ¬ left = [] := fun z => c (decide_eq_true z)
      -- told
      have hb6 := gr6.g.seq hb
      refine ⟨.ref b, rfl, b, rfl, ⟨_, gr6.s.seq hb6⟩, ?_⟩
      refine dc_names hb6 gr6.s (S.asc.imp fun q => by omega) (by have := S.len; omega) (by show 9 < 11; decide) fun D G7 H7 gr7 hD => ?_
      refine fun n nn => ?_
      have gr8 := Grow.hide (M := M0) gr7.s nn (.dK (ks []))
      have gn7 : G7 n = none := gr7.s.free nn
      have hn8 : upd H7 n (.dK (ks [])) n = some (.dK (ks [])) := upd_same
      have hD8 := gr8.s _ _ hD
      have hu8 := hu0.up (((gr1.g.trans gr46.g).trans gr7.g))
      obtain ⟨pa, rfl, hpa⟩ := is_pic hu8
      obtain ⟨la, lus2, rfl, hla, hlus2⟩ := is_list (hleft6.up gr7.g)
      have hlen2 := all_len hlus2
      have sz : ∀ xs : List Nat, xs.Nodup → (∀ x ∈ xs, x ∈ L) → xs.length < sizeLine := fun xs a1 a2 => by
        have := LP.sub_len a1 a2
        have := S.len
        rw [sizeLine_eq]; omega
      refine ⟨.ref la, rfl, la, rfl, ⟨_, gr8.s.seq hla⟩, ?_⟩
      refine for_run (gw_list hla) (fun j σ G' H' => ∃ x7 x8 x9, σ = [some (.ref pa), some v, some (.ref la), some (.ref f), some (.ref b), some (.ref D), some (.ref n), x7, x8, x9, none] ∧ Grow M0 G7 H7 G' H' ∧ G' n = none ∧ H' n = some (.dK (ks (LP.needs h L (left.take j) [])))) (fun i σ G' H' iv => ?_) ⟨x7, x8, x9, rfl, gr8, gn7, hn8⟩ (fun j x σ GA HA GB HB hj iv grB hy => ?_) fun σ GA HA iv => ?_
      · obtain ⟨x7, x8, x9, rfl, i1, i2, i3⟩ := iv
        exact ⟨i1.g, i1.s⟩
      · obtain ⟨x7, x8, x9, rfl, grA, gnA, hnA⟩ := iv
        rw [hlen2] at hj
        obtain ⟨c1, hc1, hxc⟩ := all_at (hlus2.up (grA.g.trans grB.g)) hy
        obtain ⟨t, rfl, ht⟩ := is_cell hxc
        refine ⟨t, _, rfl, grB.s.tup ht, rfl, _, _, rfl, _, _, rfl, rfl, ?_⟩
        refine ⟨nV c1.1, rfl, .ref pa, rfl, pa, _, rfl, .inr (grB.s.tup (grB.g.tup (grA.g.tup hpa))), nV c1.2, rfl, _, _, rfl, rfl, (by show 2 ≤ _; exact small_line (by decide)), fun t2 nt2 => ?_⟩
        have e2 : V.int (((p.map rV).length : Int) + (c1.2 : Int)) = nV (h + c1.2) := by
          rw [List.length_map, okp.wf.len]
          rfl
        have grC := Grow.new (M := M0) grB.s nt2 (.tup [nV c1.1, V.int (((p.map rV).length : Int) + (c1.2 : Int))])
        have ht2 : SqT K (upd GB t2 (.tup [nV c1.1, V.int (((p.map rV).length : Int) + (c1.2 : Int))])) t2 [nV c1.1, nV (h + c1.2)] := by
          rw [← e2]
          exact .of upd_same
        have grAC := (grA.trans grB).trans grC
        have gnC := ((grB.trans grC).old n (by rw [hnA]; exact fun z => by cases z)).trans gnA
        have hnC := (grB.trans grC).h n _ id hnA
        generalize upd GB t2 (.tup [nV c1.1, V.int (((p.map rV).length : Int) + (c1.2 : Int))]) = GC at grC ht2 grAC gnC
        refine ⟨t2, rfl, ⟨_, grC.s.tup ht2⟩, ?_⟩
        refine for_run (gw_tup ht2) (fun k σ G' H' => ∃ x9, σ = [some (.ref pa), some v, some (.ref la), some (.ref f), some (.ref b), some (.ref D), some (.ref n), some (nV c1.1), some (nV c1.2), x9, none] ∧ Grow M0 G7 H7 G' H' ∧ Same GC G' ∧ G' n = none ∧ H' n = some (.dK (ks (([c1.1, h + c1.2].take k).foldl (LP.addIf L) (LP.needs h L (left.take j) []))))) (fun i σ G' H' iv => ?_) ⟨x9, rfl, grAC, .refl _, gnC, hnC⟩ (fun k y σ GE HE GF HF hk iv grF hy2 => ?_) fun σ GE HE iv => ?_
        · obtain ⟨x9, rfl, i1, i2, i3⟩ := iv
          exact ⟨i2, i1.s⟩
        · obtain ⟨x9, rfl, grE, sCE, gnE, hnE⟩ := iv
          have e3 : ∃ m, [c1.1, h + c1.2][k]? = some m ∧ y = nV m := by
            have hy3 : ([c1.1, h + c1.2].map nV)[k]? = some y := hy2
            rw [List.getElem?_map] at hy3
            cases hm : [c1.1, h + c1.2][k]? with
            | none => rw [hm] at hy3; cases hy3
            | some m => rw [hm] at hy3; exact ⟨m, rfl, (Option.some.inj hy3).symm⟩
          obtain ⟨m, hm, rfl⟩ := e3
          have hnF := grF.h n _ id hnE
          have gnF := (grF.old n (by rw [hnE]; exact fun z => by cases z)).trans gnE
          have grEF := grE.trans grF
          refine ⟨_, rfl, .ref D, rfl, D, _, rfl, dget_n (grEF.s _ _ (grEF.g _ _ hD)) rfl, _, rfl, ?_⟩
          rw [ks_has]
          have e4 : ([c1.1, h + c1.2].take (k + 1)).foldl (LP.addIf L) (LP.needs h L (left.take j) []) = LP.addIf L (([c1.1, h + c1.2].take k).foldl (LP.addIf L) (LP.needs h L (left.take j) [])) m := by
            rw [List.take_add_one, hm]
            show List.foldl _ _ (_ ++ [m]) = _
            rw [List.foldl_append]
            rfl
          have fnd : ∀ (zs xs : List Nat), xs.Nodup → (zs.foldl (LP.addIf L) xs).Nodup := by
            intro zs
            induction zs with
            | nil => intro xs h; exact h
            | cons z zs ih => intro xs h; exact ih _ (LP.addIf_nodup h)
          have fsb : ∀ (zs xs : List Nat), (∀ x ∈ xs, x ∈ L) → ∀ x ∈ zs.foldl (LP.addIf L) xs, x ∈ L := by
            intro zs
            induction zs with
            | nil => intro xs h; exact h
            | cons z zs ih => intro xs h; exact ih _ (LP.addIf_sub h)
          refine ite2 (fun c => ?_) (fun c => ?_)
          · refine ⟨.ref n, rfl, nV m, rfl, n, _, rfl, .k (k := Sum.inl (m : Int)) hnF (by rw [ks_len]; exact sz _ (fnd _ _ (LP.needs_nodup List.nodup_nil)) (fsb _ _ LP.needs_sub)), ?_⟩
            refine ⟨GF, some (nV m), rfl, grEF.put nn gnF _, sCE.trans grF.g, gnF, ?_⟩
            rw [upd_same, ks_put, e4]
            unfold LP.addIf
            rw [if_pos c]
          · refine ⟨GF, some (nV m), rfl, grEF, sCE.trans grF.g, gnF, ?_⟩
            rw [e4]
            unfold LP.addIf
            rw [if_neg c]
            exact hnF
        · obtain ⟨x9, rfl, grE, sCE, gnE, hnE⟩ := iv
          refine ⟨GE, _, _, x9, rfl, grE, gnE, ?_⟩
          rw [hnE, List.take_add_one, hc1]
          show _ = some (HO.dK (ks (LP.needs h L (List.take j left ++ [c1]) [])))
          rw [LP.needs_snoc]
          rfl
      · obtain ⟨x7, x8, x9, rfl, grA, gnA, hnA⟩ := iv
        rw [hlen2, List.take_length] at hnA
        have grT := (gr46.trans gr7).trans grA
        have hfA : HA f = some (.lst us) := (gr7.trans grA).h f _ id hf6
        have gfA : GA f = none := ((gr7.trans grA).old f (by rw [hf6]; exact fun z => by cases z)).trans gf6
        refine ⟨_, rfl, .inl ⟨rfl, _, .of hfA⟩, .ref b, rfl, .ref n, rfl, n, _, LP.up (LP.needs h L left []), rfl, .inl hnA, ks_keys _, ?_, fun ys p1 hperm hsort np1 => ?_⟩
        · unfold LP.up
          rw [List.length_map]
          have := LP.sub_len (L := L) (LP.needs_nodup (h := h) (L := L) (cells := left) List.nodup_nil) LP.needs_sub
          have := S.len
          omega
        have eys := LP.needs_sorted S.asc hperm hsort
        subst eys
        rw [up_nV]
        have gr9 := Grow.new (M := M0) grA.s np1 (.lst ((LP.needed h left L).map nV))
        have hp1 : SqL K (upd GA p1 (.lst ((LP.needed h left L).map nV))) p1 ((LP.needed h left L).map nV) := .of upd_same
        have gf9 : (upd GA p1 (.lst ((LP.needed h left L).map nV))) f = none := (gr9.old f (by rw [hfA]; exact fun z => by cases z)).trans gfA
        have hf9 : (upd HA p1 (.lst ((LP.needed h left L).map nV))) f = some (.lst us) := gr9.h f _ id hfA
        generalize upd GA p1 (.lst ((LP.needed h left L).map nV)) = G9 at gr9 hp1 gf9
        generalize upd HA p1 (.lst ((LP.needed h left L).map nV)) = H9 at gr9 hf9
        refine ⟨(by show 2 ≤ _; exact small_line (by decide)), fun t nt => ?_⟩
        have gr10 := Grow.new (M := M0) gr9.s nt (.tup [.ref b, .ref p1])
        have ht : SqT K (upd G9 t (.tup [.ref b, .ref p1])) t [.ref b, .ref p1] := .of upd_same
        have gf10 : (upd G9 t (.tup [.ref b, .ref p1])) f = none := (gr10.old f (by rw [hf9]; exact fun z => by cases z)).trans gf9
        have hf10 : (upd H9 t (.tup [.ref b, .ref p1])) f = some (.lst us) := gr10.h f _ id hf9
        generalize upd G9 t (.tup [.ref b, .ref p1]) = G10 at gr10 ht gf10
        generalize upd H9 t (.tup [.ref b, .ref p1]) = H10 at gr10 hf10
        refine ⟨f, us, .ref t, rfl, rfl, hf10, by rw [hus.len, List.length_map, sizeLine_eq]; omega, ?_⟩
        have grU := (grT.trans gr9).trans gr10
        have gr11 := grU.put nf gf10 (.lst (us ++ [.ref t]))
        have hf11 : upd H10 f (.lst (us ++ [.ref t])) f = some (.lst (us ++ [.ref t])) := upd_same
        have s6 := ((gr7.g.trans grA.g).trans gr9.g).trans gr10.g
        have hb10 := s6.seq hb6
        have hus11 : DpAll K G10 (us ++ [.ref t]) ((fs ++ [(L, LP.needed h left L)]).map ePr.to) := by
          rw [List.map_append]
          exact (hus6.up s6).app (.one (pair_is ht (nats_is hb10) (nats_is (gr10.g.seq hp1))))
        generalize upd H10 f (.lst (us ++ [.ref t])) = H11 at gr11 hf11
        have hla11 := ((grA.g.trans gr9.g).trans gr10.g).seq hla
        have hlus11 := hlus2.up ((grA.g.trans gr9.g).trans gr10.g)
        refine ⟨.ref la, rfl, la, rfl, ⟨_, gr11.s.seq hla11⟩, ?_⟩
        refine lc_pure (K := K) (fun i => (left[i]?).bind fun c => if (!LP.meets h c L) = true then some (eC.to c) else none) (gw_list hla11) gr11.s (by rw [hlen2]; omega) (fun k y G12 H12 hk gr12 hy C1 C0 k1 k0 => ?_) fun R G12 H12 gr12 hR => ?_
        · rw [hlen2] at hk
          obtain ⟨c1, hc1, hxc⟩ := all_at (hlus11.up gr12.g) hy
          refine ⟨rfl, ?_⟩
          have sD := (((grA.g.trans gr9.g).trans gr10.g).trans gr12.g)
          refine ⟨.ref pa, rfl, y, rfl, .ref D, rfl, .ref pa, y, D, h, w, p, c1, L, rfl, (hu8.up sD).up gr12.s, okp, hxc.up gr12.s, gr12.s _ _ (sD _ _ hD), ?_⟩
          refine ⟨_, rfl, ite2 (fun d => ?_) (fun d => ?_)⟩
          · refine ⟨y, rfl, k1 _ _ _ _ ?_ (.here gr12.s) hxc⟩
            rw [hc1]
            exact if_pos d
          · refine k0 ?_ _ _ (.here gr12.s)
            rw [hc1]
            exact if_neg d
        rw [hlen2, fm_filter (fun c => !LP.meets h c L) eC.to] at hR
        have hR2 : Is K G12 eCs (.ref R) (LP.rest h left L) := hR
        refine ⟨G12, _, LP.rest h left L, fs ++ [(L, LP.needed h left L)], us ++ [.ref t], _, _, _, _, _, _, rfl, gr11.trans gr12, s34.trans (((gr5.g.trans gr6.g).trans s6).trans gr12.g), ?_, gr12.h f _ id hf11, hus11.up gr12.g, by rw [List.length_append, hfl]; rfl, hR2, Nat.le_trans (List.length_filter_le _ _) hle, ?_⟩
        · exact (gr12.old f (by rw [hf11]; exact fun z => by cases z)).trans gf10
        · rw [← heq, hdr]
          conv => rhs; unfold LP.leastP
          rw [if_neg c2]
  · obtain ⟨l, left, fs, us, x4, x5, x6, x7, x8, x9, rfl, gr4, s34, gf4, hf4, hus, hfl, hleft, hle, heq⟩ := iv
    refine ⟨l, rfl, small_line (by decide), fun e ne => ?_⟩
    have gr6 := Grow.new (M := M0) gr4.s ne (.lst [])
    have he : Is K (upd G' e (.lst [])) eCs (.ref e) [] := .lst (.of upd_same) .nil
    have gf6 : (upd G' e (.lst [])) f = none := (gr6.old f (by rw [hf4]; exact fun z => by cases z)).trans gf4
    have hf6 : (upd H' e (.lst [])) f = some (.lst us) := gr6.h f _ id hf4
    generalize upd G' e (.lst []) = G6 at gr6 he gf6
    generalize upd H' e (.lst []) = H6 at gr6 hf6
    have hus6 := hus.up gr6.g
    refine ⟨_, _, (hleft.up gr6.g).up gr6.s, he.up gr6.s, eCs.shaped (by decide) _, eCs.shaped (by decide) _, ?_⟩
    rw [eCs.eqv]
    have gr46 := gr4.trans gr6
    rw [hlen, List.drop_length] at heq
    refine ⟨_, rfl, ite2 (fun c => ?_) (fun c => ?_)⟩
    · have c2 := of_decide_eq_true c
      subst c2
      rw [LP.leastP_nil] at heq
      have gr7 := gr46.pub nf gf6 hf6
      refine ⟨_, rfl, _, _, fs, rfl, gr7.s, .lst (.of upd_same) (hus6.up fun b o e => by rw [upd_ne (ne_of_none e gf6)]; exact e), by omega, fun v' G8 H8 gr8 hv8 => ?_⟩
      refine q _ _ _ ((gr1.trans gr7).trans gr8) ?_
      rw [← heq]
      exact hv8
    · have c2 : ¬ left = [] := fun z => c (decide_eq_true z)
      have heq2 : none = LP.toldOf h w p g := by
        rw [← heq]
        unfold LP.leastP
        rw [if_neg c2]
      refine q _ _ _ (gr1.trans (gr46.pub nf gf6 hf6)) ?_
      rw [← heq2]
      exact rfl
end
end LW
/-! ways and what shows one -/
namespace LW
open PySem PySem.Spec L2
open PyProof.Rows hiding St RelV
open C8 (Cal pe_c pe_gc)
open StX (pa_star)
theorem IsO.none_or {K : PySem.W.Frag} {G : Hp} {v : V} : ∀ {o : Option (List (List Nat))}, IsO K G v o → (o = none ∧ v = .non) ∨ ∃ Ts a us, o = some Ts ∧ v = .ref a ∧ SqL K G a us ∧ DpAll K G us (Ts.map eLs.to)
  | none, h => .inl ⟨rfl, h⟩
  | some Ts, h => by
    obtain ⟨a, us, e, h1, h2⟩ := is_list h
    exact .inr ⟨Ts, a, us, rfl, e, h1, h2⟩
def natsD : PyData → List Nat
  | .list ds => ds.map fun d => match d with
    | .int i => i.toNat
    | _ => 0
  | _ => []
theorem deeds_nats {n : Nat} : ∀ {d : PyData}, deedsD n d = true → d = eLs.to (natsD d) ∧ ∀ l ∈ natsD d, l < n
  | .list ds, h => by
    unfold deedsD at h
    rw [List.all_eq_true] at h
    have hh : ∀ x ∈ ds, ∃ m : Nat, x = .int (m : Int) ∧ m < n := fun x hx => by
      have := h x hx
      cases x with
      | int i =>
        simp only [inD, Bool.and_eq_true, decide_eq_true_eq] at this
        exact ⟨i.toNat, by congr 1; omega, by omega⟩
      | _ => simp [inD] at this
    constructor
    · show PyData.list ds = .list (List.map eN.to (List.map _ ds))
      congr 1
      rw [List.map_map]
      refine (List.map_id ds).symm.trans (List.map_congr_left fun x hx => ?_)
      obtain ⟨m, rfl, _⟩ := hh x hx
      rfl
    · intro l hl
      obtain ⟨x, hx, rfl⟩ := List.mem_map.mp hl
      obtain ⟨m, rfl, hm⟩ := hh x hx
      exact hm
  | .none, h => by cases h
  | .bool _, h => by cases h
  | .int _, h => by cases h
  | .str _, h => by cases h
  | .tuple _, h => by cases h
  | .dict _, h => by cases h
theorem nats_deeds {n : Nat} {ns : List Nat} (h : ∀ l ∈ ns, l < n) : deedsD n (eLs.to ns) = true ∧ natsD (eLs.to ns) = ns := by
  constructor
  · show (ns.map eN.to).all _ = true
    rw [List.all_map, List.all_eq_true]
    intro x hx
    have := h x hx
    show (decide ((0 : Int) ≤ (x : Int)) && decide ((x : Int) ≤ (n : Int) - 1)) = true
    rw [decide_eq_true (by omega), decide_eq_true (by omega)]
    rfl
  · show (ns.map eN.to).map _ = ns
    rw [List.map_map]
    refine (List.map_congr_left fun x hx => ?_).trans (List.map_id ns)
    show (x : Int).toNat = x
    omega
/-- whether deeds turn the start into the goal -/
def makesD (h w : Nat) (s g : LP.Pic) (d : PyData) : Bool := deedsD (h + w) d && decide (LP.paintAll h w s (natsD d) = g)
def showsD (h w : Nat) (s g : LP.Pic) (d : PyData) : Bool := match LP.toldOf h w s g with
  | none => false
  | some Ts => deedsD (h + w) d && (decide ((natsD d).length = (Ts.map List.length).sum) && decide (LP.paintAll h w s (natsD d) = g))
def countO : Option (List (List Nat)) → Nat
  | none => 0
  | some Ts => LP.wn Ts
theorem flat_len {α : Type} {F : Nat → List α} {c : Nat} (h : ∀ i, (F i).length ≤ c) : ∀ k, ((List.range k).flatMap F).length ≤ k * c := by
  intro k
  induction k with
  | zero => simp
  | succ k ih =>
    rw [List.range_succ, List.flatMap_append, List.length_append, Nat.add_mul]
    have := h k
    simp only [List.flatMap_cons, List.flatMap_nil, List.append_nil]
    omega
theorem flat_get {e : Enc Nat} (Ts : List (List Nat)) : ((List.range Ts.length).flatMap fun i => ((Ts[i]?).getD []).map e.to) = Ts.flatten.map e.to := by
  induction Ts with
  | nil => rfl
  | cons T Ts ih =>
    rw [List.length_cons, List.range_succ_eq_map, List.flatMap_cons, List.flatMap_map, List.flatten_cons, List.map_append, ← ih]
    rfl
theorem up_sum : ∀ ns : List Nat, (LP.up ns).sum = ((ns.sum : Nat) : Int)
  | [] => rfl
  | n :: ns => by
    show Int.ofNat n + (LP.up ns).sum = ((n + ns.sum : Nat) : Int)
    rw [up_sum ns]
    rfl
theorem ne_nat (a b : Nat) : (!decide (V.int (a : Int) = V.int (b : Int))) = !decide (a = b) := by
  congr 1
  rw [Bool.eq_iff_iff, decide_eq_true_iff, decide_eq_true_iff]
  constructor
  · intro e; have := V.int.inj e; omega
  · intro e; rw [e]
section
variable {P : Program} {w : World} {K : PySem.W.Frag} {mg : Str → Option Value} {base : Heap}
/-! need_way -/
abbrev s_need_way : Stmt := topS 31
abbrev n_need_way : List Str := ["start", "goal", "told"]
theorem sc_need_way : FnScope n_need_way ["start", "goal"] (defScope s_need_way) := ⟨rfl, rfl, rfl, by decide +kernel, rfl, by decide +kernel, by decide +kernel⟩
def sp_need_way (K : PySem.W.Frag) : Sp := fun vs H Q _ => ∃ (G : Hp) (u v : V) (h w : Nat) (s g : LP.Pic) (Ts : List (List Nat)), vs = [u, v] ∧ Same G H ∧ Is K G eP u s ∧ Is K G eP v g ∧ PicOk h w s ∧ PicOk h w g ∧ LP.toldOf h w s g = some Ts ∧ ∀ v' G' H', Grow M0 G H G' H' → Is K G' eLL v' Ts → Q v' H'
theorem ok_need_way (T : Txt mg) {f : Addr} {fd : FuncData} (F : Fun K "need_way" "need_way" s_need_way f fd) (c_need_two : Cal P w K mg base 3 "need_two" (sp_need_two K) []) (c_least_of : Cal P w K mg base 3 "least_of" (sp_least_of K) []) : FnOk P w K mg base CX0 4 f fd ["start", "goal"] (sp_need_way K) := by
  refine F.ok sc_need_way (fun vs H Q E h => ?_) (fun cdv A outer s H vs Q E hr h => ?_)
  · obtain ⟨G, u, v, h, w, p, g, Ts, rfl, _⟩ := h
    rfl
  obtain ⟨G, u, v, h, w, p, g, Ts, rfl, sG, hu0, hv0, okp, okg, hT, q⟩ := h
  refine ⟨_, (pss_cons (ps_expr (pe_c c_need_two hr (by decide) rfl (pa_cons (pv 0) (pa_cons (pv 1) pa_nil))))
      (pss_cons (ps_set (i := 2) sc_need_way.nd rfl (.inl rfl) (pe_c c_least_of hr (by decide) rfl (pa_cons (pv 0) (pa_cons (pv 1) pa_nil))))
      (pss_cons (ps_if (pt_cmpR op_isN (pv 2) pe_non (nomark _)) (pss_one ps_never) pss_nil)
      (pss_one (ps_ret (pv 2)))))), ?_⟩
  refine ⟨u, rfl, v, rfl, G, u, v, h, w, p, g, rfl, sG, hu0, hv0, okp, okg, fun G1 H1 gr1 => ?_⟩
  refine ⟨u, rfl, v, rfl, G1, u, v, h, w, p, g, rfl, gr1.s, hu0.up gr1.g, hv0.up gr1.g, okp, okg, fun t G2 H2 gr2 ht => ?_⟩
  rw [hT] at ht
  obtain ⟨a, us, rfl, h1, h2⟩ := is_list ht
  refine ⟨.ref a, rfl, rfl, false, rfl, ?_⟩
  refine iteF ?_
  exact ⟨.ref a, rfl, q _ _ _ (gr1.trans gr2) ht⟩
/-! count_ways -/
abbrev s_count_ways : Stmt := topS 36
abbrev n_count_ways : List Str := ["start", "goal", "told"]
theorem sc_count_ways : FnScope n_count_ways ["start", "goal"] (defScope s_count_ways) := ⟨rfl, rfl, rfl, by decide +kernel, rfl, by decide +kernel, by decide +kernel⟩
def sp_count_ways (K : PySem.W.Frag) : Sp := fun vs H Q _ => ∃ (G : Hp) (u v : V) (h w : Nat) (s g : LP.Pic), vs = [u, v] ∧ Same G H ∧ Is K G eP u s ∧ Is K G eP v g ∧ PicOk h w s ∧ PicOk h w g ∧ ∀ G' H', Grow M0 G H G' H' → Q (nV (countO (LP.toldOf h w s g))) H'
theorem ok_count_ways (T : Txt mg) {f : Addr} {fd : FuncData} (F : Fun K "count_ways" "count_ways" s_count_ways f fd) (c_need_two : Cal P w K mg base 3 "need_two" (sp_need_two K) []) (c_least_of : Cal P w K mg base 3 "least_of" (sp_least_of K) []) (c_ways_number : Cal P w K mg base 2 "ways_number" (sp_ways_number K) []) : FnOk P w K mg base CX0 4 f fd ["start", "goal"] (sp_count_ways K) := by
  refine F.ok sc_count_ways (fun vs H Q E h => ?_) (fun cdv A outer s H vs Q E hr h => ?_)
  · obtain ⟨G, u, v, h, w, p, g, rfl, _⟩ := h
    rfl
  obtain ⟨G, u, v, h, w, p, g, rfl, sG, hu0, hv0, okp, okg, q⟩ := h
  refine ⟨_, (pss_cons (ps_expr (pe_c c_need_two hr (by decide) rfl (pa_cons (pv 0) (pa_cons (pv 1) pa_nil))))
      (pss_cons (ps_set (i := 2) sc_count_ways.nd rfl (.inl rfl) (pe_c c_least_of hr (by decide) rfl (pa_cons (pv 0) (pa_cons (pv 1) pa_nil))))
      (pss_one (ps_ret (pe_ifExp (pt_cmpR op_notN (pv 2) pe_non (nomark _)) (pe_c c_ways_number hr (by decide) rfl (pa_cons (pv 2) pa_nil)) pe_int))))), ?_⟩
  refine ⟨u, rfl, v, rfl, G, u, v, h, w, p, g, rfl, sG, hu0, hv0, okp, okg, fun G1 H1 gr1 => ?_⟩
  refine ⟨u, rfl, v, rfl, G1, u, v, h, w, p, g, rfl, gr1.s, hu0.up gr1.g, hv0.up gr1.g, okp, okg, fun t G2 H2 gr2 ht => ?_⟩
  have q2 := q _ _ (gr1.trans gr2)
  rcases ht.none_or with ⟨e, rfl⟩ | ⟨Ts, a, us, e, rfl, h1, h2⟩
  · rw [e] at q2
    exact ⟨.non, rfl, rfl, false, rfl, iteF q2⟩
  · rw [e] at q
    refine ⟨.ref a, rfl, rfl, true, rfl, iteT ?_⟩
    refine ⟨.ref a, rfl, G2, .ref a, Ts, rfl, gr2.s, .lst h1 h2, fun T hT => ?_, fun G3 H3 gr3 => q _ _ ((gr1.trans gr2).trans gr3)⟩
    have := (LP.told_small okp.h3 okp.w3 e hT).len
    omega
/-! way -/
abbrev s_way : Stmt := topS 32
abbrev n_way : List Str := ["start", "goal", "told", "some", "line"]
theorem sc_way : FnScope n_way ["start", "goal"] (defScope s_way) := ⟨rfl, rfl, rfl, by decide +kernel, rfl, by decide +kernel, by decide +kernel⟩
def sp_way (K : PySem.W.Frag) : Sp := fun vs H Q _ => ∃ (G : Hp) (u v : V) (h w : Nat) (s g : LP.Pic) (Ts : List (List Nat)), vs = [u, v] ∧ Same G H ∧ Is K G eP u s ∧ Is K G eP v g ∧ PicOk h w s ∧ PicOk h w g ∧ LP.toldOf h w s g = some Ts ∧ ∀ v' G' H', Grow M0 G H G' H' → Is K G' eLs v' Ts.reverse.flatten → Q v' H'
theorem ok_way (T : Txt mg) {f : Addr} {fd : FuncData} (F : Fun K "way" "way" s_way f fd) (c_need_way : Cal P w K mg base 4 "need_way" (sp_need_way K) []) : FnOk P w K mg base CX0 5 f fd ["start", "goal"] (sp_way K) := by
  refine F.ok sc_way (fun vs H Q E h => ?_) (fun cdv A outer s H vs Q E hr h => ?_)
  · obtain ⟨G, u, v, h, w, p, g, Ts, rfl, _⟩ := h
    rfl
  obtain ⟨G, u, v, h, w, p, g, Ts, rfl, sG, hu0, hv0, okp, okg, hT, q⟩ := h
  refine ⟨_, (pss_cons (ps_set (i := 2) sc_way.nd rfl (.inl rfl) (pe_c c_need_way hr (by decide) rfl (pa_cons (pv 0) (pa_cons (pv 1) pa_nil))))
      (pss_one (ps_ret (pe_lc2 (own := [("some", 3), ("line", 4)]) (vs1 := [4]) rfl sc_way.nd (k_piL K rfl (pe_revL (pv 2))) (blkOk_by (own := [("some", 3), ("line", 4)]) (N := n_way) (sc := defScope s_way) (by decide +kernel)) (by decide) (fun _ _ _ _ _ => (pg_name (i := 3) sc_way.nd rfl (.inl rfl))) (fun _ _ _ _ _ => pts_nil) (fun _ _ _ _ _ => (k_piL K rfl (pv 3))) (fun _ _ _ _ _ => (pg_name (i := 4) sc_way.nd rfl (.inl rfl))) (fun _ _ _ _ _ => pts_nil) (fun _ _ _ _ _ => (pv 4)))))), ?_⟩
  refine ⟨u, rfl, v, rfl, G, u, v, h, w, p, g, Ts, rfl, sG, hu0, hv0, okp, okg, hT, fun t G1 H1 gr1 ht => ?_⟩
  obtain ⟨a, us, rfl, h1, h2⟩ := is_list ht
  refine ⟨.ref a, rfl, a, us, rfl, gr1.s.seq h1, fun b nb => ?_⟩
  have gr2 := Grow.new (M := M0) gr1.s nb (.lst us.reverse)
  have hb : SqL K (upd G1 b (.lst us.reverse)) b us.reverse := .of upd_same
  generalize upd G1 b (.lst us.reverse) = G2 at gr2 hb
  generalize upd H1 b (.lst us.reverse) = H2 at gr2
  have h3 : DpAll K G2 us.reverse (Ts.reverse.map eLs.to) := by
    rw [List.map_reverse]
    exact (h2.up gr2.g).rev
  have hlen := all_len h3
  have hsm : ∀ T ∈ Ts.reverse, T.length ≤ 3 := fun T hm => (LP.told_small okp.h3 okp.w3 hT (List.mem_reverse.mp hm)).len
  have h6 := LP.told_len okp.h3 okp.w3 hT
  refine ⟨b, rfl, ⟨_, gr2.s.seq hb⟩, ?_⟩
  refine lc2_pure (K := K) (fun i => ((Ts.reverse[i]?).getD []).map eN.to) (gw_list hb) gr2.s (fun i hi => ?_) (fun i x G3 H3 hi gr3 hy C C0 k => ?_) fun D G3 H3 gr3 hD => ?_
  · have hF : ∀ i : Nat, ((Ts.reverse[i]?).getD []).length ≤ 3 := fun i => by
      cases q : Ts.reverse[i]? with
      | none => simp
      | some T => exact hsm T (List.mem_of_getElem? q)
    have hle := flat_len (F := fun i => ((Ts.reverse[i]?).getD []).map eN.to) (c := 3) (fun i => by rw [List.length_map]; exact hF i) i
    rw [hlen, List.length_reverse] at hi
    omega
  · obtain ⟨T1, hT1, hx⟩ := all_at (h3.up gr3.g) hy
    obtain ⟨c, rfl, hc⟩ := is_nats hx
    refine ⟨rfl, iteT (B := C0 H3) ⟨.ref c, rfl, c, rfl, ⟨_, gr3.s.seq hc⟩, ?_⟩⟩
    refine k _ _ _ _ (.here gr3.s) ⟨(T1.map nV).length, YV (T1.map nV), fun j => (T1[j]?).map eN.to, gw_list hc, ?_, fun j y G4 H4 hj s12 s22 hy2 C1 C2 k1 k0 => ?_⟩
    · rw [hT1, List.length_map, fm_get]
      rfl
    · rw [YV, List.getElem?_map] at hy2
      cases hm : T1[j]? with
      | none => rw [hm] at hy2; cases hy2
      | some m =>
        rw [hm] at hy2
        cases hy2
        exact ⟨rfl, nV m, rfl, k1 _ _ _ _ (by show Option.map _ _ = _; rw [hm]; rfl) (.here s22) (.int _)⟩
  · rw [hlen] at hD
    refine q _ _ _ ((gr1.trans gr2).trans gr3) ?_
    have := flat_get (e := eN) Ts.reverse
    show Dp K G3 (.ref D) (.list (List.map eN.to _))
    rw [← this]
    exact hD
/-! shows_way -/
abbrev s_shows_way : Stmt := topS 33
abbrev n_shows_way : List Str := ["start", "goal", "value", "told", "some"]
theorem sc_shows_way : FnScope n_shows_way ["start", "goal", "value"] (defScope s_shows_way) := ⟨rfl, rfl, rfl, by decide +kernel, rfl, by decide +kernel, by decide +kernel⟩
def sp_shows_way (K : PySem.W.Frag) : Sp := fun vs H Q _ => ∃ (G : Hp) (u v x : V) (h w : Nat) (s g : LP.Pic) (d : PyData), vs = [u, v, x] ∧ Same G H ∧ Is K G eP u s ∧ Is K G eP v g ∧ PicOk h w s ∧ PicOk h w g ∧ Dp K G x d ∧ (∀ ds, d = .list ds → ds.length ≤ 1000) ∧ ∀ G' H', Grow M0 G H G' H' → Q (.bl (showsD h w s g d)) H'
theorem ok_shows_way (T : Txt mg) {f : Addr} {fd : FuncData} (F : Fun K "shows_way" "shows_way" s_shows_way f fd) (c_need_two : Cal P w K mg base 3 "need_two" (sp_need_two K) []) (c_least_of : Cal P w K mg base 3 "least_of" (sp_least_of K) []) (c_are_deeds : Cal P w K mg base 3 "are_deeds" (sp_are_deeds K) []) (c_all_painted : Cal P w K mg base 2 "all_painted" (sp_all_painted K) []) : FnOk P w K mg base CX0 4 f fd ["start", "goal", "value"] (sp_shows_way K) := by
  refine F.ok sc_shows_way (fun vs H Q E h => ?_) (fun cdv A outer s H vs Q E hr h => ?_)
  · obtain ⟨G, u, v, x, h, w, p, g, d, rfl, _⟩ := h
    rfl
  obtain ⟨G, u, v, x, h, w, p, g, d, rfl, sG, hu0, hv0, okp, okg, hx, hz, q⟩ := h
  have hu := hr.units
  refine ⟨_, (pss_cons (ps_expr (pe_c c_need_two hr (by decide) rfl (pa_cons (pv 0) (pa_cons (pv 1) pa_nil))))
      (pss_cons (ps_set (i := 3) sc_shows_way.nd rfl (.inl rfl) (pe_c c_least_of hr (by decide) rfl (pa_cons (pv 0) (pa_cons (pv 1) pa_nil))))
      (pss_cons (ps_if (PW.pt (pw_or (pt_cmpR op_isN (pv 3) pe_non (nomark _)) (pw_or (pt_not (pt_val (pe_c c_are_deeds hr (by decide) rfl (pa_cons (pv 0) (pa_cons (pv 2) pa_nil))) (fun _ => rfl))) (pw_or1 (pt_cmpR op_ne (pe_callB (k_len K) (by rfl) T.len_ PySem.boot_len (pa_cons (pv 2) pa_nil)) (pe_callB (k_sum K rfl rfl) (by rfl) T.sum_ bt_sum (pa_cons (pe_lc (own := [("some", 4)]) rfl sc_shows_way.nd (k_piL K rfl (pv 3)) (blkOk_by (own := [("some", 4)]) (N := n_shows_way) (sc := defScope s_shows_way) (by decide +kernel)) (fun _ _ _ _ _ => (pg_name (i := 4) sc_shows_way.nd rfl (.inl rfl))) (fun _ _ _ _ _ => pts_nil) (fun _ _ _ _ _ => (pe_callB (k_len K) (by rfl) T.len_ PySem.boot_len (pa_cons (pv 4) pa_nil)))) pa_nil)) (nomark _)))))) (pss_one (ps_ret pe_bl)) pss_nil)
      (pss_one (ps_ret (pe_cmpR (k_eqD K rfl hu) (pe_c c_all_painted hr (by decide) rfl (pa_cons (pv 0) (pa_cons (pv 2) pa_nil))) (pv 1) (nomark _))))))), ?_⟩
  refine ⟨u, rfl, v, rfl, G, u, v, h, w, p, g, rfl, sG, hu0, hv0, okp, okg, fun G1 H1 gr1 => ?_⟩
  refine ⟨u, rfl, v, rfl, G1, u, v, h, w, p, g, rfl, gr1.s, hu0.up gr1.g, hv0.up gr1.g, okp, okg, fun t G2 H2 gr2 ht => ?_⟩
  have gr12 := gr1.trans gr2
  have q2 := q _ _ gr12
  unfold showsD at q q2
  rcases ht.none_or with ⟨e, rfl⟩ | ⟨Ts, a, us, e, rfl, h1, h2⟩
  · rw [e] at q2
    exact ⟨.non, rfl, rfl, true, rfl, iteT (iteT q2)⟩
  rw [e] at q q2
  refine ⟨.ref a, rfl, rfl, false, rfl, iteF ?_⟩
  refine ⟨u, rfl, x, rfl, G2, u, x, h, w, p, d, rfl, gr2.s, hu0.up gr12.g, okp, hx.up gr12.g, hz, fun G3 H3 gr3 => ?_⟩
  have gr13 := gr12.trans gr3
  have q3 := q _ _ gr13
  refine ⟨_, rfl, ?_⟩
  by_cases c : deedsD (h + w) d = true
  · obtain ⟨ed, hlt⟩ := deeds_nats c
    rw [c] at q q2 q3
    rw [c]
    generalize natsD d = ns at ed hlt q q2 q3
    subst ed
    obtain ⟨b, rfl, hb⟩ := is_nats (hx.up gr13.g)
    refine iteF ?_
    refine ⟨.ref b, rfl, b, _, rfl, .inl (gr3.s.seq hb), ?_⟩
    have h13 := gr3.g.seq h1
    refine ⟨.ref a, rfl, a, rfl, ⟨_, gr3.s.seq h13⟩, ?_⟩
    have hlen := all_len h2
    have h6 := LP.told_len okp.h3 okp.w3 e
    refine lc_pure (K := K) (fun i => (Ts[i]?).map fun T => eN.to T.length) (gw_list h13) gr3.s (by omega) (fun i y G4 H4 hi gr4 hy C1 C0 k1 k0 => ?_) fun D G4 H4 gr4 hD => ?_
    · obtain ⟨T1, hT1, hy2⟩ := all_at ((h2.up gr3.g).up gr4.g) hy
      obtain ⟨c, rfl, hc⟩ := is_nats hy2
      refine ⟨rfl, .ref c, rfl, c, _, rfl, .inl (gr4.s.seq hc), ?_⟩
      rw [List.length_map]
      exact k1 _ _ _ _ (by rw [hT1]; rfl) (.here gr4.s) (.int _)
    · rw [hlen, fm_get] at hD
      have hD2 : Is K G4 eLs (.ref D) (Ts.map List.length) := by
        show Dp K G4 (.ref D) (.list (List.map eN.to _))
        rw [List.map_map]
        exact hD
      obtain ⟨D', eD, hD3⟩ := is_nats hD2
      cases eD
      rw [nV_int] at hD3
      refine ⟨D, _, rfl, gr4.s.seq hD3, rfl, _, rfl, ?_⟩
      have gr14 := gr13.trans gr4
      have q : ∀ G' H', Grow M0 G H G' H' → Q (.bl (decide (ns.length = (Ts.map List.length).sum) && decide (LP.paintAll h w p ns = g))) H' := q
      have q4 := q _ _ gr14
      rw [List.length_map, up_sum, ne_nat]
      refine ite2 (fun c1 => ?_) (fun c1 => ?_)
      · rw [Bool.not_eq_true'] at c1
        rw [c1] at q4
        exact q4
      · rw [Bool.not_eq_true', Bool.not_eq_false] at c1
        rw [c1] at q
        refine ⟨u, rfl, .ref b, rfl, G4, u, .ref b, h, w, p, ns, rfl, gr4.s, hu0.up gr14.g, okp, hx.up gr14.g, hlt, fun v' G5 H5 gr5 hv' => ?_⟩
        refine ⟨v, rfl, eP.to (LP.paintAll h w p ns), eP.to g, hv'.up gr5.s, ((hv0.up gr14.g).up gr5.g).up gr5.s, eP.shaped (by decide) _, eP.shaped (by decide) _, ?_⟩
        rw [eP.eqv]
        exact q _ _ (gr14.trans gr5)
  · have c2 := Bool.eq_false_iff.mpr c
    rw [c2] at q3
    rw [c2]
    exact iteT (iteT q3)
/-! shows_deeds -/
abbrev s_shows_deeds : Stmt := topS 34
abbrev n_shows_deeds : List Str := ["start", "goal", "value"]
theorem sc_shows_deeds : FnScope n_shows_deeds ["start", "goal", "value"] (defScope s_shows_deeds) := ⟨rfl, rfl, rfl, by decide +kernel, rfl, by decide +kernel, by decide +kernel⟩
def sp_shows_deeds (K : PySem.W.Frag) : Sp := fun vs H Q _ => ∃ (G : Hp) (u v x : V) (h w : Nat) (s g : LP.Pic) (d : PyData), vs = [u, v, x] ∧ Same G H ∧ Is K G eP u s ∧ Is K G eP v g ∧ PicOk h w s ∧ PicOk h w g ∧ Dp K G x d ∧ (∀ ds, d = .list ds → ds.length ≤ 1000) ∧ ∀ G' H', Grow M0 G H G' H' → Q (.bl (makesD h w s g d)) H'
theorem ok_shows_deeds (T : Txt mg) {f : Addr} {fd : FuncData} (F : Fun K "shows_deeds" "shows_deeds" s_shows_deeds f fd) (c_need_two : Cal P w K mg base 3 "need_two" (sp_need_two K) []) (c_are_deeds : Cal P w K mg base 3 "are_deeds" (sp_are_deeds K) []) (c_all_painted : Cal P w K mg base 2 "all_painted" (sp_all_painted K) []) : FnOk P w K mg base CX0 4 f fd ["start", "goal", "value"] (sp_shows_deeds K) := by
  refine F.ok sc_shows_deeds (fun vs H Q E h => ?_) (fun cdv A outer s H vs Q E hr h => ?_)
  · obtain ⟨G, u, v, x, h, w, p, g, d, rfl, _⟩ := h
    rfl
  obtain ⟨G, u, v, x, h, w, p, g, d, rfl, sG, hu0, hv0, okp, okg, hx, hz, q⟩ := h
  have hu := hr.units
  refine ⟨_, (pss_cons (ps_expr (pe_c c_need_two hr (by decide) rfl (pa_cons (pv 0) (pa_cons (pv 1) pa_nil))))
      (pss_one (ps_ret (pe_and (pe_c c_are_deeds hr (by decide) rfl (pa_cons (pv 0) (pa_cons (pv 2) pa_nil))) (pe_one (pe_cmpR (k_eqD K rfl hu) (pe_c c_all_painted hr (by decide) rfl (pa_cons (pv 0) (pa_cons (pv 2) pa_nil))) (pv 1) (nomark _))))))), ?_⟩
  refine ⟨u, rfl, v, rfl, G, u, v, h, w, p, g, rfl, sG, hu0, hv0, okp, okg, fun G1 H1 gr1 => ?_⟩
  refine ⟨u, rfl, x, rfl, G1, u, x, h, w, p, d, rfl, gr1.s, hu0.up gr1.g, okp, hx.up gr1.g, hz, fun G3 H3 gr3 => ?_⟩
  have gr13 := gr1.trans gr3
  have q3 := q _ _ gr13
  unfold makesD at q q3
  refine ⟨_, rfl, ?_⟩
  by_cases c : deedsD (h + w) d = true
  · obtain ⟨ed, hlt⟩ := deeds_nats c
    rw [c] at q
    rw [c]
    generalize natsD d = ns at ed hlt q
    subst ed
    refine iteT ?_
    refine ⟨u, rfl, x, rfl, G3, u, x, h, w, p, ns, rfl, gr3.s, hu0.up gr13.g, okp, hx.up gr13.g, hlt, fun v' G5 H5 gr5 hv' => ?_⟩
    refine ⟨v, rfl, eP.to (LP.paintAll h w p ns), eP.to g, hv'.up gr5.s, ((hv0.up gr13.g).up gr5.g).up gr5.s, eP.shaped (by decide) _, eP.shaped (by decide) _, ?_⟩
    rw [eP.eqv]
    exact q _ _ (gr13.trans gr5)
  · have c2 := Bool.eq_false_iff.mpr c
    rw [c2] at q3
    rw [c2]
    exact iteF q3
end
end LW
/-! orders and all ways -/
namespace LW
open PySem PySem.Spec L2
open PyProof.Rows hiding St RelV
open C8 (Cal pe_c pe_gc)
open StX (pa_star)
theorem orders_step {T : List Nat} (h : T ≠ []) : LP.orders T = (List.range T.length).flatMap fun i => (LP.orders (T.eraseIdx i)).map (T.getD i 0 :: ·) := by
  obtain ⟨n, hn⟩ : ∃ n, T.length = n + 1 := ⟨T.length - 1, by have := List.length_pos_iff.mpr h; omega⟩
  unfold LP.orders
  rw [hn]
  show (List.range T.length).flatMap _ = _
  rw [hn]
  rw [List.flatMap_def, List.flatMap_def]
  congr 1
  refine List.map_congr_left fun i hi => ?_
  rw [List.mem_range] at hi
  have : (T.eraseIdx i).length = n := by rw [List.length_eraseIdx, if_pos (by omega)]; omega
  rw [this]
theorem orders_small {T : List Nat} (h : T.length ≤ 3) : (LP.orders T).length ≤ 6 := by
  rw [LP.orders_len]
  have : ∀ n, n < 4 → LP.fct n ≤ 6 := by decide
  exact this _ (by omega)
theorem orders_each : ∀ (T o : List Nat), o ∈ LP.orders T → o.length = T.length := fun T o h => (LP.mem_orders.mp h).length_eq
theorem ways_each : ∀ (R : List (List Nat)) (o : List Nat), o ∈ LP.waysL R → o.length = (R.map List.length).sum
  | [], o, h => by
    unfold LP.waysL at h
    rw [List.mem_singleton] at h
    subst h
    rfl
  | T :: R, o, h => by
    rw [LP.waysL_cons] at h
    obtain ⟨a, ha, h2⟩ := List.mem_flatMap.mp h
    obtain ⟨b, hb, rfl⟩ := List.mem_map.mp h2
    rw [List.length_append, orders_each _ _ ha, ways_each R b hb]
    rfl
theorem sum_small {c : Nat} : ∀ {xs : List Nat}, (∀ x ∈ xs, x ≤ c) → xs.sum ≤ xs.length * c
  | [], _ => by simp
  | x :: xs, h => by
    have h1 := h x List.mem_cons_self
    have h2 := sum_small (xs := xs) fun y hy => h y (List.mem_cons_of_mem _ hy)
    rw [List.sum_cons, List.length_cons, Nat.add_mul]
    omega
theorem ways_snoc (R : List (List Nat)) (T : List Nat) : LP.waysL (R ++ [T]) = (LP.waysL R).flatMap fun l => (LP.orders T).map (l ++ ·) := by
  have e : ∀ R : List (List Nat), LP.waysL R = R.foldl (fun F T => F.flatMap fun l => (LP.orders T).map (l ++ ·)) [[]] := fun R => by
    rw [LP.foldl_ways]
    simp
  rw [e (R ++ [T]), List.foldl_append, ← e R]
  rfl
theorem flat_over {α β : Type} [Inhabited α] (d : α) (f : α → List β) (xs : List α) : ((List.range xs.length).flatMap fun k => f ((xs[k]?).getD d)) = xs.flatMap f := by
  induction xs with
  | nil => rfl
  | cons x xs ih =>
    rw [List.length_cons, List.range_succ_eq_map, List.flatMap_cons, List.flatMap_map, List.flatMap_cons, ← ih]
    rfl
section
variable {P : Program} {w : World} {K : PySem.W.Frag} {mg : Str → Option Value} {base : Heap}
/-! orders_of -/
abbrev s_orders_of : Stmt := topS 37
abbrev n_orders_of : List Str := ["some", "found", "at", "one", "rest"]
theorem sc_orders_of : FnScope n_orders_of ["some"] (defScope s_orders_of) := ⟨rfl, rfl, rfl, by decide +kernel, rfl, by decide +kernel, by decide +kernel⟩
def sp_orders_of (K : PySem.W.Frag) (n : Nat) : Sp := fun vs H Q _ => ∃ (G : Hp) (v : V) (T : List Nat), vs = [v] ∧ Same G H ∧ Is K G eLs v T ∧ T.length < n ∧ T.length ≤ 3 ∧ ∀ v' G' H', Grow M0 G H G' H' → Is K G' eLL v' (LP.orders T) → Q v' H'
theorem ok_orders_of (T : Txt mg) {f : Addr} {fd : FuncData} (F : Fun K "orders_of" "orders_of" s_orders_of f fd) (m : mg "orders_of" = some (.ref f)) (bd : Binds K fd ["some"] []) : ∀ n, FnOk P w K mg base CX0 (n + 1) f fd ["some"] (sp_orders_of K n)
  | 0 => by
    refine F.ok sc_orders_of (fun vs H Q E h => ?_) (fun cdv A outer s H vs Q E hr h => ?_)
    · obtain ⟨G, v, T, rfl, _⟩ := h
      rfl
    · obtain ⟨G, v, T, rfl, _, _, z, _⟩ := h
      omega
  | n + 1 => by
    have c_orders_of : Cal P w K mg base (n + 1) "orders_of" (sp_orders_of K n) [] := cal_of F (ok_orders_of T F m bd n) m bd
    refine F.ok sc_orders_of (fun vs H Q E h => ?_) (fun cdv A outer s H vs Q E hr h => ?_)
    · obtain ⟨G, v, T, rfl, _⟩ := h
      rfl
    obtain ⟨G, v, L, rfl, sG, hv, hn, h3, q⟩ := h
    have hu1 := hu_of hr
    have hu := hr.units
    refine ⟨_, (pss_cons (ps_if (pt_cmpR (k_eqD K rfl hu) (pv 0) (pe_lst pa_nil) (nomark _)) (pss_one (ps_ret (pe_lst (pa_cons (pe_lst pa_nil) pa_nil)))) pss_nil)
      (pss_cons (ps_set (i := 1) sc_orders_of.nd rfl (.inl rfl) (pe_lst pa_nil))
      (pss_cons (ps_for PassesOwn.never rfl (pi_enum rfl T.enumerate_ (pa_cons (pv 0) pa_nil)) (k_pgT (n := 2) K rfl rfl (pgs_cons (pg_name (i := 2) sc_orders_of.nd rfl (.inl rfl)) (pgs_cons (pg_name (i := 3) sc_orders_of.nd rfl (.inr rfl)) pgs_nil))) (pss_one (ps_set (i := 1) sc_orders_of.nd rfl (.inl rfl) (pe_op (k_catL K) (pv 1) (pe_lc (own := [("rest", 4)]) rfl sc_orders_of.nd (k_piL K rfl (pe_c c_orders_of hr (Nat.le_refl _) rfl (pa_cons (pe_op (k_catL K) (pe_slice (k_slL K) (pv 0) po_none (po_some (pv 2))) (pe_slice (k_slL K) (pv 0) (po_some (pe_op op_add (pv 2) pe_int)) po_none)) pa_nil))) (blkOk_by (own := [("rest", 4)]) (N := n_orders_of) (sc := defScope s_orders_of) (by decide +kernel)) (fun _ _ _ _ _ => (pg_name (i := 4) sc_orders_of.nd rfl (.inl rfl))) (fun _ _ _ _ _ => pts_nil) (fun _ _ _ _ _ => (pe_lst (pa_cons (pv 3) (k_star K rfl (pv 4) pa_nil)))))))))
      (pss_one (ps_ret (pv 1)))))), ?_⟩
    obtain ⟨a, rfl, ha⟩ := is_nats hv
    refine ⟨.ref a, rfl, small_line (by decide), fun e ne => ?_⟩
    have gr1 := Grow.new (M := M0) sG ne (.lst [])
    have he : Is K (upd G e (.lst [])) eLs (.ref e) [] := .lst (.of upd_same) .nil
    generalize upd G e (.lst []) = G1 at gr1 he
    generalize upd H e (.lst []) = H1 at gr1
    refine ⟨_, _, (hv.up gr1.g).up gr1.s, he.up gr1.s, eLs.shaped (by decide) _, eLs.shaped (by decide) _, ?_⟩
    rw [eLs.eqv]
    refine ⟨_, rfl, ite2 (fun c => ?_) (fun c => ?_)⟩
    · have c2 := of_decide_eq_true c
      subst c2
      refine ⟨small_line (by decide), fun e2 ne2 => ?_⟩
      have gr2 := Grow.new (M := M0) gr1.s ne2 (.lst [])
      refine ⟨(by show 1 ≤ _; exact small_line (by decide)), fun e3 ne3 => ?_⟩
      have gr3 := Grow.new (M := M0) gr2.s ne3 (.lst [.ref e2])
      exact q _ _ _ ((gr1.trans gr2).trans gr3) (.lst (.of upd_same) (.cons (Dp.up (.lst (.of upd_same) .nil) gr3.g) .nil))
    · have c2 : ¬ L = [] := fun z => c (decide_eq_true z)
      refine ⟨small_line (by decide), fun e2 ne2 => ?_⟩
      have gr2 := Grow.new (M := M0) gr1.s ne2 (.lst [])
      have he2 : Is K (upd G1 e2 (.lst [])) eLL (.ref e2) [] := .lst (.of upd_same) .nil
      generalize upd G1 e2 (.lst []) = G2 at gr2 he2
      generalize upd H1 e2 (.lst []) = H2 at gr2
      have gr12 := gr1.trans gr2
      have ha2 := gr12.g.seq ha
      have hlen : (L.map nV).length = L.length := List.length_map ..
      refine ⟨.ref a, rfl, a, _, rfl, gr2.s.seq ha2, ?_⟩
      refine for_run (gw_enumL ha2) (fun i σ G' H' => Grow M0 G H G' H' ∧ Same G2 G' ∧ ∃ fnd x2 x3, σ = [some (.ref a), some fnd, x2, x3, none] ∧ Is K G' eLL fnd ((List.range i).flatMap fun i => (LP.orders (L.eraseIdx i)).map (L.getD i 0 :: ·))) (fun i σ G' H' iv => ⟨iv.2.1, iv.1.s⟩) ⟨gr12, .refl _, _, none, none, rfl, he2⟩ (fun i x σ G3 H3 G4 H4 hi iv gr4 hy => ?_) fun σ G' H' iv => ?_
      · obtain ⟨gr3, s3, fnd, x2, x3, rfl, hf⟩ := iv
        obtain ⟨T1, y, rfl, hT, hy2⟩ := hy
        rw [hlen] at hi
        rw [List.getElem?_map, List.getElem?_eq_getElem hi] at hy2
        cases hy2
        have gr34 := gr3.trans gr4
        have ha4 := (s3.trans gr4.g).seq ha2
        refine ⟨T1, _, rfl, gr4.s.tup hT, rfl, _, _, rfl, _, _, rfl, rfl, ?_⟩
        refine ⟨fnd, rfl, .ref a, rfl, nV i, rfl, (i : Int), rfl, a, _, rfl, gr4.s.seq ha4, fun p1 np1 => ?_⟩
        have ecut : cutV (L.map nV) none (some (i : Int)) = (L.take i).map nV := by rw [cut_take, List.map_take]
        have gr5 := Grow.new (M := M0) gr4.s np1 (.lst (cutV (L.map nV) none (some (i : Int))))
        have hp1 : SqL K (upd G4 p1 (.lst (cutV (L.map nV) none (some (i : Int))))) p1 ((L.take i).map nV) := by
          rw [← ecut]
          exact .of upd_same
        generalize upd G4 p1 (.lst (cutV (L.map nV) none (some (i : Int)))) = G5 at gr5 hp1
        have ecut2 : cutV (L.map nV) (some ((i : Int) + 1)) none = (L.drop (i + 1)).map nV := by
          rw [show ((i : Int) + 1) = ((i + 1 : Nat) : Int) by omega, cut_drop, List.map_drop]
        refine ⟨.ref a, rfl, nV i, rfl, _, _, rfl, rfl, _, rfl, a, _, rfl, gr5.s.seq (gr5.g.seq ha4), fun p2 np2 => ?_⟩
        have gr6 := Grow.new (M := M0) gr5.s np2 (.lst (cutV (L.map nV) (some ((i : Int) + 1)) none))
        have hp2 : SqL K (upd G5 p2 (.lst (cutV (L.map nV) (some ((i : Int) + 1)) none))) p2 ((L.drop (i + 1)).map nV) := by
          rw [← ecut2]
          exact .of upd_same
        generalize upd G5 p2 (.lst (cutV (L.map nV) (some ((i : Int) + 1)) none)) = G6 at gr6 hp2
        have hL3 : L.length ≤ 3 := h3
        refine ⟨G6, p1, p2, _, _, rfl, rfl, gr6.s, gr6.g.seq hp1, hp2, (by rw [List.length_map, List.length_map, List.length_take, List.length_drop]; omega), fun c3 G7 H7 gr7 h7 => ?_⟩
        rw [← List.map_append, ← List.eraseIdx_eq_take_drop_succ] at h7
        have he1 : (L.eraseIdx i).length = L.length - 1 := by rw [List.length_eraseIdx, if_pos hi]
        refine ⟨G7, .ref c3, L.eraseIdx i, rfl, gr7.s, nats_is h7, by omega, by omega, fun v8 G8 H8 gr8 h8 => ?_⟩
        obtain ⟨b, us, rfl, hb, hus⟩ := is_list h8
        have hlen8 := all_len hus
        have hos : (LP.orders (L.eraseIdx i)).length ≤ 6 := orders_small (by omega)
        refine ⟨b, rfl, ⟨_, gr8.s.seq hb⟩, ?_⟩
        refine lc_pure (K := K) (fun j => ((LP.orders (L.eraseIdx i))[j]?).map fun o => eLs.to (L[i] :: o)) (gw_list hb) gr8.s (by omega) (fun j y G9 H9 hj gr9 hy C1 C0 k1 k0 => ?_) fun D G9 H9 gr9 hD => ?_
        · obtain ⟨o, ho, hyo⟩ := all_at (hus.up gr9.g) hy
          obtain ⟨d, rfl, hd⟩ := is_nats hyo
          have hol := orders_each _ _ (List.mem_of_getElem? ho)
          refine ⟨rfl, nV L[i], rfl, .ref d, rfl, d, _, rfl, .inr (gr9.s.seq hd), ?_⟩
          refine ⟨(by show (nV L[i] :: (o.map nV ++ [])).length ≤ _; rw [List.append_nil, List.length_cons, List.length_map]; exact small_line (by omega)), fun p3 np3 => ?_⟩
          have gr10 := Grow.new (M := M0) gr9.s np3 (.lst (nV L[i] :: (o.map nV ++ [])))
          refine k1 _ _ _ _ (by show Option.map _ _ = _; rw [ho]; rfl) gr10 (nats_is (xs := L[i] :: o) ?_)
          rw [List.map_cons]
          have : SqL K (upd G9 p3 (.lst (nV L[i] :: (o.map nV ++ [])))) p3 (nV L[i] :: (o.map nV ++ [])) := .of upd_same
          rw [List.append_nil] at this ⊢
          exact this
        · rw [hlen8, fm_get] at hD
          have hD2 : Is K G9 eLL (.ref D) ((LP.orders (L.eraseIdx i)).map (L[i] :: ·)) := by
            show Dp K G9 (.ref D) (.list (List.map eLs.to _))
            rw [List.map_map]
            exact hD
          obtain ⟨D', ds, eD, hD3, hds⟩ := is_list hD2
          cases eD
          have sf := ((((gr4.g.trans gr5.g).trans gr6.g).trans gr7.g).trans gr8.g).trans gr9.g
          obtain ⟨fa, fs, rfl, hfa, hfs⟩ := is_list (hf.up sf)
          have hfl := all_len hfs
          have hdl := all_len hds
          rw [List.length_map] at hdl
          have hfb := flat_len (F := fun i => (LP.orders (L.eraseIdx i)).map (L.getD i 0 :: ·)) (c := 6) (fun k => by
            rw [List.length_map]
            refine orders_small ?_
            rw [List.length_eraseIdx]
            split <;> omega) i
          refine ⟨G9, fa, D, fs, ds, rfl, rfl, gr9.s, hfa, hD3, by omega, fun c4 GA HA grA hA => ?_⟩
          refine ⟨GA, ((((((gr34.trans gr5).trans gr6).trans gr7).trans gr8).trans gr9).trans grA), (s3.trans sf).trans grA.g, .ref c4, _, _, rfl, .lst hA ?_⟩
          have := (hfs.app hds).up grA.g
          rw [← List.map_append] at this
          rw [List.range_succ, List.flatMap_append, List.flatMap_cons, List.flatMap_nil, List.append_nil]
          rw [show L.getD i 0 = L[i] by rw [List.getD_eq_getElem?_getD, List.getElem?_eq_getElem hi]; rfl]
          exact this
      · obtain ⟨gr3, s3, fnd, x2, x3, rfl, hf⟩ := iv
        rw [hlen, ← orders_step c2] at hf
        exact ⟨fnd, rfl, q _ _ _ gr3 hf⟩
/-! ways -/
abbrev s_ways : Stmt := topS 38
abbrev n_ways : List Str := ["start", "goal", "told", "found", "some", "line", "order"]
theorem sc_ways : FnScope n_ways ["start", "goal"] (defScope s_ways) := ⟨rfl, rfl, rfl, by decide +kernel, rfl, by decide +kernel, by decide +kernel⟩
def waysO : Option (List (List Nat)) → List (List Nat)
  | none => []
  | some Ts => (LP.waysL Ts.reverse).mergeSort LP.le2
def sp_ways (K : PySem.W.Frag) : Sp := fun vs H Q _ => ∃ (G : Hp) (u v : V) (h w : Nat) (s g : LP.Pic), vs = [u, v] ∧ Same G H ∧ Is K G eP u s ∧ Is K G eP v g ∧ PicOk h w s ∧ PicOk h w g ∧ ∀ v' G' H', Grow M0 G H G' H' → Is K G' eLL v' (waysO (LP.toldOf h w s g)) → Q v' H'
theorem ok_ways (T : Txt mg) {f : Addr} {fd : FuncData} (F : Fun K "ways" "ways" s_ways f fd) (c_need_two : Cal P w K mg base 3 "need_two" (sp_need_two K) []) (c_least_of : Cal P w K mg base 3 "least_of" (sp_least_of K) []) (c_ways_number : Cal P w K mg base 2 "ways_number" (sp_ways_number K) []) (c_orders_of : Cal P w K mg base 5 "orders_of" (sp_orders_of K 4) []) : FnOk P w K mg base CX0 6 f fd ["start", "goal"] (sp_ways K) := by
  refine F.ok sc_ways (fun vs H Q E h => ?_) (fun cdv A outer s H vs Q E hr h => ?_)
  · obtain ⟨G, u, v, h, w, p, g, rfl, _⟩ := h
    rfl
  obtain ⟨G, u, v, h, w, p, g, rfl, sG, hu0, hv0, okp, okg, q⟩ := h
  have hu := hr.units
  refine ⟨_, (pss_cons (ps_expr (pe_c c_need_two hr (by decide) rfl (pa_cons (pv 0) (pa_cons (pv 1) pa_nil))))
      (pss_cons (ps_set (i := 2) sc_ways.nd rfl (.inl rfl) (pe_c c_least_of hr (by decide) rfl (pa_cons (pv 0) (pa_cons (pv 1) pa_nil))))
      (pss_cons (ps_if (pt_cmpR op_isN (pv 2) pe_non (nomark _)) (pss_one (ps_ret (pe_lst pa_nil))) pss_nil)
      (pss_cons (ps_if (pt_cmpR op_gt (pe_c c_ways_number hr (by decide) rfl (pa_cons (pv 2) pa_nil)) (pe_gc rfl T.MOST_LISTED) (nomark _)) (pss_one ps_never) pss_nil)
      (pss_cons (ps_set (i := 3) sc_ways.nd rfl (.inl rfl) (pe_lst (pa_cons (pe_lst pa_nil) pa_nil)))
      (pss_cons (ps_for PassesOwn.never rfl (k_piL K rfl (pe_revL (pv 2))) (pg_name (i := 4) sc_ways.nd rfl (.inr rfl)) (pss_one (ps_setLc2 (i := 3) (own := [("line", 5), ("order", 6)]) (vs1 := [6]) rfl sc_ways.nd rfl rfl (sw_true rfl rfl rfl (by decide +kernel)) (k_piL K rfl (pv 3)) (blkOk_by (own := [("line", 5), ("order", 6)]) (N := n_ways) (sc := defScope s_ways) (by decide +kernel)) (by decide) (fun _ _ _ _ _ => (pg_name (i := 5) sc_ways.nd rfl (.inl rfl))) (fun _ _ _ _ _ => pts_nil) (fun _ _ _ _ _ => (k_piL K rfl (pe_c c_orders_of hr (by decide) rfl (pa_cons (pv 4) pa_nil)))) (fun _ _ _ _ _ => (pg_name (i := 6) sc_ways.nd rfl (.inl rfl))) (fun _ _ _ _ _ => pts_nil) (fun _ _ _ _ _ => (pe_op (k_catL K) (pv 5) (pv 6))))))
      (pss_one (ps_ret (pe_callB (k_sortedG K rfl hu) (by rfl) T.sorted_ bt_sorted (pa_cons (pv 3) pa_nil)))))))))), ?_⟩
  refine ⟨u, rfl, v, rfl, G, u, v, h, w, p, g, rfl, sG, hu0, hv0, okp, okg, fun G1 H1 gr1 => ?_⟩
  refine ⟨u, rfl, v, rfl, G1, u, v, h, w, p, g, rfl, gr1.s, hu0.up gr1.g, hv0.up gr1.g, okp, okg, fun t G2 H2 gr2 ht => ?_⟩
  have gr12 := gr1.trans gr2
  rcases ht.none_or with ⟨e, rfl⟩ | ⟨Ts, a, us, e, rfl, h1, h2⟩
  · refine ⟨.non, rfl, rfl, true, rfl, iteT ⟨small_line (by decide), fun p1 np => ?_⟩⟩
    have gr3 := Grow.new (M := M0) gr2.s np (.lst [])
    refine q _ _ _ (gr12.trans gr3) ?_
    rw [e]
    exact .lst (.of upd_same) .nil
  rw [e] at q
  have hT3 : ∀ T ∈ Ts, T.length ≤ 3 := fun T hT => (LP.told_small okp.h3 okp.w3 e hT).len
  have hW := LP.told_wn okp.h3 okp.w3 e
  refine ⟨.ref a, rfl, rfl, false, rfl, iteF ?_⟩
  refine ⟨.ref a, rfl, G2, .ref a, Ts, rfl, gr2.s, .lst h1 h2, fun T hT => by have := hT3 T hT; omega, fun G3 H3 gr3 => ?_⟩
  have gr13 := gr12.trans gr3
  refine ⟨_, _, rfl, rfl, _, rfl, ?_⟩
  refine ite2 (fun c => absurd (of_decide_eq_true c) (by omega)) (fun c => ?_)
  -- found = [[]]
  refine ⟨small_line (by decide), fun e2 ne2 => ?_⟩
  have gr4 := Grow.new (M := M0) gr3.s ne2 (.lst [])
  have he2 : Is K (upd G3 e2 (.lst [])) eLs (.ref e2) [] := .lst (.of upd_same) .nil
  generalize upd G3 e2 (.lst []) = G4 at gr4 he2
  refine ⟨(by show 1 ≤ _; exact small_line (by decide)), fun e3 ne3 => ?_⟩
  have gr5 := Grow.new (M := M0) gr4.s ne3 (.lst [.ref e2])
  have he3 : Is K (upd G4 e3 (.lst [.ref e2])) eLL (.ref e3) [[]] := .lst (.of upd_same) (.cons (he2.up gr5.g) .nil)
  generalize upd G4 e3 (.lst [.ref e2]) = G5 at gr5 he3
  have gr15 := (gr13.trans gr4).trans gr5
  have h15 := ((gr3.g.trans gr4.g).trans gr5.g).seq h1
  have h25 := h2.up ((gr3.g.trans gr4.g).trans gr5.g)
  refine ⟨.ref a, rfl, a, us, rfl, gr5.s.seq h15, fun b nb => ?_⟩
  have gr6 := Grow.new (M := M0) gr5.s nb (.lst us.reverse)
  have hb : SqL K (upd G5 b (.lst us.reverse)) b us.reverse := .of upd_same
  generalize upd G5 b (.lst us.reverse) = G6 at gr6 hb
  have h3 : DpAll K G6 us.reverse (Ts.reverse.map eLs.to) := by
    rw [List.map_reverse]
    exact (h25.up gr6.g).rev
  have hlen := all_len h3
  have hR3 : ∀ T ∈ Ts.reverse, T.length ≤ 3 := fun T hT => hT3 T (List.mem_reverse.mp hT)
  have hWR : LP.wn Ts.reverse ≤ 64 := by rw [LP.wn_reverse]; exact hW
  have hR6 : Ts.reverse.length ≤ 6 := by rw [List.length_reverse]; exact LP.told_len okp.h3 okp.w3 e
  show _
  rw [show waysO (some Ts) = (LP.waysL Ts.reverse).mergeSort LP.le2 from rfl] at q
  generalize Ts.reverse = R at h3 hlen hR3 hWR hR6 q
  have gr16 := gr15.trans gr6
  refine ⟨b, rfl, ⟨_, gr6.s.seq hb⟩, ?_⟩
  refine for_run (gw_list hb) (fun i σ G' H' => Grow M0 G H G' H' ∧ Same G6 G' ∧ ∃ fnd x4, σ = [some u, some v, some (.ref a), some fnd, x4, none, none] ∧ Is K G' eLL fnd (LP.waysL (R.take i))) (fun i σ G' H' iv => ⟨iv.2.1, iv.1.s⟩) ⟨gr16, .refl _, _, none, rfl, he3.up gr6.g⟩ (fun i x σ G7 H7 G8 H8 hi iv gr8 hy => ?_) fun σ G' H' iv => ?_
  · obtain ⟨gr7, s7, fnd, x4, rfl, hf⟩ := iv
    obtain ⟨T1, hT1, hx⟩ := all_at (h3.up (s7.trans gr8.g)) hy
    obtain ⟨fa, fs, rfl, hfa, hfs⟩ := is_list (hf.up gr8.g)
    have hfl := all_len hfs
    have hTm : T1 ∈ R := List.mem_of_getElem? hT1
    have hTl := hR3 T1 hTm
    have hot := orders_small hTl
    have htk : R.take (i + 1) = R.take i ++ [T1] := by rw [List.take_add_one, hT1]; rfl
    have hwi : (LP.waysL (R.take i)).length ≤ 64 := by
      rw [LP.waysL_len]
      have e1 : LP.wn R = LP.wn (R.take i) * LP.wn (R.drop i) := by rw [← LP.wn_append, List.take_append_drop]
      have := LP.wn_pos (R.drop i)
      have := Nat.le_mul_of_pos_right (LP.wn (R.take i)) this
      omega
    refine ⟨.ref fa, rfl, fa, rfl, ⟨_, gr8.s.seq hfa⟩, ?_⟩
    refine lc2_pure (K := K) (fun k => ((LP.orders T1).map fun o => eLs.to (((LP.waysL (R.take i))[k]?).getD [] ++ o))) (gw_list hfa) gr8.s (fun k hk => ?_) (fun k y G9 H9 hk gr9 hy2 C C0 kk => ?_) fun D G9 H9 gr9 hD => ?_
    · have := flat_len (F := fun k : Nat => ((LP.orders T1).map fun o => eLs.to (((LP.waysL (R.take i))[k]?).getD [] ++ o))) (c := 6) (fun k => by rw [List.length_map]; exact hot) k
      omega
    · obtain ⟨l, hl, hyl⟩ := all_at (hfs.up gr9.g) hy2
      obtain ⟨la, rfl, hla⟩ := is_nats hyl
      have hll := ways_each _ _ (List.mem_of_getElem? hl)
      have hll2 : l.length ≤ 18 := by
        rw [hll]
        have := sum_small (c := 3) (xs := (R.take i).map List.length) fun x hx => by
          obtain ⟨T2, hT2, rfl⟩ := List.mem_map.mp hx
          exact hR3 T2 (List.mem_of_mem_take hT2)
        rw [List.length_map, List.length_take] at this
        have : min i R.length ≤ 6 := by omega
        omega
      refine ⟨rfl, iteT (B := C0 H9) ?_⟩
      refine ⟨x, rfl, G9, x, T1, rfl, gr9.s, hx.up gr9.g, by omega, hTl, fun v10 G10 H10 gr10 h10 => ?_⟩
      obtain ⟨oa, os, rfl, hoa, hos⟩ := is_list h10
      have hol := all_len hos
      refine ⟨oa, rfl, ⟨_, gr10.s.seq hoa⟩, ?_⟩
      refine kk _ _ _ _ gr10 ⟨os.length, YV os, fun j => ((LP.orders T1)[j]?).map fun o => eLs.to (l ++ o), gw_list hoa, ?_, fun j z G11 H11 hj s12 s22 hz C1 C2 k1 k0 => ?_⟩
      · rw [hol, fm_get, hl]
        rfl
      · obtain ⟨o, ho, hzo⟩ := all_at (hos.up s12) hz
        obtain ⟨ob, rfl, hob⟩ := is_nats hzo
        have hoo := orders_each _ _ (List.mem_of_getElem? ho)
        refine ⟨rfl, .ref la, rfl, .ref ob, rfl, G11, la, ob, _, _, rfl, rfl, s22, s12.seq (gr10.g.seq hla), hob, (by rw [List.length_map, List.length_map]; omega), fun c12 G12 H12 gr12 h12 => ?_⟩
        rw [← List.map_append] at h12
        exact k1 _ _ _ _ (by show Option.map _ _ = _; rw [ho]; rfl) gr12 (nats_is h12)
    · refine ⟨G9, (gr7.trans gr8).trans gr9, (s7.trans gr8.g).trans gr9.g, .ref D, _, rfl, ?_⟩
      rw [htk, ways_snoc]
      show Dp K G9 (.ref D) (.list (List.map eLs.to _))
      rw [List.map_flatMap, ← flat_over []]
      rw [hfl] at hD
      have e3 : (fun k : Nat => List.map (fun o => eLs.to (((LP.waysL (R.take i))[k]?).getD [] ++ o)) (LP.orders T1)) = fun k : Nat => List.map eLs.to (List.map (((LP.waysL (R.take i))[k]?).getD [] ++ ·) (LP.orders T1)) := by
        funext k
        rw [List.map_map]
        rfl
      rw [e3] at hD
      exact hD
  · obtain ⟨gr7, s7, fnd, x4, rfl, hf⟩ := iv
    rw [hlen, List.take_length] at hf
    refine ⟨fnd, rfl, G', fnd, _, rfl, gr7.s, hf, by rw [LP.waysL_len]; omega, fun v8 G8 H8 gr8 h8 => q _ _ _ (gr7.trans gr8) h8⟩
end
end LW
/-! the way of a number, the number of a way, the first deeds -/
namespace LW
open PySem PySem.Spec L2
open PyProof.Rows hiding St RelV
open C8 (Cal pe_c pe_gc)
open StX (pa_star)
/-- a layer's stretch of a way is an order of the layer -/
theorem mem_way : ∀ {R : List (List Nat)} {o : List Nat} {i : Nat}, (LP.waysL R)[i]? = some o → ∀ j T, R[j]? = some T → ((o.drop ((R.take j).map List.length).sum).take T.length).Perm T := by
  intro R
  have key : ∀ (R : List (List Nat)) (o : List Nat), o ∈ LP.waysL R → ∀ j T, R[j]? = some T → ((o.drop ((R.take j).map List.length).sum).take T.length).Perm T := by
    intro R
    induction R with
    | nil => intro o _ j T h; simp at h
    | cons U R ih =>
      intro o ho j T hj
      rw [LP.waysL_cons] at ho
      obtain ⟨a, ha, h2⟩ := List.mem_flatMap.mp ho
      obtain ⟨b, hb, rfl⟩ := List.mem_map.mp h2
      have pa := LP.mem_orders.mp ha
      cases j with
      | zero =>
        simp only [List.getElem?_cons_zero, Option.some.injEq] at hj
        subst hj
        show ((a ++ b).take U.length).Perm U
        rw [← pa.length_eq, List.take_left]
        exact pa
      | succ j =>
        simp only [List.getElem?_cons_succ] at hj
        show (((a ++ b).drop (U.length + ((R.take j).map List.length).sum)).take T.length).Perm T
        rw [← pa.length_eq, List.drop_append, Nat.add_sub_cancel_left, List.drop_of_length_le (by omega), List.nil_append]
        exact ih b hb j T hj
  intro o i h
  exact key R o (List.mem_of_getElem? h)
theorem map_erase {α β : Type} (f : α → β) : ∀ (xs : List α) (i : Nat), (xs.map f).eraseIdx i = (xs.eraseIdx i).map f
  | [], _ => rfl
  | x :: xs, 0 => rfl
  | x :: xs, i + 1 => by
    show f x :: (xs.map f).eraseIdx i = f x :: (xs.eraseIdx i).map f
    rw [map_erase f xs i]
theorem seq_nat {k n : Nat} (h : k < n) : seqIndex? (k : Int) n = some k := by
  unfold seqIndex?
  have h1 : ¬ ((k : Int) < 0) := by omega
  simp only [h1, if_false]
  have h2 : (decide ((0 : Int) ≤ (k : Int)) && decide ((k : Int) < (n : Int))) = true := by
    rw [decide_eq_true (by omega), decide_eq_true (by omega)]
    rfl
  rw [h2]
  simp
section
variable {P : Program} {w : World} {K : PySem.W.Frag} {mg : Str → Option Value} {base : Heap}
/-! first_deeds -/
abbrev s_first_deeds : Stmt := topS 41
abbrev n_first_deeds : List Str := ["start", "goal", "told"]
theorem sc_first_deeds : FnScope n_first_deeds ["start", "goal"] (defScope s_first_deeds) := ⟨rfl, rfl, rfl, by decide +kernel, rfl, by decide +kernel, by decide +kernel⟩
def firstL (Ts : List (List Nat)) : List Nat := Ts.getLast?.getD []
def eTN : Enc (List Nat) := eT eN
def sp_first_deeds (K : PySem.W.Frag) : Sp := fun vs H Q _ => ∃ (G : Hp) (u v : V) (h w : Nat) (s g : LP.Pic) (Ts : List (List Nat)), vs = [u, v] ∧ Same G H ∧ Is K G eP u s ∧ Is K G eP v g ∧ PicOk h w s ∧ PicOk h w g ∧ LP.toldOf h w s g = some Ts ∧ ∀ v' G' H', Grow M0 G H G' H' → Is K G' eTN v' (firstL Ts) → Q v' H'
theorem ok_first_deeds (T : Txt mg) {f : Addr} {fd : FuncData} (F : Fun K "first_deeds" "first_deeds" s_first_deeds f fd) (c_need_way : Cal P w K mg base 4 "need_way" (sp_need_way K) []) : FnOk P w K mg base CX0 5 f fd ["start", "goal"] (sp_first_deeds K) := by
  refine F.ok sc_first_deeds (fun vs H Q E h => ?_) (fun cdv A outer s H vs Q E hr h => ?_)
  · obtain ⟨G, u, v, h, w, p, g, Ts, rfl, _⟩ := h
    rfl
  obtain ⟨G, u, v, h, w, p, g, Ts, rfl, sG, hu0, hv0, okp, okg, hT, q⟩ := h
  have hu := hr.units
  refine ⟨_, (pss_cons (ps_set (i := 2) sc_first_deeds.nd rfl (.inl rfl) (pe_c c_need_way hr (by decide) rfl (pa_cons (pv 0) (pa_cons (pv 1) pa_nil))))
      (pss_one (ps_ret (pe_ifExp (pt_cmpR (k_neD K rfl hu) (pv 2) (pe_lst pa_nil) (nomark _)) (pe_callTy (k_tuple K) (by rfl) T.tuple_ bt_tuple (pa_cons (pe_ix (k_ixL K) (pv 2) (pe_un un_neg pe_int) (fun _ _ => rfl)) pa_nil)) (pe_tup pa_nil))))), ?_⟩
  refine ⟨u, rfl, v, rfl, G, u, v, h, w, p, g, Ts, rfl, sG, hu0, hv0, okp, okg, hT, fun t G1 H1 gr1 ht => ?_⟩
  obtain ⟨a, us, rfl, h1, h2⟩ := is_list ht
  have hlen := all_len h2
  refine ⟨.ref a, rfl, small_line (by decide), fun e ne => ?_⟩
  have gr2 := Grow.new (M := M0) gr1.s ne (.lst [])
  have he : Is K (upd G1 e (.lst [])) eLL (.ref e) [] := .lst (.of upd_same) .nil
  generalize upd G1 e (.lst []) = G2 at gr2 he
  generalize upd H1 e (.lst []) = H2 at gr2
  refine ⟨_, _, (ht.up gr2.g).up gr2.s, he.up gr2.s, eLL.shaped (by decide) _, eLL.shaped (by decide) _, ?_⟩
  rw [eLL.eqv]
  refine ⟨_, rfl, ite2 (fun c => ?_) (fun c => ?_)⟩
  · have c2 : ¬ Ts = [] := by
      intro z
      subst z
      cases c
    have hpos := List.length_pos_iff.mpr c2
    have hx0 : us[us.length - 1]? = some (us[us.length - 1]'(by omega)) := List.getElem?_eq_getElem (by omega)
    obtain ⟨T1, hT1, hx⟩ := all_at (h2.up gr2.g) hx0
    rw [hlen, ← List.getLast?_eq_getElem?] at hT1
    obtain ⟨b, eb, hb⟩ := is_nats hx
    refine ⟨.ref a, rfl, _, rfl, a, us, _, _, rfl, rfl, gr2.s.seq (gr2.g.seq h1), atI_last (by omega) hx0, b, _, by rw [eb], .inl ⟨gr2.s.seq hb, fun l nl => ?_⟩⟩
    have gr3 := Grow.new (M := M0) gr2.s nl (.tup (T1.map nV))
    refine q _ _ _ ((gr1.trans gr2).trans gr3) ?_
    unfold firstL
    rw [hT1]
    exact .tup (.of upd_same) (nats_all T1)
  · have c2 : Ts = [] := Classical.byContradiction fun z => c (by rw [decide_eq_false z]; rfl)
    subst c2
    refine ⟨small_line (by decide), fun p1 np => ?_⟩
    have gr3 := Grow.new (M := M0) gr2.s np (.tup [])
    exact q _ _ _ ((gr1.trans gr2).trans gr3) (.tup (.of upd_same) .nil)
/-! way_at -/
abbrev s_way_at : Stmt := topS 39
abbrev n_way_at : List Str := ["start", "goal", "index", "told", "found", "whole", "some", "left", "turn"]
theorem sc_way_at : FnScope n_way_at ["start", "goal", "index"] (defScope s_way_at) := ⟨rfl, rfl, rfl, by decide +kernel, rfl, by decide +kernel, by decide +kernel⟩
def sp_way_at (K : PySem.W.Frag) : Sp := fun vs H Q _ => ∃ (G : Hp) (u v : V) (h w i : Nat) (s g : LP.Pic) (Ts : List (List Nat)) (o : List Nat), vs = [u, v, nV i] ∧ Same G H ∧ Is K G eP u s ∧ Is K G eP v g ∧ PicOk h w s ∧ PicOk h w g ∧ LP.toldOf h w s g = some Ts ∧ (LP.waysL Ts.reverse)[i]? = some o ∧ ∀ v' G' H', Grow M0 G H G' H' → Is K G' eLs v' o → Q v' H'
theorem ok_way_at (T : Txt mg) {f : Addr} {fd : FuncData} (F : Fun K "way_at" "way_at" s_way_at f fd) (c_need_two : Cal P w K mg base 3 "need_two" (sp_need_two K) []) (c_least_of : Cal P w K mg base 3 "least_of" (sp_least_of K) []) (c_ways_number : Cal P w K mg base 2 "ways_number" (sp_ways_number K) []) (c_need_number : Cal P w K mg base 3 "need_number" (sp_need_number K) []) : FnOk P w K mg base CX0 4 f fd ["start", "goal", "index"] (sp_way_at K) := by
  refine F.ok sc_way_at (fun vs H Q E h => ?_) (fun cdv A outer s H vs Q E hr h => ?_)
  · obtain ⟨G, u, v, h, w, i, p, g, Ts, o, rfl, _⟩ := h
    rfl
  obtain ⟨G, u, v, h, w, i, p, g, Ts, o, rfl, sG, hu0, hv0, okp, okg, hT, ho, q⟩ := h
  refine ⟨_, (pss_cons (ps_expr (pe_c c_need_two hr (by decide) rfl (pa_cons (pv 0) (pa_cons (pv 1) pa_nil))))
      (pss_cons (ps_set (i := 3) sc_way_at.nd rfl (.inl rfl) (pe_c c_least_of hr (by decide) rfl (pa_cons (pv 0) (pa_cons (pv 1) pa_nil))))
      (pss_cons (ps_if (pt_cmpR op_isN (pv 3) pe_non (nomark _)) (pss_one ps_never) pss_nil)
      (pss_cons (ps_expr (pe_c c_need_number hr (by decide) rfl (pa_cons (pv 2) (pa_cons pe_int (pa_cons (pe_op op_sub (pe_c c_ways_number hr (by decide) rfl (pa_cons (pv 3) pa_nil)) pe_int) pa_nil)))))
      (pss_cons (ps_par (i := 4) (j := 5) rfl sc_way_at.nd rfl rfl (by decide) rfl rfl (pa_cons (pe_lst pa_nil) (pa_cons (pe_c c_ways_number hr (by decide) rfl (pa_cons (pv 3) pa_nil)) pa_nil)) (by rfl))
      (pss_cons (ps_for PassesOwn.never rfl (k_piL K rfl (pe_revL (pv 3))) (pg_name (i := 6) sc_way_at.nd rfl (.inl rfl)) (pss_cons (ps_set (i := 7) sc_way_at.nd rfl (.inl rfl) (pe_callTy (k_list K) (by rfl) T.list_ bt_list (pa_cons (pv 6) pa_nil)))
      (pss_one (ps_for PassesOwn.never rfl (pi_range1 rfl T.range_ (pa_cons (pe_callB (k_len K) (by rfl) T.len_ PySem.boot_len (pa_cons (pv 6) pa_nil)) pa_nil)) (pg_name (i := 8) sc_way_at.nd rfl (.inl rfl)) (pss_cons (ps_aug (i := 5) sc_way_at.nd rfl (.inl rfl) (pe_callB (k_len K) (by rfl) T.len_ PySem.boot_len (pa_cons (pv 7) pa_nil)) iop_fdiv)
      (pss_cons (ps_expr (pe_bm PySem.F.plainAttrs_list PySem.F.slot_list_append PySem.F.type_list_append mt_append (pv 4) (pa_cons (pe_bm PySem.F.plainAttrs_list PySem.F.slot_list_pop PySem.F.type_list_pop mt_popAt (pv 7) (pa_cons (pe_op op_fdiv (pv 2) (pv 5)) pa_nil)) pa_nil)))
      (pss_one (ps_set (i := 2) sc_way_at.nd rfl (.inl rfl) (pe_op op_mod (pv 2) (pv 5))))))))))
      (pss_one (ps_ret (pv 4))))))))), ?_⟩
  refine ⟨u, rfl, v, rfl, G, u, v, h, w, p, g, rfl, sG, hu0, hv0, okp, okg, fun G1 H1 gr1 => ?_⟩
  refine ⟨u, rfl, v, rfl, G1, u, v, h, w, p, g, rfl, gr1.s, hu0.up gr1.g, hv0.up gr1.g, okp, okg, fun t G2 H2 gr2 ht => ?_⟩
  rw [hT] at ht
  obtain ⟨a, us, rfl, h1, h2⟩ := is_list ht
  have hT3 : ∀ T ∈ Ts, T.length ≤ 3 := fun T hm => (LP.told_small okp.h3 okp.w3 hT hm).len
  have hW := LP.told_wn okp.h3 okp.w3 hT
  have hi : i < LP.wn Ts.reverse := by rw [← LP.waysL_len]; exact (List.getElem?_eq_some_iff.mp ho).1
  rw [LP.wn_reverse] at hi
  refine ⟨.ref a, rfl, rfl, false, rfl, iteF ?_⟩
  refine ⟨nV i, rfl, .ref a, rfl, G2, .ref a, Ts, rfl, gr2.s, ht, fun T hm => by have := hT3 T hm; omega, fun G3 H3 gr3 => ?_⟩
  refine ⟨_, _, rfl, rfl, nV i, .int (i : Int), 0, ((LP.wn Ts : Nat) : Int) - 1, rfl, .int _, ?_, ?_⟩
  · show (decide ((0 : Int) ≤ (i : Int)) && decide ((i : Int) ≤ ((LP.wn Ts : Nat) : Int) - 1)) = true
    rw [decide_eq_true (by omega), decide_eq_true (by omega)]
    rfl
  have gr13 := (gr1.trans gr2).trans gr3
  have h13 := gr3.g.seq h1
  have h23 := h2.up gr3.g
  have ht3 := ht.up gr3.g
  clear ht h1 h2
  refine ⟨small_line (by decide), fun f nf => ?_⟩
  have gf3 : G3 f = none := gr3.s.free nf
  have gr4 := Grow.hide (M := M0) gr3.s nf (.lst [])
  have hf4 : upd H3 f (.lst []) f = some (.lst []) := upd_same
  generalize upd H3 f (.lst []) = H4 at gr4 hf4
  refine ⟨.ref a, rfl, G3, .ref a, Ts, rfl, gr4.s, ht3, fun T hm => by have := hT3 T hm; omega, fun G5 H5 gr5 => ?_⟩
  have hf5 : H5 f = some (.lst []) := gr5.h f _ id hf4
  have gf5 : G5 f = none := (gr5.old f (by rw [hf4]; exact fun z => by cases z)).trans gf3
  refine ⟨_, _, rfl, ?_⟩
  refine ⟨.ref a, rfl, a, us, rfl, gr5.s.seq (gr5.g.seq h13), fun b nb => ?_⟩
  have gr6 := Grow.new (M := M0) gr5.s nb (.lst us.reverse)
  have hb : SqL K (upd G5 b (.lst us.reverse)) b us.reverse := .of upd_same
  have hf6 : upd H5 b (.lst us.reverse) f = some (.lst []) := gr6.h f _ id hf5
  have gf6 : upd G5 b (.lst us.reverse) f = none := (gr6.old f (by rw [hf5]; exact fun z => by cases z)).trans gf5
  generalize upd G5 b (.lst us.reverse) = G6 at gr6 hb gf6
  generalize upd H5 b (.lst us.reverse) = H6 at gr6 hf6
  have h3 : DpAll K G6 us.reverse (Ts.reverse.map eLs.to) := by
    rw [List.map_reverse]
    exact ((h23.up gr5.g).up gr6.g).rev
  have hlen := all_len h3
  have hR3 : ∀ T ∈ Ts.reverse, T.length ≤ 3 := fun T hm => hT3 T (List.mem_reverse.mp hm)
  have hWR : LP.wn Ts.reverse ≤ 64 := by rw [LP.wn_reverse]; exact hW
  have hR6 : Ts.reverse.length ≤ 6 := by rw [List.length_reverse]; exact LP.told_len okp.h3 okp.w3 hT
  rw [← LP.wn_reverse] at hi
  have hun : LP.unr Ts.reverse i (LP.wn Ts.reverse) [] = o := by
    obtain ⟨o2, e1, e2⟩ := LP.unr_ok Ts.reverse i [] hi
    rw [ho] at e1
    cases e1
    exact e2
  have ew : nV (LP.wn Ts) = nV (LP.wn Ts.reverse) := by rw [LP.wn_reverse]
  generalize hRR : Ts.reverse = R at h3 hlen hR3 hWR hR6 hi hun ew
  clear hW hT3
  refine ⟨b, rfl, ⟨_, gr6.s.seq hb⟩, ?_⟩
  have gr46 := (gr4.trans gr5).trans gr6
  have wdrop : ∀ j, LP.wn (R.drop j) ≤ 64 := fun j => by
    have e1 : LP.wn R = LP.wn (R.take j) * LP.wn (R.drop j) := by rw [← LP.wn_append, List.take_append_drop]
    have h2 := Nat.le_mul_of_pos_left (LP.wn (R.drop j)) (LP.wn_pos (R.take j))
    omega
  refine for_run (gw_list hb) (fun j σ G' H' => ∃ (i' : Nat) (fs : List Nat) (x6 x7 x8 : Option V), σ = [some u, some v, some (nV i'), some (.ref a), some (.ref f), some (nV (LP.wn (R.drop j))), x6, x7, x8] ∧ Grow M0 G3 H3 G' H' ∧ Same G6 G' ∧ G' f = none ∧ H' f = some (.lst (fs.map nV)) ∧ fs.length ≤ 3 * j ∧ i' < LP.wn (R.drop j) ∧ LP.unr (R.drop j) i' (LP.wn (R.drop j)) fs = o) (fun j σ G' H' iv => ?_) ⟨i, [], none, none, none, ?_, gr46, .refl _, gf6, hf6, Nat.zero_le _, hi, hun⟩ (fun j x σ G7 H7 G8 H8 hj iv gr8 hy => ?_) fun σ G' H' iv => ?_
  · obtain ⟨i', fs, x6, x7, x8, rfl, j1, j2, _⟩ := iv
    exact ⟨j2, j1.s⟩
  · rw [List.drop_zero, ← ew]
    rfl
  · obtain ⟨i', fs, x6, x7, x8, rfl, gr7, s7, gf7, hf7, hfl, hi', hu7⟩ := iv
    rw [hlen] at hj
    obtain ⟨T1, hT1, hx⟩ := all_at (h3.up (s7.trans gr8.g)) hy
    have hdr : R.drop j = T1 :: R.drop (j + 1) := by
      obtain ⟨q1, q2⟩ := List.getElem?_eq_some_iff.mp hT1
      rw [List.drop_eq_getElem_cons q1, q2]
    have hTl := hR3 T1 (List.mem_of_getElem? hT1)
    have hV64 := wdrop (j + 1)
    have hV0 := LP.wn_pos (R.drop (j + 1))
    have hwd : LP.wn (R.drop j) = LP.fct T1.length * LP.wn (R.drop (j + 1)) := by rw [hdr]; rfl
    have hw64 := wdrop j
    rw [hwd] at hi' hu7 hw64
    rw [hdr] at hu7
    generalize LP.wn (R.drop (j + 1)) = B at hV64 hV0 hwd hi' hu7 hw64 ⊢
    obtain ⟨la, rfl, hla⟩ := is_nats hx
    have gr78 := gr7.trans gr8
    have hf8 : H8 f = some (.lst (fs.map nV)) := gr8.h f _ id hf7
    have gf8 : G8 f = none := (gr8.old f (by rw [hf7]; exact fun z => by cases z)).trans gf7
    refine ⟨.ref la, rfl, la, _, rfl, .inl (gr8.s.seq hla), fun l nl => ?_⟩
    have gl8 : G8 l = none := gr8.s.free nl
    have nl3 : H3 l = none := Classical.byContradiction fun z => gr78.alive z nl
    have gr9 := gr78.trans (Grow.hide (M := M0) gr8.s nl (.lst (T1.map nV)))
    have hl9 : upd H8 l (.lst (T1.map nV)) l = some (.lst (T1.map nV)) := upd_same
    have hfl9 : f ≠ l := fun z => by rw [← z, hf8] at nl; cases nl
    have hf9 : upd H8 l (.lst (T1.map nV)) f = some (.lst (fs.map nV)) := by rw [upd_ne hfl9]; exact hf8
    generalize upd H8 l (.lst (T1.map nV)) = H9 at gr9 hl9 hf9
    rw [hwd]
    refine ⟨.ref la, rfl, la, _, rfl, .inl (gr9.s.seq hla), _, rfl, by rw [List.length_map]; omega, by rw [List.length_map]; omega, ?_⟩
    have en : (((T1.map nV).length : Nat) : Int).toNat = T1.length := by rw [Int.toNat_natCast, List.length_map]
    refine for_range (fun t σ H' => ∃ (G' : Hp) (i2 : Nat) (left fs2 : List Nat) (x8 : Option V), σ = [some u, some v, some (nV i2), some (.ref a), some (.ref f), some (nV (LP.fct left.length * B)), some (.ref la), some (.ref l), x8] ∧ Grow M0 G3 H3 G' H' ∧ Same G8 G' ∧ G' f = none ∧ G' l = none ∧ H' f = some (.lst (fs2.map nV)) ∧ H' l = some (.lst (left.map nV)) ∧ left.length + t = T1.length ∧ fs2.length = fs.length + t ∧ i2 < LP.fct left.length * B ∧ LP.unrIn left.length left i2 (LP.fct left.length * B) fs2 = LP.unrIn T1.length T1 i' (LP.fct T1.length * B) fs) ⟨G8, i', T1, fs, x8, rfl, gr9, .refl _, gf8, gl8, hf9, hl9, rfl, rfl, hi', rfl⟩ (fun t σ H' ht iv => ?_) fun σ H' iv => ?_
    · obtain ⟨GA, i2, left, fs2, x8, rfl, grA, s8A, gfA, glA, hfA, hlA, hsum, hfs2, hi2, hun2⟩ := iv
      rw [en] at ht
      obtain ⟨n, hn⟩ : ∃ n, left.length = n + 1 := ⟨left.length - 1, by omega⟩
      have hC0 : 0 < LP.fct n * B := Nat.mul_pos (LP.fct_pos n) hV0
      have hfc : LP.fct left.length * B = (n + 1) * (LP.fct n * B) := by
        rw [hn]
        show (n + 1) * LP.fct n * B = _
        rw [Nat.mul_assoc]
      have hC64 : LP.fct n * B ≤ 384 := by
        have h1 : LP.fct n ≤ 6 := by
          have : ∀ n, n < 4 → LP.fct n ≤ 6 := by decide
          exact this n (by omega)
        exact Nat.le_trans (Nat.mul_le_mul h1 hV64) (by decide)
      have hdN : LP.fct left.length * B / left.length = LP.fct n * B := by
        rw [hfc, hn, Nat.mul_div_cancel_left _ (Nat.succ_pos n)]
      have hdI : ((LP.fct left.length * B : Nat) : Int) / (((left.map nV).length : Nat) : Int) = ((LP.fct n * B : Nat) : Int) := by
        rw [List.length_map, ← hdN]
        rfl
      generalize hC : LP.fct n * B = C at hC0 hC64 hdN hdI hfc
      have hk : i2 / C < left.length := by
        rw [hn]
        exact Nat.div_lt_of_lt_mul (by rw [Nat.mul_comm, ← hfc]; exact hi2)
      have hqI : (i2 : Int) / (((LP.fct left.length * B : Nat) : Int) / (((left.map nV).length : Nat) : Int)) = ((i2 / C : Nat) : Int) := by rw [hdI]; rfl
      have hmI : (i2 : Int) % (((LP.fct left.length * B : Nat) : Int) / (((left.map nV).length : Nat) : Int)) = ((i2 % C : Nat) : Int) := by rw [hdI]; rfl
      have hcd : 0 < ((LP.fct left.length * B : Nat) : Int) / (((left.map nV).length : Nat) : Int) ∧ ((LP.fct left.length * B : Nat) : Int) / (((left.map nV).length : Nat) : Int) < 1073741824 := by rw [hdI]; omega
      have hkl : (left.map nV)[i2 / C]? = some (nV left[i2 / C]) := by rw [List.getElem?_map, List.getElem?_eq_getElem hk]; rfl
      have hk64 : i2 / C ≤ 3 := by omega
      refine ⟨_, rfl, .ref l, rfl, l, _, rfl, .inl (.of hlA), _, _, rfl, rfl, ⟨by rw [List.length_map]; omega, by rw [List.length_map]; omega⟩, ?_⟩
      refine ⟨.ref f, rfl, .inl ⟨rfl, _, .of hfA⟩, .ref l, rfl, .inl ⟨rfl, _, .of hlA⟩, nV i2, rfl, _, rfl, _, _, rfl, rfl, hcd, l, _, _, i2 / C, nV left[i2 / C], rfl, rfl, hlA, ?_, ?_, ?_, hkl, f, fs2.map nV, nV left[i2 / C], rfl, rfl, ?_, ?_, ?_⟩
      · rw [hqI]; exact Int.le_trans (by decide) (Int.natCast_nonneg _)
      · rw [hqI]; exact Int.lt_of_le_of_lt (Int.ofNat_le.mpr hk64) (by decide)
      · rw [hqI]; exact seq_nat (by rw [List.length_map]; exact hk)
      · rw [upd_ne hfl9]; exact hfA
      · rw [List.length_map, sizeLine_eq]; omega
      refine ⟨nV i2, rfl, _, rfl, _, _, rfl, rfl, hcd.1, ?_⟩
      have grB := grA.put nl3 glA (.lst ((left.map nV).eraseIdx (i2 / C)))
      have hlB : upd H' l (.lst ((left.map nV).eraseIdx (i2 / C))) l = some (.lst ((left.map nV).eraseIdx (i2 / C))) := upd_same
      have grC := grB.put nf gfA (.lst (fs2.map nV ++ [nV left[i2 / C]]))
      have he1 : (left.eraseIdx (i2 / C)).length = n := by rw [List.length_eraseIdx, if_pos hk]; omega
      refine ⟨GA, i2 % C, left.eraseIdx (i2 / C), fs2 ++ [left[i2 / C]], some (.int (0 + (t : Int))), ?_, grC, s8A, gfA, glA, ?_, ?_, ?_, ?_, ?_, ?_⟩
      · rw [he1, hC]
        show [_, _, some (V.int ((i2 : Int) % (((LP.fct left.length * B : Nat) : Int) / (((left.map nV).length : Nat) : Int)))), _, _, some (V.int (((LP.fct left.length * B : Nat) : Int) / (((left.map nV).length : Nat) : Int))), _, _, _] = _
        rw [hmI, hdI]
        rfl
      · rw [List.map_append]
        exact upd_same
      · rw [upd_ne (fun z => hfl9 z.symm), hlB, map_erase]
      · rw [he1]; omega
      · rw [List.length_append, hfs2]; rfl
      · rw [he1, hC]
        exact Nat.mod_lt _ hC0
      · rw [← hun2, he1, hn]
        rw [hn] at hdN
        conv => rhs; unfold LP.unrIn
        rw [hn, hdN, hC]
        congr 2
        rw [List.getD_eq_getElem?_getD, List.getElem?_eq_getElem hk]
        rfl
    · obtain ⟨GA, i2, left, fs2, x8, rfl, grA, s8A, gfA, glA, hfA, hlA, hsum, hfs2, hi2, hun2⟩ := iv
      rw [en] at hsum hfs2
      have hl0 : left = [] := List.length_eq_zero_iff.mp (by omega)
      subst hl0
      have e1 : LP.fct ([] : List Nat).length * B = B := Nat.one_mul B
      rw [e1] at hi2 hun2
      refine ⟨GA, i2, fs2, some (.ref la), some (.ref l), x8, ?_, grA, (s7.trans gr8.g).trans s8A, gfA, hfA, by omega, hi2, ?_⟩
      · rw [e1]
      · rw [← hu7]
        show _ = LP.unr (R.drop (j + 1)) (LP.unrIn T1.length T1 i' (LP.fct T1.length * B) fs).2.1 (LP.unrIn T1.length T1 i' (LP.fct T1.length * B) fs).2.2 (LP.unrIn T1.length T1 i' (LP.fct T1.length * B) fs).1
        rw [← hun2]
        rfl
  · obtain ⟨i', fs, x6, x7, x8, rfl, gr7, s7, gf7, hf7, hfl, hi', hu7⟩ := iv
    rw [hlen, List.drop_length] at hu7
    have hu8 : fs = o := hu7
    refine ⟨.ref f, rfl, q _ _ _ (gr13.trans (gr7.pub nf gf7 hf7)) (nats_is ?_)⟩
    rw [← hu8]
    exact .of upd_same
/-! way_number -/
abbrev s_way_number : Stmt := topS 40
abbrev n_way_number : List Str := ["start", "goal", "value", "told", "found", "at", "some", "left", "turn"]
theorem sc_way_number : FnScope n_way_number ["start", "goal", "value"] (defScope s_way_number) := ⟨rfl, rfl, rfl, by decide +kernel, rfl, by decide +kernel, by decide +kernel⟩
def sp_way_number (K : PySem.W.Frag) : Sp := fun vs H Q _ => ∃ (G : Hp) (u v x : V) (h w i : Nat) (s g : LP.Pic) (Ts : List (List Nat)) (o : List Nat), vs = [u, v, x] ∧ Same G H ∧ Is K G eP u s ∧ Is K G eP v g ∧ PicOk h w s ∧ PicOk h w g ∧ Is K G eLs x o ∧ showsD h w s g (eLs.to o) = true ∧ LP.toldOf h w s g = some Ts ∧ (LP.waysL Ts.reverse)[i]? = some o ∧ ∀ G' H', Grow M0 G H G' H' → Q (nV i) H'
theorem ok_way_number (T : Txt mg) {f : Addr} {fd : FuncData} (F : Fun K "way_number" "way_number" s_way_number f fd) (c_shows_way : Cal P w K mg base 4 "shows_way" (sp_shows_way K) []) (c_least_of : Cal P w K mg base 3 "least_of" (sp_least_of K) []) : FnOk P w K mg base CX0 5 f fd ["start", "goal", "value"] (sp_way_number K) := by
  refine F.ok sc_way_number (fun vs H Q E h => ?_) (fun cdv A outer s H vs Q E hr h => ?_)
  · obtain ⟨G, u, v, x, h, w, i, p, g, Ts, o, rfl, _⟩ := h
    rfl
  obtain ⟨G, u, v, x, h, w, i, p, g, Ts, o, rfl, sG, hu0, hv0, okp, okg, hx, hs, hT, ho, q⟩ := h
  refine ⟨_, (pss_cons (ps_if (pt_not (pt_val (pe_c c_shows_way hr (by decide) rfl (pa_cons (pv 0) (pa_cons (pv 1) (pa_cons (pv 2) pa_nil)))) (fun _ => rfl))) (pss_one ps_never) pss_nil)
      (pss_cons (ps_par3 (i := 3) (j := 4) (l := 5) rfl sc_way_number.nd rfl rfl rfl (by decide) (by decide) (by decide) rfl rfl rfl (pa_cons (pe_c c_least_of hr (by decide) rfl (pa_cons (pv 0) (pa_cons (pv 1) pa_nil))) (pa_cons pe_int (pa_cons pe_int pa_nil))) (by rfl))
      (pss_cons (ps_for PassesOwn.never rfl (k_piL K rfl (pe_revL (pv 3))) (pg_name (i := 6) sc_way_number.nd rfl (.inl rfl)) (pss_cons (ps_set (i := 7) sc_way_number.nd rfl (.inl rfl) (pe_callTy (k_list K) (by rfl) T.list_ bt_list (pa_cons (pv 6) pa_nil)))
      (pss_one (ps_for PassesOwn.never rfl (pi_range1 rfl T.range_ (pa_cons (pe_callB (k_len K) (by rfl) T.len_ PySem.boot_len (pa_cons (pv 6) pa_nil)) pa_nil)) (pg_name (i := 8) sc_way_number.nd rfl (.inl rfl)) (pss_cons (ps_set (i := 4) sc_way_number.nd rfl (.inl rfl) (pe_op op_add (pe_op op_mul (pv 4) (pe_callB (k_len K) (by rfl) T.len_ PySem.boot_len (pa_cons (pv 7) pa_nil))) (pe_bm PySem.F.plainAttrs_list PySem.F.slot_list_index PySem.F.type_list_index mt_index (pv 7) (pa_cons (pe_ix (k_ixL K) (pv 2) (pv 5) (fun _ _ => rfl)) pa_nil))))
      (pss_cons (ps_expr (pe_bm PySem.F.plainAttrs_list PySem.F.slot_list_remove PySem.F.type_list_remove mt_remove (pv 7) (pa_cons (pe_ix (k_ixL K) (pv 2) (pv 5) (fun _ _ => rfl)) pa_nil)))
      (pss_one (ps_aug (i := 5) sc_way_number.nd rfl (.inl rfl) pe_int ip_add))))))))
      (pss_one (ps_ret (pv 4)))))), ?_⟩
  have hT3 : ∀ T ∈ Ts, T.length ≤ 3 := fun T hm => (LP.told_small okp.h3 okp.w3 hT hm).len
  have hTa : ∀ T ∈ Ts, T.Nodup := fun T hm => (LP.told_small okp.h3 okp.w3 hT hm).asc.imp fun q => by omega
  have hol : o.length = (Ts.reverse.map List.length).sum := ways_each _ _ (List.mem_of_getElem? ho)
  have hTl6 := LP.told_len okp.h3 okp.w3 hT
  have hi64 : i < 64 + 1 := by
    have h1 := (List.getElem?_eq_some_iff.mp ho).1
    rw [LP.waysL_len, LP.wn_reverse] at h1
    have h2 := LP.told_wn okp.h3 okp.w3 hT
    omega
  have hol18 : o.length ≤ 18 := by
    rw [hol]
    have := sum_small (c := 3) (xs := Ts.reverse.map List.length) fun x hx => by
      obtain ⟨T2, hT2, rfl⟩ := List.mem_map.mp hx
      exact hT3 T2 (List.mem_reverse.mp hT2)
    rw [List.length_map, List.length_reverse] at this
    omega
  refine ⟨u, rfl, v, rfl, x, rfl, G, u, v, x, h, w, p, g, _, rfl, sG, hu0, hv0, okp, okg, hx, fun ds e => by cases e; rw [List.length_map]; omega, fun G1 H1 gr1 => ?_⟩
  rw [hs]
  refine ⟨true, rfl, iteF ?_⟩
  refine ⟨u, rfl, v, rfl, G1, u, v, h, w, p, g, rfl, gr1.s, hu0.up gr1.g, hv0.up gr1.g, okp, okg, fun t G2 H2 gr2 ht => ?_⟩
  rw [hT] at ht
  obtain ⟨a, us, rfl, h1, h2⟩ := is_list ht
  have gr12 := gr1.trans gr2
  obtain ⟨xa, rfl, hxa⟩ := is_nats (hx.up gr12.g)
  refine ⟨_, _, _, rfl, ?_⟩
  refine ⟨.ref a, rfl, a, us, rfl, gr2.s.seq h1, fun b nb => ?_⟩
  have gr3 := Grow.new (M := M0) gr2.s nb (.lst us.reverse)
  have hb : SqL K (upd G2 b (.lst us.reverse)) b us.reverse := .of upd_same
  generalize upd G2 b (.lst us.reverse) = G3 at gr3 hb
  generalize upd H2 b (.lst us.reverse) = H3 at gr3
  have h3 : DpAll K G3 us.reverse (Ts.reverse.map eLs.to) := by
    rw [List.map_reverse]
    exact (h2.up gr3.g).rev
  have hlen := all_len h3
  have hR3 : ∀ T ∈ Ts.reverse, T.length ≤ 3 := fun T hm => hT3 T (List.mem_reverse.mp hm)
  have hRn : ∀ T ∈ Ts.reverse, T.Nodup := fun T hm => hTa T (List.mem_reverse.mp hm)
  have hR6 : Ts.reverse.length ≤ 6 := by rw [List.length_reverse]; exact hTl6
  have hrk : LP.rk o Ts.reverse 0 0 = i := by
    have := LP.rk_ok o Ts.reverse 0 0 i o hRn ho fun k x hk => by rw [Nat.zero_add]; exact hk
    rw [this]
    omega
  have hways := mem_way ho
  generalize Ts.reverse = R at h3 hlen hR3 hRn hR6 hrk hol ho hways
  clear hT3 hTa hT hTl6
  refine ⟨b, rfl, ⟨_, gr3.s.seq hb⟩, ?_⟩
  refine for_run (gw_list hb) (fun j σ G' H' => ∃ (n : Nat) (x6 x7 x8 : Option V), σ = [some u, some v, some (.ref xa), some (.ref a), some (nV n), some (nV ((R.take j).map List.length).sum), x6, x7, x8] ∧ Grow M0 G H G' H' ∧ Same G3 G' ∧ LP.rk o (R.drop j) ((R.take j).map List.length).sum n = i) (fun j σ G' H' iv => ?_) ⟨0, none, none, none, rfl, gr12.trans gr3, .refl _, hrk⟩ (fun j x σ G7 H7 G8 H8 hj iv gr8 hy => ?_) fun σ G' H' iv => ?_
  · obtain ⟨n, x6, x7, x8, rfl, j1, j2, _⟩ := iv
    exact ⟨j2, j1.s⟩
  · obtain ⟨n, x6, x7, x8, rfl, gr7, s7, hr7⟩ := iv
    rw [hlen] at hj
    obtain ⟨T1, hT1, hx⟩ := all_at (h3.up (s7.trans gr8.g)) hy
    have hdr : R.drop j = T1 :: R.drop (j + 1) := by
      obtain ⟨q1, q2⟩ := List.getElem?_eq_some_iff.mp hT1
      rw [List.drop_eq_getElem_cons q1, q2]
    have hTl := hR3 T1 (List.mem_of_getElem? hT1)
    have hTn := hRn T1 (List.mem_of_getElem? hT1)
    have htk : ((R.take (j + 1)).map List.length).sum = ((R.take j).map List.length).sum + T1.length := by
      rw [List.take_add_one, hT1, List.map_append, List.sum_append]
      simp
    have hst := hways j T1 hT1
    rw [hdr] at hr7
    rw [htk]
    generalize hD : ((R.take j).map List.length).sum = at0 at hr7 hst ⊢
    obtain ⟨la, rfl, hla⟩ := is_nats hx
    have gr78 := gr7.trans gr8
    refine ⟨.ref la, rfl, la, _, rfl, .inl (gr8.s.seq hla), fun l nl => ?_⟩
    have gl8 : G8 l = none := gr8.s.free nl
    have nl3 : H l = none := Classical.byContradiction fun z => gr78.alive z nl
    have gr9 := gr78.trans (Grow.hide (M := M0) gr8.s nl (.lst (T1.map nV)))
    have hl9 : upd H8 l (.lst (T1.map nV)) l = some (.lst (T1.map nV)) := upd_same
    generalize upd H8 l (.lst (T1.map nV)) = H9 at gr9 hl9
    refine ⟨.ref la, rfl, la, _, rfl, .inl (gr9.s.seq hla), _, rfl, by rw [List.length_map]; omega, by rw [List.length_map]; omega, ?_⟩
    have en : (((T1.map nV).length : Nat) : Int).toNat = T1.length := by rw [Int.toNat_natCast, List.length_map]
    refine for_range (fun t σ H' => ∃ (G' : Hp) (m : Nat) (left : List Nat) (x8 : Option V), σ = [some u, some v, some (.ref xa), some (.ref a), some (nV m), some (nV (at0 + t)), some (.ref la), some (.ref l), x8] ∧ Grow M0 G H G' H' ∧ Same G8 G' ∧ G' l = none ∧ H' l = some (.lst (left.map nV)) ∧ left.length + t = T1.length ∧ left.Nodup ∧ (((o.drop at0).take T1.length).drop t).Perm left ∧ LP.rkIn o left.length left (at0 + t) m = LP.rkIn o T1.length T1 at0 n) ⟨G8, n, T1, x8, rfl, gr9, .refl _, gl8, hl9, rfl, hTn, ?_, rfl⟩ (fun t σ H' ht iv => ?_) fun σ H' iv => ?_
    · exact hst
    · obtain ⟨GA, m, left, x8, rfl, grA, s8A, glA, hlA, hsum, hnd, hmem, hun2⟩ := iv
      rw [en] at ht
      have hsl := hst.length_eq
      have hts : t < ((o.drop at0).take T1.length).length := by omega
      obtain ⟨y, hy⟩ : ∃ y, ((o.drop at0).take T1.length)[t]? = some y := ⟨_, List.getElem?_eq_getElem hts⟩
      have hoy : o[at0 + t]? = some y := by
        rw [List.getElem?_take, if_pos ht, List.getElem?_drop] at hy
        exact hy
      have hdt : ((o.drop at0).take T1.length).drop t = y :: ((o.drop at0).take T1.length).drop (t + 1) := by
        obtain ⟨q1, q2⟩ := List.getElem?_eq_some_iff.mp hy
        rw [List.drop_eq_getElem_cons q1, q2]
      rw [hdt] at hmem
      have hyl : y ∈ left := hmem.mem_iff.mp List.mem_cons_self
      obtain ⟨k, hk, hky⟩ := List.getElem_of_mem hyl
      have hix : left.idxOf y = k := by rw [← hky]; exact hnd.idxOf_getElem _ hk
      have her : left.erase y = left.eraseIdx k := List.erase_eq_eraseIdx_of_idxOf hix
      have hel : (left.erase y).length = left.length - 1 := List.length_erase_of_mem hyl
      have hkq : left[k]? = some y := by rw [← hky]; exact List.getElem?_eq_getElem hk
      have hno : ∀ q : Nat, q < k → left[q]? ≠ some y := fun q hq z => by
        rw [← hkq] at z
        have := (List.getElem?_inj (by omega) hnd).mp z
        omega
      have hvy : (o.map nV)[at0 + t]? = some (nV y) := by rw [List.getElem?_map, hoy]; rfl
      have hxa' := ((gr3.g.trans s7).trans gr8.g).seq hxa
      have e0 : ((at0 : Nat) : Int) + (t : Int) = ((at0 + t : Nat) : Int) := rfl
      refine ⟨nV m, rfl, .ref l, rfl, l, _, rfl, .inl (.of hlA), _, _, rfl, rfl, .inr ⟨?_, ?_⟩, ?_⟩
      · rw [List.length_map]; omega
      · rw [List.length_map]; omega
      refine ⟨.ref l, rfl, .inl ⟨rfl, _, .of hlA⟩, .ref xa, rfl, nV (at0 + t), rfl, xa, _, _, nV y, rfl, rfl, grA.s.seq (s8A.seq hxa'), atI_nat hvy, l, left.map nV, nV y, k, nV y, rfl, rfl, .of hlA, rfl, ?_, ?_, ?_, ?_, _, _, rfl, rfl, ?_⟩
      · rw [List.all_map, List.all_eq_true]; intro z _; rfl
      · rw [List.getElem?_map, hkq]; rfl
      · show ((y : Int) == (y : Int)) = true
        exact beq_self_eq_true _
      · intro q z' hq hz
        rw [List.getElem?_map] at hz
        cases hc : left[q]? with
        | none => rw [hc] at hz; cases hz
        | some z =>
          rw [hc] at hz
          cases hz
          show ((z : Int) == (y : Int)) = false
          rw [beq_eq_false_iff_ne]
          intro e
          refine hno q hq ?_
          rw [hc]
          congr 1
          omega
      refine ⟨.ref l, rfl, .inl ⟨rfl, _, .of hlA⟩, .ref xa, rfl, nV (at0 + t), rfl, xa, _, _, nV y, rfl, rfl, grA.s.seq (s8A.seq hxa'), atI_nat hvy, l, LP.up left, (y : Int), k, rfl, rfl, ?_, ?_, ?_, ?_⟩
      · rw [hlA, nV_int]
      · show (left.map Int.ofNat)[k]? = _
        rw [List.getElem?_map, hkq]
        rfl
      · intro q hq z
        have z2 : (left.map Int.ofNat)[q]? = some (y : Int) := z
        rw [List.getElem?_map] at z2
        cases hc : left[q]? with
        | none => rw [hc] at z2; cases z2
        | some z3 =>
          rw [hc] at z2
          refine hno q hq ?_
          rw [hc]
          have : (z3 : Int) = (y : Int) := Option.some.inj z2
          congr 1
          omega
      have eup : ((LP.up left).eraseIdx k).map V.int = (left.erase y).map nV := by
        rw [her, nV_int]
        unfold LP.up
        rw [map_erase]
      have grB := grA.put nl3 glA (.lst (((LP.up left).eraseIdx k).map V.int))
      refine ⟨_, rfl, _, _, rfl, rfl, GA, m * left.length + k, left.erase y, some (.int (0 + (t : Int))), ?_, grB, s8A, glA, ?_, ?_, hnd.erase _, ?_, ?_⟩
      · show [_, _, _, _, some (V.int (((m : Nat) : Int) * (((left.map nV).length : Nat) : Int) + (k : Int))), some (V.int (((at0 + t : Nat) : Int) + 1)), _, _, _] = _
        rw [List.length_map]
        show [_, _, _, _, some (V.int (((m : Nat) : Int) * ((left.length : Nat) : Int) + (k : Int))), some (V.int (((at0 + t : Nat) : Int) + 1)), _, _, _] = [_, _, _, _, some (V.int ((m * left.length + k : Nat) : Int)), some (V.int ((at0 + (t + 1) : Nat) : Int)), _, _, _]
        rw [Int.natCast_add (m * left.length) k, Int.natCast_mul]
        rfl
      · rw [eup]
        exact upd_same
      · rw [hel]; omega
      · have := hmem.erase y
        rw [List.erase_cons_head] at this
        exact this
      · rw [← hun2]
        obtain ⟨n', hn'⟩ : ∃ n', left.length = n' + 1 := ⟨left.length - 1, by omega⟩
        have hget : o.getD (at0 + t) 0 = y := by rw [List.getD_eq_getElem?_getD, hoy]; rfl
        rw [hel, hn', Nat.add_sub_cancel]
        conv => rhs; unfold LP.rkIn
        rw [hget, hix, hn']
        rfl
    · obtain ⟨GA, m, left, x8, rfl, grA, s8A, glA, hlA, hsum, hnd, hmem, hun2⟩ := iv
      rw [en] at hsum ⊢
      have hl0 : left = [] := List.length_eq_zero_iff.mp (by omega)
      subst hl0
      refine ⟨GA, m, some (.ref la), some (.ref l), x8, rfl, grA, (s7.trans gr8.g).trans s8A, ?_⟩
      rw [← hr7]
      show _ = LP.rk o (R.drop (j + 1)) (at0 + T1.length) (LP.rkIn o T1.length T1 at0 n)
      rw [← hun2]
      rfl
  · obtain ⟨n, x6, x7, x8, rfl, gr7, s7, hr7⟩ := iv
    rw [hlen, List.drop_length] at hr7
    have hr8 : n = i := hr7
    subst hr8
    exact ⟨_, rfl, q _ _ gr7⟩
end
end LW
/-! the law's draws -/
namespace LW
open PySem PySem.Spec L2
open PyProof.Rows hiding St RelV
open C8 (Cal pe_c pe_gc)
open StX (pa_star)
/-- the draws' state stands at r -/
structure RowAt (K : PySem.W.Frag) (r : Addr) (G H : Hp) : Prop where
  s : Same G H
  g : G r = none
  h : ∃ (S : Addr) (xs : List Int) (i q c : Int), H r = some (.lst [.ref S, .int i, .int q, .int c]) ∧ 0 ≤ i ∧ SqL K G S (xs.map V.int)
theorem RowAt.lives {K : PySem.W.Frag} {r : Addr} {G H : Hp} (R : RowAt K r G H) : H r ≠ none := by
  obtain ⟨S, xs, i, q, c, h, _⟩ := R.h
  rw [h]
  exact fun z => by cases z
theorem RowAt.grow {K : PySem.W.Frag} {r : Addr} {G H G' H' : Hp} (R : RowAt K r G H) (g : Grow M0 G H G' H') : RowAt K r G' H' := by
  refine ⟨g.s, (g.old r R.lives).trans R.g, ?_⟩
  obtain ⟨S, xs, i, q, c, h, hi, hS⟩ := R.h
  exact ⟨S, xs, i, q, c, g.h r _ id h, hi, g.g.seq hS⟩
theorem RowAt.put {K : PySem.W.Frag} {r D : Addr} {G H : Hp} {o : HO} (R : RowAt K r G H) (hD : D ≠ r) (gD : G D = none) : RowAt K r G (upd H D o) := by
  refine ⟨fun b u e => ?_, R.g, ?_⟩
  · rw [upd_ne (ne_of_none e gD)]; exact R.s b u e
  · obtain ⟨S, xs, i, q, c, h, hi, hS⟩ := R.h
    exact ⟨S, xs, i, q, c, by rw [upd_ne (fun z => hD z.symm)]; exact h, hi, hS⟩
theorem RowAt.pub {K : PySem.W.Frag} {r D : Addr} {G H : Hp} {o : HO} (R : RowAt K r G H) (hD : D ≠ r) (gD : G D = none) (e0 : H D = some o) : RowAt K r (upd G D o) H := by
  refine ⟨fun b u e => ?_, ?_, ?_⟩
  · by_cases q : b = D
    · subst q; rw [upd_same] at e; rw [← e]; exact e0
    · rw [upd_ne q] at e; exact R.s b u e
  · rw [upd_ne (fun z => hD z.symm)]; exact R.g
  · obtain ⟨S, xs, i, q, c, h, hi, hS⟩ := R.h
    refine ⟨S, xs, i, q, c, h, hi, Same.seq (fun b u e => ?_) hS⟩
    rw [upd_ne (ne_of_none e gD)]
    exact e
/-- the draws' state changes alone -/
theorem RowAt.set {K : PySem.W.Frag} {r S : Addr} {xs : List Int} {i q c : Int} {G H' : Hp} (s : Same G H') (g : G r = none) (h : H' r = some (.lst [.ref S, .int i, .int q, .int c])) (hi : 0 ≤ i) (hS : SqL K G S (xs.map V.int)) : RowAt K r G H' := ⟨s, g, S, xs, i, q, c, h, hi, hS⟩
theorem mod_nV {a : Int} {m : Nat} (hm : 0 < m) : ∃ k, k < m ∧ V.int (a % (m : Int)) = nV k := by
  have h1 : 0 ≤ a % (m : Int) := Int.emod_nonneg _ (by omega)
  have h2 : a % (m : Int) < (m : Int) := Int.emod_lt_of_pos _ (by omega)
  refine ⟨(a % (m : Int)).toNat, by omega, ?_⟩
  unfold nV
  rw [Int.toNat_of_nonneg h1]
theorem k_lenA {X : Cx} (K : PySem.W.Frag) (e : X.K = K := by rfl) : CallR X (.builtin "len") (rLen K) := e ▸ call_len
section
variable {P : Program} {w : World} {K : PySem.W.Frag} {mg : Str → Option Value} {base : Heap}
/-! law_taken -/
abbrev s_law_taken : Stmt := topS 43
abbrev n_law_taken : List Str := ["_law_row", "_law_many", "_law_found", "_law_cell"]
theorem sc_law_taken : FnScope n_law_taken ["_law_row", "_law_many"] (defScope s_law_taken) := ⟨rfl, rfl, rfl, by decide +kernel, rfl, by decide +kernel, by decide +kernel⟩
def sp_law_taken (K : PySem.W.Frag) : Sp := fun vs H Q _ => ∃ (G : Hp) (r : Addr) (m : Nat), vs = [.ref r, nV m] ∧ RowAt K r G H ∧ 1 ≤ m ∧ m ≤ 1000 ∧ ∀ k G' H', k < m → Grow (M1 r) G H G' H' → RowAt K r G' H' → Q (nV k) H'
theorem ok_law_taken (T : Txt mg) {f : Addr} {fd : FuncData} (F : Fun K "_law_taken" "_law_taken" s_law_taken f fd) : FnOk P w K mg base CX0 1 f fd ["_law_row", "_law_many"] (sp_law_taken K) := by
  refine F.ok sc_law_taken (fun vs H Q E h => ?_) (fun cdv A outer s H vs Q E hr h => ?_)
  · obtain ⟨G, r, m, rfl, _⟩ := h
    rfl
  obtain ⟨G, r, m, rfl, R, h1, h3, q⟩ := h
  have nvq : ∀ (a : Int) (H' : Hp), Grow (M1 r) G H G H' → RowAt K r G H' → Q (.int (a % (m : Int))) H' := fun a H' g R' => by
    obtain ⟨k, hk, e⟩ := mod_nV (a := a) (m := m) h1
    rw [e]
    exact q k G H' hk g R'
  obtain ⟨S, xs, i, z, c, hH, hi, hS⟩ := R.h
  have gr0 : Grow (M1 r) G H G H := .here R.s
  refine ⟨_, (pss_cons (ps_if (pt_cmpR op_gt (pe_ix (k_ixL K) (pv 0) pe_int (fun _ _ => rfl)) pe_int (nomark _)) (pss_cons (ps_set (i := 2) sc_law_taken.nd rfl (.inl rfl) (pe_op op_mod (pe_callTy call_int1 (by rfl) T.int_ bt_int (pa_cons (pe_ix (k_ixL K) (pv 0) pe_int (fun _ _ => rfl)) pa_nil)) (pv 1)))
      (pss_cons (ps_asg (pe_op op_fdiv (pe_ix (k_ixL K) (pv 0) pe_int (fun _ _ => rfl)) (pv 1)) (pg_sub (pv 0) pe_int set_list))
      (pss_one (ps_ret (pv 2))))) pss_nil)
      (pss_cons (ps_asg (pe_op op_add (pe_ix (k_ixL K) (pv 0) pe_int (fun _ _ => rfl)) pe_int) (pg_sub (pv 0) pe_int set_list))
      (pss_cons (ps_if (pt_cmpR op_gt (pe_ix (k_ixL K) (pv 0) pe_int (fun _ _ => rfl)) (pe_callB (k_len K) (by rfl) T.len_ PySem.boot_len (pa_cons (pe_ix (k_ixL K) (pv 0) pe_int (fun _ _ => rfl)) pa_nil)) (nomark _)) (pss_cons (ps_asg (pe_op op_mod (pe_callTy call_int1 (by rfl) T.int_ bt_int (pa_cons (pe_op op_add (pe_op op_mul (pe_ix (k_ixL K) (pv 0) pe_int (fun _ _ => rfl)) pe_int) pe_int) pa_nil)) pe_int) (pg_sub (pv 0) pe_int set_list))
      (pss_one (ps_ret (pe_op op_mod (pe_callTy call_int1 (by rfl) T.int_ bt_int (pa_cons (pe_op op_fdiv (pe_ix (k_ixL K) (pv 0) pe_int (fun _ _ => rfl)) pe_int) pa_nil)) (pv 1))))) pss_nil)
      (pss_cons (ps_set (i := 3) sc_law_taken.nd rfl (.inl rfl) (pe_ix (k_ixA K) (pe_ix (k_ixL K) (pv 0) pe_int (fun _ _ => rfl)) (pe_op op_sub (pe_ix (k_ixL K) (pv 0) pe_int (fun _ _ => rfl)) pe_int) (fun _ _ => rfl)))
      (pss_cons (ps_asg (pe_op op_mod (pe_callTy call_int1 (by rfl) T.int_ bt_int (pa_cons (pe_op op_add (pe_op op_add (pe_op op_mul (pe_ix (k_ixL K) (pv 0) pe_int (fun _ _ => rfl)) pe_int) (pv 3)) pe_int) pa_nil)) pe_int) (pg_sub (pv 0) pe_int set_list))
      (pss_cons (ps_if (pt_cmpR op_ge (pv 3) (pe_op op_pow pe_int pe_int) (nomark _)) (pss_one (ps_asg (pe_op op_fdiv (pv 3) (pv 1)) (pg_sub (pv 0) pe_int set_list))) pss_nil)
      (pss_one (ps_ret (pe_op op_mod (pe_callTy call_int1 (by rfl) T.int_ bt_int (pa_cons (pv 3) pa_nil)) (pv 1)))))))))), ?_⟩
  refine ⟨.ref r, rfl, r, _, 3, .int c, rfl, rfl, .of hH, rfl, _, _, rfl, rfl, _, rfl, ?_⟩
  refine ite2 (fun b => ?_) (fun b => ?_)
  · refine ⟨.ref r, rfl, r, _, 3, .int c, rfl, rfl, .of hH, rfl, .inl ⟨c, rfl, nV m, rfl, _, _, rfl, rfl, by omega, ?_⟩⟩
    refine ⟨.ref r, rfl, r, _, 3, .int c, rfl, rfl, .of hH, rfl, nV m, rfl, _, _, rfl, rfl, ⟨by omega, by omega⟩, .ref r, rfl, r, _, 3, 3, rfl, rfl, hH, rfl, ?_⟩
    have g1 := gr0.row R.g (.lst [.ref S, .int i, .int z, .int (c / (m : Int))])
    exact ⟨_, rfl, nvq c _ g1 (.set g1.s R.g upd_same hi hS)⟩
  · refine ⟨.ref r, rfl, r, _, 1, .int i, rfl, rfl, .of hH, rfl, _, _, rfl, rfl, .ref r, rfl, r, _, 1, 1, rfl, rfl, hH, rfl, ?_⟩
    have g1 := gr0.row R.g (.lst [.ref S, .int (i + 1), .int z, .int c])
    have hH1 : upd H r (.lst [.ref S, .int (i + 1), .int z, .int c]) r = some (.lst [.ref S, .int (i + 1), .int z, .int c]) := upd_same
    have hS1 := g1.s.seq hS
    refine ⟨.ref r, rfl, r, _, 1, .int (i + 1), rfl, rfl, .of hH1, rfl, .ref r, rfl, r, _, 0, .ref S, rfl, rfl, .of hH1, rfl, S, _, rfl, .inl hS1, _, _, rfl, rfl, _, rfl, ?_⟩
    refine ite2 (fun b2 => ?_) (fun b2 => ?_)
    · refine ⟨.ref r, rfl, r, _, 2, .int z, rfl, rfl, .of hH1, rfl, _, _, rfl, rfl, .inr ⟨by decide, by decide⟩, _, _, rfl, rfl, .inl ⟨_, rfl, _, _, rfl, rfl, (show (0 : Int) < 2147483647 by decide), .ref r, rfl, r, _, 2, 2, rfl, rfl, hH1, rfl, ?_⟩⟩
      have g2 := g1.row R.g (.lst [.ref S, .int (i + 1), .int ((z * 48271 + 11) % 2147483647), .int c])
      have hH2 : upd (upd H r (.lst [.ref S, .int (i + 1), .int z, .int c])) r (.lst [.ref S, .int (i + 1), .int ((z * 48271 + 11) % 2147483647), .int c]) r = some (.lst [.ref S, .int (i + 1), .int ((z * 48271 + 11) % 2147483647), .int c]) := upd_same
      refine ⟨.ref r, rfl, r, _, 2, .int ((z * 48271 + 11) % 2147483647), rfl, rfl, .of hH2, rfl, _, _, rfl, rfl, ⟨by decide, by decide⟩, .inl ⟨_, rfl, nV m, rfl, _, _, rfl, rfl, by omega, ?_⟩⟩
      exact nvq _ _ g2 (.set g2.s R.g hH2 (by omega) hS)
    · have b3 : ¬ (((xs.map V.int).length : Nat) : Int) < i + 1 := fun y => b2 (decide_eq_true y)
      rw [List.length_map] at b3
      have hx0 : (xs.map V.int)[i.toNat]? = some (V.int (xs[i.toNat]'(by omega))) := by
        rw [List.getElem?_map, List.getElem?_eq_getElem (by omega)]
        rfl
      have hx : atI (xs.map V.int) (i + 1 - 1) = some (V.int (xs[i.toNat]'(by omega))) := by
        have := atI_nat hx0
        rw [show i + 1 - 1 = ((i.toNat : Nat) : Int) by omega]
        exact this
      generalize xs[i.toNat]'(by omega) = d at hx hx0
      refine ⟨.ref r, rfl, r, _, 0, .ref S, rfl, rfl, .of hH1, rfl, .ref r, rfl, r, _, 1, .int (i + 1), rfl, rfl, .of hH1, rfl, _, _, rfl, rfl, .inl ⟨S, _, _, .int d, rfl, rfl, hS1, hx, ?_⟩⟩
      refine ⟨.ref r, rfl, r, _, 2, .int z, rfl, rfl, .of hH1, rfl, _, _, rfl, rfl, .inr ⟨by decide, by decide⟩, .int d, rfl, _, _, rfl, rfl, _, _, rfl, rfl, .inl ⟨_, rfl, _, _, rfl, rfl, (show (0 : Int) < 2147483647 by decide), .ref r, rfl, r, _, 2, 2, rfl, rfl, hH1, rfl, ?_⟩⟩
      have g2 := g1.row R.g (.lst [.ref S, .int (i + 1), .int ((z * 48271 + d + 11) % 2147483647), .int c])
      have hH2 : upd (upd H r (.lst [.ref S, .int (i + 1), .int z, .int c])) r (.lst [.ref S, .int (i + 1), .int ((z * 48271 + d + 11) % 2147483647), .int c]) r = some (.lst [.ref S, .int (i + 1), .int ((z * 48271 + d + 11) % 2147483647), .int c]) := upd_same
      refine ⟨.int d, rfl, _, _, rfl, rfl, ⟨by decide, by decide, by decide⟩, _, _, rfl, rfl, _, rfl, ?_⟩
      refine ite2 (fun b4 => ?_) (fun b4 => ?_)
      · refine ⟨.int d, rfl, nV m, rfl, _, _, rfl, rfl, ⟨by omega, by omega⟩, .ref r, rfl, r, _, 3, 3, rfl, rfl, hH2, rfl, ?_⟩
        have g3 := g2.row R.g (.lst [.ref S, .int (i + 1), .int ((z * 48271 + d + 11) % 2147483647), .int (d / (m : Int))])
        refine ⟨.int d, rfl, .inl ⟨_, rfl, nV m, rfl, _, _, rfl, rfl, by omega, ?_⟩⟩
        exact nvq _ _ g3 (.set g3.s R.g upd_same (by omega) hS)
      · refine ⟨.int d, rfl, .inl ⟨_, rfl, nV m, rfl, _, _, rfl, rfl, by omega, ?_⟩⟩
        exact nvq _ _ g2 (.set g2.s R.g hH2 (by omega) hS)
/-! law_pick -/
abbrev s_law_pick : Stmt := topS 44
abbrev n_law_pick : List Str := ["_law_row", "_law_things"]
theorem sc_law_pick : FnScope n_law_pick ["_law_row", "_law_things"] (defScope s_law_pick) := ⟨rfl, rfl, rfl, by decide +kernel, rfl, by decide +kernel, by decide +kernel⟩
def Things (K : PySem.W.Frag) (G : Hp) (v : V) (n : Nat) (get : Nat → V) : Prop :=
  (∃ a ys, v = .ref a ∧ SqL K G a ys ∧ ys.length = n ∧ ∀ k, k < n → ys[k]? = some (get k)) ∨
  ∃ z : Str, v = .str z ∧ z.length = n ∧ n ≤ 100 ∧ ∀ k, k < n → ∃ c, z.cps.toList[k]? = some c ∧ get k = .str ⟨#[c]⟩
def sp_law_pick (K : PySem.W.Frag) : Sp := fun vs H Q _ => ∃ (G : Hp) (r : Addr) (v : V) (n : Nat) (get : Nat → V), vs = [.ref r, v] ∧ RowAt K r G H ∧ 1 ≤ n ∧ n ≤ 1000 ∧ Things K G v n get ∧ ∀ k G' H', k < n → Grow (M1 r) G H G' H' → RowAt K r G' H' → Q (get k) H'
theorem ok_law_pick (T : Txt mg) {f : Addr} {fd : FuncData} (F : Fun K "_law_pick" "_law_pick" s_law_pick f fd) (c_law_taken : Cal P w K mg base 1 "_law_taken" (sp_law_taken K) []) : FnOk P w K mg base CX0 2 f fd ["_law_row", "_law_things"] (sp_law_pick K) := by
  refine F.ok sc_law_pick (fun vs H Q E h => ?_) (fun cdv A outer s H vs Q E hr h => ?_)
  · obtain ⟨G, r, v, n, get, rfl, _⟩ := h
    rfl
  obtain ⟨G, r, v, n, get, rfl, R, h1, h3, ht, q⟩ := h
  refine ⟨_, (pss_one (ps_ret (pe_ix (k_ixA K) (pv 1) (pe_c c_law_taken hr (by decide) rfl (pa_cons (pv 0) (pa_cons (pe_callB (k_lenA K) (by rfl) T.len_ PySem.boot_len (pa_cons (pv 1) pa_nil)) pa_nil))) (fun _ _ => rfl)))), ?_⟩
  rcases ht with ⟨a, ys, rfl, ha, hn, hg⟩ | ⟨z, rfl, hn, h100, hg⟩
  · refine ⟨.ref a, rfl, .ref r, rfl, .ref a, rfl, _, n, rfl, .inl ⟨ys, R.s.seq ha, hn.symm⟩, G, r, n, rfl, R, h1, h3, fun k G1 H1 hk gr R1 => ?_⟩
    exact .inl ⟨a, ys, _, _, rfl, rfl, gr.s.seq (gr.g.seq ha), atI_nat (hg k hk), q k _ _ hk gr R1⟩
  · refine ⟨.str z, rfl, .ref r, rfl, .str z, rfl, _, n, rfl, ⟨by rw [hn]; exact small_line (by omega), hn.symm⟩, G, r, n, rfl, R, h1, h3, fun k G1 H1 hk gr R1 => ?_⟩
    obtain ⟨c, hc, hgk⟩ := hg k hk
    have q2 := q k _ _ hk gr R1
    rw [hgk] at q2
    exact .inr (.inr ⟨z, _, c, rfl, rfl, by rw [hn]; exact small_line (by omega), atI_nat hc, q2⟩)
/-! law_mixed -/
abbrev s_law_mixed : Stmt := topS 46
abbrev n_law_mixed : List Str := ["_law_row", "_law_some", "_law_left", "_law_found", "_law_turn"]
theorem sc_law_mixed : FnScope n_law_mixed ["_law_row", "_law_some"] (defScope s_law_mixed) := ⟨rfl, rfl, rfl, by decide +kernel, rfl, by decide +kernel, by decide +kernel⟩
def sp_law_mixed (K : PySem.W.Frag) : Sp := fun vs H Q _ => ∃ (G : Hp) (r : Addr) (v : V) (L : List Nat), vs = [.ref r, v] ∧ RowAt K r G H ∧ Is K G eLs v L ∧ L.length ≤ 100 ∧ ∀ v' L' G' H', L'.Perm L → Grow (M1 r) G H G' H' → RowAt K r G' H' → Is K G' eLs v' L' → Q v' H'
theorem ok_law_mixed (T : Txt mg) {f : Addr} {fd : FuncData} (F : Fun K "_law_mixed" "_law_mixed" s_law_mixed f fd) (c_law_taken : Cal P w K mg base 1 "_law_taken" (sp_law_taken K) []) : FnOk P w K mg base CX0 2 f fd ["_law_row", "_law_some"] (sp_law_mixed K) := by
  refine F.ok sc_law_mixed (fun vs H Q E h => ?_) (fun cdv A outer s H vs Q E hr h => ?_)
  · obtain ⟨G, r, v, L, rfl, _⟩ := h
    rfl
  obtain ⟨G, r, v, L, rfl, R, hv, hL, q⟩ := h
  obtain ⟨a, rfl, ha⟩ := is_nats hv
  refine ⟨_, (pss_cons (ps_par (i := 2) (j := 3) rfl sc_law_mixed.nd rfl rfl (by decide) rfl rfl (pa_cons (pe_callTy (k_list K) (by rfl) T.list_ bt_list (pa_cons (pv 1) pa_nil)) (pa_cons (pe_lst pa_nil) pa_nil)) (by rfl))
      (pss_cons (ps_for PassesOwn.never rfl (pi_range1 rfl T.range_ (pa_cons (pe_callB (k_len K) (by rfl) T.len_ PySem.boot_len (pa_cons (pv 2) pa_nil)) pa_nil)) (pg_name (i := 4) sc_law_mixed.nd rfl (.inl rfl)) (pss_one (ps_expr (pe_bm PySem.F.plainAttrs_list PySem.F.slot_list_append PySem.F.type_list_append mt_append (pv 3) (pa_cons (pe_bm PySem.F.plainAttrs_list PySem.F.slot_list_pop PySem.F.type_list_pop mt_popAt (pv 2) (pa_cons (pe_c c_law_taken hr (by decide) rfl (pa_cons (pv 0) (pa_cons (pe_callB (k_len K) (by rfl) T.len_ PySem.boot_len (pa_cons (pv 2) pa_nil)) pa_nil))) pa_nil)) pa_nil)))))
      (pss_one (ps_ret (pv 3))))), ?_⟩
  refine ⟨.ref a, rfl, a, _, rfl, .inl (R.s.seq ha), fun l nl => ?_⟩
  have hlr : l ≠ r := fun z => R.lives (by rw [← z]; exact nl)
  have gl : G l = none := R.s.free nl
  have gr1 := Grow.hide (M := M1 r) R.s nl (.lst (L.map nV))
  have R1 := R.put (o := .lst (L.map nV)) hlr gl
  have hl1 : upd H l (.lst (L.map nV)) l = some (.lst (L.map nV)) := upd_same
  generalize upd H l (.lst (L.map nV)) = H1 at gr1 R1 hl1
  refine ⟨small_line (by decide), fun f nf => ?_⟩
  have hfr : f ≠ r := fun z => R1.lives (by rw [← z]; exact nf)
  have hfl : f ≠ l := fun z => by rw [z, hl1] at nf; cases nf
  have gf : G f = none := R1.s.free nf
  have nf0 : H f = none := Classical.byContradiction fun z => gr1.alive z nf
  have gr2 := gr1.put nf0 gf (.lst [])
  have R2 := R1.put (o := .lst []) hfr gf
  have hf2 : upd H1 f (.lst []) f = some (.lst []) := upd_same
  have hl2 : upd H1 f (.lst []) l = some (.lst (L.map nV)) := by rw [upd_ne (fun z => hfl z.symm)]; exact hl1
  generalize upd H1 f (.lst []) = H2 at gr2 R2 hf2 hl2
  refine ⟨_, _, rfl, ?_⟩
  refine ⟨.ref l, rfl, l, _, rfl, .inl (.of hl2), _, rfl, by rw [List.length_map]; omega, by rw [List.length_map]; omega, ?_⟩
  have en : (((L.map nV).length : Nat) : Int).toNat = L.length := by rw [Int.toNat_natCast, List.length_map]
  refine for_range (fun t σ H' => ∃ (G' : Hp) (left fs : List Nat) (x : Option V), σ = [some (.ref r), some (.ref a), some (.ref l), some (.ref f), x] ∧ Grow (M1 r) G H G' H' ∧ RowAt K r G' H' ∧ G' l = none ∧ G' f = none ∧ H' l = some (.lst (left.map nV)) ∧ H' f = some (.lst (fs.map nV)) ∧ left.length + t = L.length ∧ fs.length = t ∧ (fs ++ left).Perm L) ⟨G, L, [], none, rfl, gr2, R2, gl, gf, hl2, hf2, rfl, rfl, List.Perm.refl _⟩ (fun t σ H' ht iv => ?_) fun σ H' iv => ?_
  · obtain ⟨G3, left, fs, x, rfl, gr3, R3, gl3, gf3, hl3, hf3, hsum, hfs, hp⟩ := iv
    rw [en] at ht
    refine ⟨.ref f, rfl, .inl ⟨rfl, _, .of hf3⟩, .ref l, rfl, .inl ⟨rfl, _, .of hl3⟩, .ref r, rfl, .ref l, rfl, l, _, rfl, .inl (.of hl3), G3, r, left.length, by rw [List.length_map]; rfl, R3, by omega, by omega, fun k G4 H4 hk gr4 R4 => ?_⟩
    have hl4 := gr4.h l _ hlr hl3
    have hf4 := gr4.h f _ hfr hf3
    have gl4 : G4 l = none := (gr4.old l (by rw [hl3]; exact fun z => by cases z)).trans gl3
    have gf4 : G4 f = none := (gr4.old f (by rw [hf3]; exact fun z => by cases z)).trans gf3
    refine ⟨l, _, _, k, nV left[k], rfl, rfl, hl4, ?_, ?_, seq_nat (by rw [List.length_map]; exact hk), ?_, f, fs.map nV, nV left[k], rfl, rfl, ?_, ?_, ?_⟩
    · exact Int.le_trans (by decide) (Int.natCast_nonneg _)
    · exact Int.lt_of_le_of_lt (Int.ofNat_le.mpr (show k ≤ 100 by omega)) (by decide)
    · rw [List.getElem?_map, List.getElem?_eq_getElem hk]; rfl
    · rw [upd_ne hfl]; exact hf4
    · rw [List.length_map, sizeLine_eq]; omega
    have g5 := ((gr3.trans gr4).put nl gl4 (.lst ((left.map nV).eraseIdx k))).put nf0 gf4 (.lst (fs.map nV ++ [nV left[k]]))
    have R5 := (R4.put (o := .lst ((left.map nV).eraseIdx k)) hlr gl4).put (o := .lst (fs.map nV ++ [nV left[k]])) hfr gf4
    refine ⟨G4, left.eraseIdx k, fs ++ [left[k]], _, rfl, g5, R5, gl4, gf4, ?_, ?_, ?_, ?_, ?_⟩
    · rw [upd_ne (fun z => hfl z.symm), upd_same, map_erase]
    · rw [upd_same, List.map_append]; rfl
    · rw [List.length_eraseIdx, if_pos hk]; omega
    · rw [List.length_append, hfs]; rfl
    · rw [List.append_assoc]
      refine List.Perm.trans ?_ hp
      exact List.Perm.append_left _ (LP.perm_eraseIdx hk).symm
  · obtain ⟨G3, left, fs, x, rfl, gr3, R3, gl3, gf3, hl3, hf3, hsum, hfs, hp⟩ := iv
    rw [en] at hsum
    have hl0 : left = [] := List.length_eq_zero_iff.mp (by omega)
    subst hl0
    rw [List.append_nil] at hp
    refine ⟨.ref f, rfl, q _ fs _ _ hp (gr3.pub nf0 gf3 hf3) (R3.pub hfr gf3 hf3) (nats_is (.of upd_same))⟩
end
end LW
/-! the law's pictures -/
namespace LW
open PySem PySem.Spec L2
open PyProof.Rows hiding St RelV
open C8 (Cal pe_c pe_gc)
open StX (pa_star)
theorem row_beside {K : PySem.W.Frag} {r : Addr} {G1 H1 : Hp} (R : RowAt K r G1 H1) : Beside G1 H1 (RowAt K r) := by
  have ne : ∀ D, H1 D = none → D ≠ r := fun D hD z => R.lives (by rw [← z]; exact hD)
  exact ⟨fun _ _ _ _ a b => a.grow b, fun _ _ D _ hD gD a => a.put (ne D hD) gD, fun _ _ D _ hD gD e a => a.pub (ne D hD) gD e⟩
theorem row_M1 {K : PySem.W.Frag} {r : Addr} {G1 H1 : Hp} (R : RowAt K r G1 H1) : ∀ b, M1 r b → H1 b ≠ none := fun b e => by
  rw [show b = r from e]
  exact R.lives
theorem ofs_empty : Str.ofString "" = (⟨#[]⟩ : Str) := by decide +kernel
theorem join_row : ∀ bs : List Bool, Txt.join ⟨#[]⟩ (bs.map fun b => rowS [b]) = rowS bs := by
  intro bs
  rw [TL.join_eq]
  induction bs with
  | nil => rfl
  | cons b bs ih =>
    cases bs with
    | nil => rfl
    | cons c bs =>
      show rowS [b] ++ (⟨#[]⟩ : Str) ++ Str.join ⟨#[]⟩ ((c :: bs).map fun b => rowS [b]) = _
      rw [ih, show (⟨#[]⟩ : Str) = rowS [] from rfl, row_app, row_app]
      rfl
theorem ones_len (bs : List Bool) : ((bs.map fun b => rowS [b]).map (·.length)).sum = bs.length := by
  induction bs with
  | nil => rfl
  | cons b bs ih =>
    rw [List.map_cons, List.map_cons, List.sum_cons, ih, List.length_cons, Nat.add_comm]
    rfl
section
variable {P : Program} {w : World} {K : PySem.W.Frag} {mg : Str → Option Value} {base : Heap}
/-! law_any -/
abbrev s_law_any : Stmt := topS 47
abbrev n_law_any : List Str := ["_law_row", "_law_high", "_law_wide", "_law_often", "_law_found", "_law_at", "_law_spot"]
theorem sc_law_any : FnScope n_law_any ["_law_row", "_law_high", "_law_wide"] (defScope s_law_any) := ⟨rfl, rfl, rfl, by decide +kernel, rfl, by decide +kernel, by decide +kernel⟩
def sp_law_any (K : PySem.W.Frag) : Sp := fun vs H Q _ => ∃ (G : Hp) (r : Addr) (h w : Nat), vs = [.ref r, nV h, nV w] ∧ RowAt K r G H ∧ 1 ≤ h ∧ h ≤ 3 ∧ 1 ≤ w ∧ w ≤ 3 ∧ ∀ v' p G' H', PicOk h w p → Grow (M1 r) G H G' H' → RowAt K r G' H' → Is K G' eP v' p → Q v' H'
theorem ok_law_any (T : Txt mg) {f : Addr} {fd : FuncData} (F : Fun K "_law_any" "_law_any" s_law_any f fd) (c_law_taken : Cal P w K mg base 1 "_law_taken" (sp_law_taken K) []) (c_law_pick : Cal P w K mg base 2 "_law_pick" (sp_law_pick K) []) : FnOk P w K mg base CX0 3 f fd ["_law_row", "_law_high", "_law_wide"] (sp_law_any K) := by
  refine F.ok sc_law_any (fun vs H Q E h => ?_) (fun cdv A outer s H vs Q E hr h => ?_)
  · obtain ⟨G, r, h, w, rfl, _⟩ := h
    rfl
  obtain ⟨G, r, h, w, rfl, R, h1, h3, w1, w3, q⟩ := h
  refine ⟨_, (pss_cons (ps_asg (pe_tup (pa_cons (pe_c c_law_pick hr (by decide) rfl (pa_cons (pv 0) (pa_cons (pe_lst (pa_cons pe_int (pa_cons pe_int (pa_cons pe_int (pa_cons pe_int pa_nil))))) pa_nil))) (pa_cons (pe_lst pa_nil) pa_nil))) (k_pgT (n := 2) K rfl rfl (pgs_cons (pg_name (i := 3) sc_law_any.nd rfl (.inr rfl)) (pgs_cons (pg_name (i := 4) sc_law_any.nd rfl (.inl rfl)) pgs_nil))))
      (pss_cons (ps_for PassesOwn.never rfl (pi_range1 rfl T.range_ (pa_cons (pv 1) pa_nil)) (pg_name (i := 5) sc_law_any.nd rfl (.inl rfl)) (pss_one (ps_expr (pe_bm PySem.F.plainAttrs_list PySem.F.slot_list_append PySem.F.type_list_append mt_append (pv 4) (pa_cons (pe_join pe_str (pe_lc (own := [("_law_spot", 6)]) rfl sc_law_any.nd (pi_range1 rfl T.range_ (pa_cons (pv 2) pa_nil)) (blkOk_by (own := [("_law_spot", 6)]) (N := n_law_any) (sc := defScope s_law_any) (by decide +kernel)) (fun _ _ _ _ _ => (pg_name (i := 6) sc_law_any.nd rfl (.inl rfl))) (fun _ _ _ _ _ => pts_nil) (fun _ _ _ _ _ => (pe_ifExp (pt_cmpR op_eq (pe_c c_law_taken hr (by decide) rfl (pa_cons (pv 0) (pa_cons (pv 3) pa_nil))) pe_int (nomark _)) pe_str pe_str)))) pa_nil)))))
      (pss_one (ps_ret (pe_callTy (k_tuple K) (by rfl) T.tuple_ bt_tuple (pa_cons (pv 4) pa_nil)))))), ?_⟩
  refine ⟨.ref r, rfl, (by show 4 ≤ _; exact small_line (by decide)), fun e ne => ?_⟩
  have gr1 := Grow.new (M := M0) R.s ne (.lst [.int 2, .int 2, .int 3, .int 4])
  have R1 := R.grow gr1
  have he : SqL K (upd G e (.lst [.int 2, .int 2, .int 3, .int 4])) e [.int 2, .int 2, .int 3, .int 4] := .of upd_same
  generalize upd G e (.lst [.int 2, .int 2, .int 3, .int 4]) = G1 at gr1 R1 he
  generalize upd H e (.lst [.int 2, .int 2, .int 3, .int 4]) = H1 at gr1 R1
  refine ⟨G1, r, .ref e, 4, fun k => nV ([2, 2, 3, 4].getD k 2), rfl, R1, by decide, by decide, .inl ⟨e, _, rfl, he, rfl, fun k hk => ?_⟩, fun k G2 H2 hk gr2 R2 => ?_⟩
  · match k, hk with
    | 0, _ => rfl
    | 1, _ => rfl
    | 2, _ => rfl
    | 3, _ => rfl
  have hm : 1 ≤ [2, 2, 3, 4].getD k 2 ∧ [2, 2, 3, 4].getD k 2 ≤ 4 := by
    match k, hk with
    | 0, _ => exact ⟨by decide, by decide⟩
    | 1, _ => exact ⟨by decide, by decide⟩
    | 2, _ => exact ⟨by decide, by decide⟩
    | 3, _ => exact ⟨by decide, by decide⟩
  obtain ⟨m1, m4⟩ := hm
  have gr12 := (gr1.weak (M := M1 r)).trans gr2
  refine ⟨small_line (by decide), fun f nf => ?_⟩
  have hfr : f ≠ r := fun z => R2.lives (by rw [← z]; exact nf)
  have gf2 : G2 f = none := R2.s.free nf
  have gr3 := Grow.hide (M := M1 r) R2.s nf (.lst [])
  have R3 := R2.put (o := .lst []) hfr gf2
  have hf3 : upd H2 f (.lst []) f = some (.lst []) := upd_same
  generalize upd H2 f (.lst []) = H3 at gr3 R3 hf3
  refine ⟨(by show 2 ≤ _; exact small_line (by decide)), fun t nt => ?_⟩
  have gr4 := Grow.new (M := M0) R3.s nt (.tup [nV ([2, 2, 3, 4].getD k 2), .ref f])
  have R4 := R3.grow gr4
  have ht : SqT K (upd G2 t (.tup [nV ([2, 2, 3, 4].getD k 2), .ref f])) t [nV ([2, 2, 3, 4].getD k 2), .ref f] := .of upd_same
  have hf4 : upd H3 t (.tup [nV ([2, 2, 3, 4].getD k 2), .ref f]) f = some (.lst []) := gr4.h f _ id hf3
  have gf4 : upd G2 t (.tup [nV ([2, 2, 3, 4].getD k 2), .ref f]) f = none := (gr4.old f (by rw [hf3]; exact fun z => by cases z)).trans gf2
  generalize upd G2 t (.tup [nV ([2, 2, 3, 4].getD k 2), .ref f]) = G4 at gr4 R4 ht gf4
  refine ⟨t, _, rfl, gr4.s.tup ht, rfl, _, _, rfl, _, _, rfl, rfl, ?_⟩
  refine ⟨nV h, rfl, (h : Int), rfl, by omega, by omega, ?_⟩
  have en : ((h : Nat) : Int).toNat = h := Int.toNat_natCast h
  have ew : ((w : Nat) : Int).toNat = w := Int.toNat_natCast w
  have gr34 := gr3.trans (gr4.weak (M := M1 r))
  refine for_range (fun i σ H' => ∃ (G' : Hp) (rows : List (List Bool)) (x5 : Option V), σ = [some (.ref r), some (nV h), some (nV w), some (nV ([2, 2, 3, 4].getD k 2)), some (.ref f), x5, none] ∧ Grow (M1 r) G2 H2 G' H' ∧ RowAt K r G' H' ∧ G' f = none ∧ H' f = some (.lst (rows.map rV)) ∧ rows.length = i ∧ ∀ r ∈ rows, r.length = w) ⟨G4, [], none, rfl, gr34, R4, gf4, hf4, rfl, fun r hr => by cases hr⟩ (fun i σ H' hi iv => ?_) fun σ H' iv => ?_
  · obtain ⟨G5, rows, x5, rfl, gr5, R5, gf5, hf5, hrl, hrw⟩ := iv
    rw [en] at hi
    refine ⟨.ref f, rfl, .inl ⟨rfl, _, .of hf5⟩, ?_⟩
    refine ⟨⟨_, rfl⟩, nV w, rfl, (w : Int), rfl, by omega, by omega, ?_⟩
    refine lc_run (K := K) (M := M1 r) gw_range R5.s (row_M1 R5) (by rw [ew]; omega) (fun j ds => ∃ bs : List Bool, bs.length = j ∧ ds = (bs.map fun b => [b]).map eR.to) (RowAt K r) (row_beside R5) R5 ⟨[], rfl, rfl⟩ (fun j x ds G6 H6 hj acc gr6 R6 hy C1 C0 k1 k0 => ?_) fun D ds G6 H6 acc gr6 R6 hD => ?_
    · obtain ⟨bs, hbl, rfl⟩ := acc
      have kk : ∀ (b : Bool) (G7 H7 : Hp), Grow (M1 r) G6 H6 G7 H7 → RowAt K r G7 H7 → C1 (.str (rowS [b])) H7 := fun b G7 H7 g7 R7 =>
        k1 (.str (rowS [b])) _ _ _ ⟨bs ++ [b], by rw [List.length_append, hbl]; rfl, by rw [List.map_append, List.map_append]; rfl⟩ g7 R7 (.str _)
      refine ⟨rfl, .ref r, rfl, nV ([2, 2, 3, 4].getD k 2), rfl, G6, r, [2, 2, 3, 4].getD k 2, rfl, R6, m1, by omega, fun k2 G7 H7 hk2 gr7 R7 => ⟨rfl, _, rfl, ?_⟩⟩
      exact ite2 (fun _ => kk true _ _ gr7 R7) fun _ => kk false _ _ gr7 R7
    · obtain ⟨bs, hbl, rfl⟩ := acc
      rw [ew] at hbl
      obtain ⟨D', us, eD, hD2, hus⟩ := hD.list
      cases eD
      have hus2 := all_rows hus
      subst hus2
      have es : (bs.map fun b => [b]).map rV = (bs.map fun b => rowS [b]).map V.str := by rw [List.map_map, List.map_map]; rfl
      rw [es] at hD2
      refine ⟨Str.ofString "", D, bs.map fun b => rowS [b], rfl, rfl, .inl (gr6.s.seq hD2), ?_, ?_⟩
      · rw [ones_len, List.length_map]
        rw [ofs_empty]
        show bs.length + bs.length * 0 ≤ _
        omega
      have hf6 : H6 f = some (.lst (rows.map rV)) := gr6.h f _ hfr hf5
      have gf6 : G6 f = none := (gr6.old f (by rw [hf5]; exact fun z => by cases z)).trans gf5
      refine ⟨f, rows.map rV, .str (Txt.join (Str.ofString "") (bs.map fun b => rowS [b])), rfl, rfl, hf6, by rw [List.length_map, sizeLine_eq]; omega, ?_⟩
      have g7 := (gr5.trans gr6).put nf gf6 (.lst (rows.map rV ++ [.str (Txt.join (Str.ofString "") (bs.map fun b => rowS [b]))]))
      have R7 := R6.put (o := .lst (rows.map rV ++ [.str (Txt.join (Str.ofString "") (bs.map fun b => rowS [b]))])) hfr gf6
      refine ⟨G6, rows ++ [bs], _, rfl, g7, R7, gf6, ?_, by rw [List.length_append, hrl]; rfl, fun r2 hr2 => ?_⟩
      · rw [upd_same, ofs_empty, join_row, List.map_append]
        rfl
      · rcases List.mem_append.mp hr2 with z | z
        · exact hrw r2 z
        · rw [List.mem_singleton] at z
          rw [z, hbl]
  · obtain ⟨G5, rows, x5, rfl, gr5, R5, gf5, hf5, hrl, hrw⟩ := iv
    rw [en] at hrl
    refine ⟨.ref f, rfl, f, _, rfl, .inl ⟨.of hf5, fun l nl => ?_⟩⟩
    have gr6 := Grow.new (M := M0) R5.s nl (.tup (rows.map rV))
    exact q _ rows _ _ ⟨⟨hrl, hrw⟩, h1, h3, w1, w3⟩ ((gr12.trans gr5).trans gr6.weak) (R5.grow gr6) (pic_is (.of upd_same))
end
end LW
/-! the law's painting; the goal -/
namespace LW
open PySem PySem.Spec L2
open PyProof.Rows hiding St RelV
open C8 (Cal pe_c pe_gc)
open StX (pa_star)
def paintedRow (h w : Nat) (p : LP.Pic) (l i : Nat) : List Bool := (List.range w).map fun j => LP.stp h i j (LP.cell p i j) l
theorem paint_rows (h w : Nat) (p : LP.Pic) (l : Nat) : LP.paint h w p l = (List.range h).map (paintedRow h w p l) := rfl
theorem int_dec (a b : Nat) : decide (V.int (a : Int) = V.int (b : Int)) = decide (a = b) := by
  rw [Bool.eq_iff_iff, decide_eq_true_iff, decide_eq_true_iff]
  constructor
  · intro e; have := V.int.inj e; omega
  · intro e; rw [e]
section
variable {P : Program} {w : World} {K : PySem.W.Frag} {mg : Str → Option Value} {base : Heap}
/-! law_paint -/
abbrev s_law_paint : Stmt := topS 48
abbrev n_law_paint : List Str := ["_law_picture_here", "_law_line", "_law_found", "_law_at", "_law_told", "_law_spot"]
theorem sc_law_paint : FnScope n_law_paint ["_law_picture_here", "_law_line"] (defScope s_law_paint) := ⟨rfl, rfl, rfl, by decide +kernel, rfl, by decide +kernel, by decide +kernel⟩
def sp_law_paint (K : PySem.W.Frag) : Sp := fun vs H Q _ => ∃ (G : Hp) (v : V) (h w l : Nat) (p : LP.Pic), vs = [v, nV l] ∧ Same G H ∧ Is K G eP v p ∧ PicOk h w p ∧ ∀ v' G' H', Grow M0 G H G' H' → Is K G' eP v' (LP.paint h w p l) → Q v' H'
theorem ok_law_paint (T : Txt mg) {f : Addr} {fd : FuncData} (F : Fun K "_law_paint" "_law_paint" s_law_paint f fd) : FnOk P w K mg base CX0 1 f fd ["_law_picture_here", "_law_line"] (sp_law_paint K) := by
  refine F.ok sc_law_paint (fun vs H Q E h => ?_) (fun cdv A outer s H vs Q E hr h => ?_)
  · obtain ⟨G, v, h, w, l, p, rfl, _⟩ := h
    rfl
  obtain ⟨G, v, h, w, l, p, rfl, sG, hv, ok, q⟩ := h
  obtain ⟨a, rfl, ha⟩ := is_pic hv
  refine ⟨_, (pss_cons (ps_set (i := 2) sc_law_paint.nd rfl (.inl rfl) (pe_lst pa_nil))
      (pss_cons (ps_for PassesOwn.never rfl (pi_range1 rfl T.range_ (pa_cons (pe_callB (k_len K) (by rfl) T.len_ PySem.boot_len (pa_cons (pv 0) pa_nil)) pa_nil)) (pg_name (i := 3) sc_law_paint.nd rfl (.inl rfl)) (pss_cons (ps_set (i := 4) sc_law_paint.nd rfl (.inl rfl) pe_str)
      (pss_cons (ps_for PassesOwn.never rfl (pi_range1 rfl T.range_ (pa_cons (pe_callB call_len_str (by rfl) T.len_ PySem.boot_len (pa_cons (pe_ix (k_ixT K) (pv 0) pe_int (fun _ _ => rfl)) pa_nil)) pa_nil)) (pg_name (i := 5) sc_law_paint.nd rfl (.inl rfl)) (pss_one (ps_set (i := 4) sc_law_paint.nd rfl (.inl rfl) (pe_op op_add_str (pv 4) (pe_ifExp (pt_cmpR op_eq (pv 1) (pv 3) (nomark _)) pe_str (pe_ifExp (pt_cmpR op_eq (pv 1) (pe_op op_add (pe_callB (k_len K) (by rfl) T.len_ PySem.boot_len (pa_cons (pv 0) pa_nil)) (pv 5)) (nomark _)) pe_str (pe_ix ix_str (pe_ix (k_ixT K) (pv 0) (pv 3) (fun _ _ => rfl)) (pv 5) (fun _ _ => rfl))))))))
      (pss_one (ps_expr (pe_bm PySem.F.plainAttrs_list PySem.F.slot_list_append PySem.F.type_list_append mt_append (pv 2) (pa_cons (pv 4) pa_nil)))))))
      (pss_one (ps_ret (pe_callTy (k_tuple K) (by rfl) T.tuple_ bt_tuple (pa_cons (pv 2) pa_nil)))))), ?_⟩
  have hlen : (p.map rV).length = h := by rw [List.length_map, ok.wf.len]
  obtain ⟨r0, e0, l0⟩ := ok.row (i := 0) (by have := ok.h1; omega)
  have h3 := ok.h3
  have w3 := ok.w3
  have small : w ≤ sizeLine := small_line (by omega)
  refine ⟨small_line (by decide), fun f nf => ?_⟩
  have gf : G f = none := sG.free nf
  have gr1 := Grow.hide (M := M0) sG nf (.lst [])
  have hf1 : upd H f (.lst []) f = some (.lst []) := upd_same
  generalize upd H f (.lst []) = H1 at gr1 hf1
  refine ⟨.ref a, rfl, a, _, rfl, .inr (gr1.s.tup ha), _, rfl, by rw [hlen]; omega, by rw [hlen]; omega, ?_⟩
  have en : (((p.map rV).length : Nat) : Int).toNat = h := by rw [Int.toNat_natCast, hlen]
  refine for_range (fun i σ H' => ∃ x3 x4 x5, σ = [some (.ref a), some (nV l), some (.ref f), x3, x4, x5] ∧ Grow M0 G H G H' ∧ H' f = some (.lst (((List.range i).map (paintedRow h w p l)).map rV))) ⟨none, none, none, rfl, gr1, hf1⟩ (fun i σ H' hi iv => ?_) fun σ H' iv => ?_
  · obtain ⟨x3, x4, x5, rfl, gr2, hf2⟩ := iv
    rw [en] at hi
    have e1 : (0 : Int) + (i : Int) = ((i : Nat) : Int) := by omega
    rw [e1]
    obtain ⟨r1, er1, lr1⟩ := ok.row hi
    refine ⟨.ref a, rfl, a, _, 0, rV r0, rfl, rfl, gr2.s.tup ha, atI_nat (at_map e0), rowS r0, rfl, by rw [rowS_len, l0]; exact small, ((rowS r0).length : Int), rfl, by rw [rowS_len, l0]; omega, by rw [rowS_len, l0]; omega, ?_⟩
    have ew : (((rowS r0).length : Nat) : Int).toNat = w := by rw [Int.toNat_natCast, rowS_len, l0]
    refine for_range (fun j σ H2 => ∃ x5, σ = [some (.ref a), some (nV l), some (.ref f), some (nV i), some (rV ((List.range j).map fun j => LP.stp h i j (LP.cell p i j) l)), x5] ∧ H2 = H') ⟨x5, ?_, rfl⟩ (fun j σ H2 hj iv => ?_) fun σ H2 iv => ?_
    · show [_, _, _, some (nV i), some (V.str (Str.ofString "")), _] = _
      rw [ofs_empty]
      rfl
    · obtain ⟨x5, rfl, rfl⟩ := iv
      rw [ew] at hj
      have e2 : (0 : Int) + (j : Int) = ((j : Nat) : Int) := by omega
      rw [e2]
      have fin : ∀ b : Bool, b = LP.stp h i j (LP.cell p i j) l → ∃ x5, [some (V.ref a), some (nV l), some (.ref f), some (nV i), some (.str (rowS ((List.range j).map fun j => LP.stp h i j (LP.cell p i j) l) ++ rowS [b])), some (V.int (j : Int))] = [some (.ref a), some (nV l), some (.ref f), some (nV i), some (rV ((List.range (j + 1)).map fun j => LP.stp h i j (LP.cell p i j) l)), x5] ∧ H2 = H2 := fun b e => by
        refine ⟨some (V.int (j : Int)), ?_, rfl⟩
        rw [row_app, List.range_succ, List.map_append, e]
        rfl
      have sz : ∀ b : Bool, (rowS ((List.range j).map fun j => LP.stp h i j (LP.cell p i j) l)).length + (rowS [b]).length ≤ sizeLine := fun b => by
        rw [rowS_len, rowS_len, List.length_map, List.length_range]
        exact small_line (by show j + 1 ≤ _; omega)
      refine ⟨_, rfl, nV l, rfl, nV i, rfl, rfl, _, rfl, ?_⟩
      refine ite2 (fun c => ?_) (fun c => ?_)
      · have c1 : l = i := of_decide_eq_true ((int_dec l i).symm.trans c)
        exact ⟨_, _, rfl, rfl, sz true, fin true (by unfold LP.stp; rw [if_pos c1])⟩
      · have c1 : ¬ l = i := fun z => c ((int_dec l i).trans (decide_eq_true z))
        refine ⟨nV l, rfl, .ref a, rfl, a, _, rfl, .inr (gr2.s.tup ha), nV j, rfl, _, _, rfl, rfl, rfl, _, rfl, ?_⟩
        have e3 : decide (V.int (l : Int) = V.int (((p.map rV).length : Int) + (j : Int))) = decide (l = h + j) := by
          rw [hlen]
          exact int_dec l (h + j)
        refine ite2 (fun d => ?_) (fun d => ?_)
        · have d1 : l = h + j := of_decide_eq_true (e3.symm.trans d)
          exact ⟨_, _, rfl, rfl, sz false, fin false (by unfold LP.stp; rw [if_neg c1, if_pos d1])⟩
        · have d1 : ¬ l = h + j := fun z => d (e3.trans (decide_eq_true z))
          have hjr : r1[j]? = some (r1[j]'(by omega)) := List.getElem?_eq_getElem (by omega)
          have ec : LP.cell p i j = r1[j]'(by omega) := LP.cell_of er1 hjr
          refine ⟨.ref a, rfl, nV i, rfl, a, _, (i : Int), rV r1, rfl, rfl, gr2.s.tup ha, atI_nat (at_map er1), nV j, rfl, rowS r1, (j : Int), sign (r1[j]'(by omega)), rfl, rfl, by rw [rowS_len, lr1]; exact small, ?_, ?_⟩
          · apply atI_nat
            rw [rowS_cps, List.getElem?_map, hjr]
            rfl
          · exact ⟨_, _, rfl, rfl, sz (r1[j]'(by omega)), fin (r1[j]'(by omega)) (by unfold LP.stp; rw [if_neg c1, if_neg d1, ec])⟩
    · obtain ⟨x5, rfl, rfl⟩ := iv
      rw [ew]
      refine ⟨.ref f, rfl, .inl ⟨rfl, _, .of hf2⟩, _, rfl, f, _, _, rfl, rfl, hf2, by rw [List.length_map, List.length_map, List.length_range, sizeLine_eq]; omega, ?_⟩
      refine ⟨_, _, _, rfl, gr2.put nf gf _, ?_⟩
      rw [upd_same, List.range_succ, List.map_append, List.map_append]
      rfl
  · obtain ⟨x3, x4, x5, rfl, gr2, hf2⟩ := iv
    rw [en, ← paint_rows] at hf2
    refine ⟨.ref f, rfl, f, _, rfl, .inl ⟨.of hf2, fun t nt => ?_⟩⟩
    have gr3 := Grow.new (M := M0) gr2.s nt (.tup ((LP.paint h w p l).map rV))
    exact q _ _ _ (gr2.trans gr3) (pic_is (.of upd_same))
/-! law_painted -/
abbrev s_law_painted : Stmt := topS 49
abbrev n_law_painted : List Str := ["_law_picture_here", "_law_deeds_here", "_law_line"]
theorem sc_law_painted : FnScope n_law_painted ["_law_picture_here", "_law_deeds_here"] (defScope s_law_painted) := ⟨rfl, rfl, rfl, by decide +kernel, rfl, by decide +kernel, by decide +kernel⟩
def sp_law_painted (K : PySem.W.Frag) : Sp := fun vs H Q _ => ∃ (G : Hp) (v u : V) (h w : Nat) (p : LP.Pic) (d : List Nat), vs = [v, u] ∧ Same G H ∧ Is K G eP v p ∧ PicOk h w p ∧ Is K G eLs u d ∧ ∀ v' G' H', Grow M0 G H G' H' → Is K G' eP v' (LP.paintAll h w p d) → Q v' H'
theorem ok_law_painted (T : Txt mg) {f : Addr} {fd : FuncData} (F : Fun K "_law_painted" "_law_painted" s_law_painted f fd) (c_law_paint : Cal P w K mg base 1 "_law_paint" (sp_law_paint K) []) : FnOk P w K mg base CX0 2 f fd ["_law_picture_here", "_law_deeds_here"] (sp_law_painted K) := by
  refine F.ok sc_law_painted (fun vs H Q E h => ?_) (fun cdv A outer s H vs Q E hr h => ?_)
  · obtain ⟨G, v, u, h, w, p, d, rfl, _⟩ := h
    rfl
  obtain ⟨G, v, u, h, w, p, d, rfl, sG, hv, ok, hu, q⟩ := h
  obtain ⟨a, rfl, ha⟩ := is_nats hu
  refine ⟨_, (pss_cons (ps_for PassesOwn.never rfl (k_piL K rfl (pv 1)) (pg_name (i := 2) sc_law_painted.nd rfl (.inl rfl)) (pss_one (ps_set (i := 0) sc_law_painted.nd rfl (.inl rfl) (pe_c c_law_paint hr (by decide) rfl (pa_cons (pv 0) (pa_cons (pv 2) pa_nil))))))
      (pss_one (ps_ret (pv 0)))), ?_⟩
  refine ⟨.ref a, rfl, a, rfl, ⟨_, sG.seq ha⟩, ?_⟩
  refine for_run (gw_list ha) (fun i σ G1 H1 => Grow M0 G H G1 H1 ∧ ∃ v x, σ = [some v, some (.ref a), x] ∧ Is K G1 eP v (LP.paintAll h w p (d.take i))) (fun i σ G1 H1 iv => ⟨iv.1.g, iv.1.s⟩) ⟨.here sG, v, none, rfl, hv⟩ (fun i x σ G1 H1 G2 H2 hi iv gr hy => ?_) fun σ G1 H1 iv => ?_
  · obtain ⟨gr0, v1, x1, rfl, hv1⟩ := iv
    rw [List.length_map] at hi
    rw [YV, List.getElem?_map, List.getElem?_eq_getElem hi] at hy
    cases hy
    refine ⟨v1, rfl, _, rfl, G2, v1, h, w, d[i], _, rfl, gr.s, hv1.up gr.g, ok.all _, fun v2 G3 H3 gr3 h3 => ?_⟩
    refine ⟨G3, (gr0.trans gr).trans gr3, v2, _, rfl, ?_⟩
    rw [List.take_add_one, List.getElem?_eq_getElem hi]
    show Is K G3 eP v2 (List.foldl _ _ (d.take i ++ [d[i]]))
    rw [List.foldl_append]
    exact h3
  · obtain ⟨gr0, v1, x1, rfl, hv1⟩ := iv
    rw [List.length_map, List.take_length] at hv1
    exact ⟨v1, rfl, q _ _ _ gr0 hv1⟩
end
end LW
/-! the law's deeds and goal -/
namespace LW
open PySem PySem.Spec L2
open PyProof.Rows hiding St RelV
open C8 (Cal pe_c pe_gc)
open StX (pa_star)
theorem nV_add (a b : Nat) : nV (a + b) = V.int ((a : Int) + (b : Int)) := rfl
section
variable {P : Program} {w : World} {K : PySem.W.Frag} {mg : Str → Option Value} {base : Heap}
/-! law_deeds -/
abbrev s_law_deeds : Stmt := topS 50
abbrev n_law_deeds : List Str := ["_law_row", "_law_picture_here", "_law_most", "_law_turn"]
theorem sc_law_deeds : FnScope n_law_deeds ["_law_row", "_law_picture_here", "_law_most"] (defScope s_law_deeds) := ⟨rfl, rfl, rfl, by decide +kernel, rfl, by decide +kernel, by decide +kernel⟩
def sp_law_deeds (K : PySem.W.Frag) : Sp := fun vs H Q _ => ∃ (G : Hp) (r : Addr) (v : V) (h w most : Nat) (p : LP.Pic), vs = [.ref r, v, nV most] ∧ RowAt K r G H ∧ Is K G eP v p ∧ PicOk h w p ∧ most ≤ 100 ∧ ∀ v' d G' H', (∀ l ∈ d, l < h + w) → d.length ≤ most → Grow (M1 r) G H G' H' → RowAt K r G' H' → Is K G' eLs v' d → Q v' H'
theorem ok_law_deeds (T : Txt mg) {f : Addr} {fd : FuncData} (F : Fun K "_law_deeds" "_law_deeds" s_law_deeds f fd) (c_law_taken : Cal P w K mg base 1 "_law_taken" (sp_law_taken K) []) : FnOk P w K mg base CX0 2 f fd ["_law_row", "_law_picture_here", "_law_most"] (sp_law_deeds K) := by
  refine F.ok sc_law_deeds (fun vs H Q E h => ?_) (fun cdv A outer s H vs Q E hr h => ?_)
  · obtain ⟨G, r, v, h, w, most, p, rfl, _⟩ := h
    rfl
  obtain ⟨G, r, v, h, w, most, p, rfl, R, hv, ok, hm, q⟩ := h
  obtain ⟨a, rfl, ha⟩ := is_pic hv
  have h3 := ok.h3
  have w3 := ok.w3
  have h1 := ok.h1
  obtain ⟨r0, e0, l0⟩ := ok.row (i := 0) (by have := ok.h1; omega)
  have hlen : (p.map rV).length = h := by rw [List.length_map, ok.wf.len]
  refine ⟨_, (pss_one (ps_ret (pe_lc (own := [("_law_turn", 3)]) rfl sc_law_deeds.nd (pi_range1 rfl T.range_ (pa_cons (pe_c c_law_taken hr (by decide) rfl (pa_cons (pv 0) (pa_cons (pe_op op_add (pv 2) pe_int) pa_nil))) pa_nil)) (blkOk_by (own := [("_law_turn", 3)]) (N := n_law_deeds) (sc := defScope s_law_deeds) (by decide +kernel)) (fun _ _ _ _ _ => (pg_name (i := 3) sc_law_deeds.nd rfl (.inl rfl))) (fun _ _ _ _ _ => pts_nil) (fun _ _ _ _ _ => (pe_c c_law_taken hr (by decide) rfl (pa_cons (pv 0) (pa_cons (pe_op op_add (pe_callB (k_len K) (by rfl) T.len_ PySem.boot_len (pa_cons (pv 1) pa_nil)) (pe_callB call_len_str (by rfl) T.len_ PySem.boot_len (pa_cons (pe_ix (k_ixT K) (pv 1) pe_int (fun _ _ => rfl)) pa_nil))) pa_nil))))))), ?_⟩
  refine ⟨.ref r, rfl, nV most, rfl, _, _, rfl, rfl, G, r, most + 1, rfl, R, by omega, by omega, fun k G1 H1 hk gr1 R1 => ?_⟩
  refine ⟨(k : Int), rfl, by omega, by omega, ?_⟩
  have ek : ((k : Nat) : Int).toNat = k := Int.toNat_natCast k
  refine lc_run (K := K) (M := M1 r) gw_range R1.s (row_M1 R1) (by rw [ek]; omega) (fun j ds => ∃ d : List Nat, d.length = j ∧ (∀ l ∈ d, l < h + w) ∧ ds = d.map eN.to) (RowAt K r) (row_beside R1) R1 ⟨[], rfl, (fun l hl => nomatch hl), rfl⟩ (fun j x ds G2 H2 hj acc gr2 R2 hy C1 C0 k1 k0 => ?_) fun D ds G2 H2 acc gr2 R2 hD => ?_
  · obtain ⟨d, hdl, hdb, rfl⟩ := acc
    have ha2 := R2.s.tup (gr2.g.tup (gr1.g.tup ha))
    refine ⟨rfl, .ref r, rfl, .ref a, rfl, a, _, rfl, .inr ha2, .ref a, rfl, a, _, 0, rV r0, rfl, rfl, ha2, atI_nat (at_map e0), rowS r0, rfl, by rw [rowS_len, l0]; exact small_line (by omega), _, _, rfl, rfl, G2, r, h + w, ?_, R2, by omega, by omega, fun k2 G3 H3 hk2 gr3 R3 => ?_⟩
    · rw [hlen, rowS_len, l0]
      rfl
    · exact k1 (.int (k2 : Int)) _ _ _ ⟨d ++ [k2], by rw [List.length_append, hdl]; rfl, fun l hl => by
        rcases List.mem_append.mp hl with z | z
        · exact hdb l z
        · rw [List.mem_singleton] at z
          omega, by rw [List.map_append]; rfl⟩ gr3 R3 (.int _)
  · obtain ⟨d, hdl, hdb, rfl⟩ := acc
    rw [ek] at hdl
    exact q _ d _ _ hdb (by omega) (gr1.trans gr2) R2 hD
/-! law_picture -/
abbrev s_law_picture : Stmt := topS 51
abbrev n_law_picture : List Str := ["_law_row", "_law_most", "_law_high", "_law_wide", "_law_picture_here", "_law_kind"]
theorem sc_law_picture : FnScope n_law_picture ["_law_row", "_law_most"] (defScope s_law_picture) := ⟨rfl, rfl, rfl, by decide +kernel, rfl, by decide +kernel, by decide +kernel⟩
def sp_law_picture (K : PySem.W.Frag) : Sp := fun vs H Q _ => ∃ (G : Hp) (r : Addr), vs = [.ref r, nV 3] ∧ RowAt K r G H ∧ ∀ v' h w p G' H', PicOk h w p → Grow (M1 r) G H G' H' → RowAt K r G' H' → Is K G' eP v' p → Q v' H'
theorem ok_law_picture (T : Txt mg) {f : Addr} {fd : FuncData} (F : Fun K "_law_picture" "_law_picture" s_law_picture f fd) (c_law_taken : Cal P w K mg base 1 "_law_taken" (sp_law_taken K) []) (c_law_any : Cal P w K mg base 3 "_law_any" (sp_law_any K) []) (c_law_painted : Cal P w K mg base 2 "_law_painted" (sp_law_painted K) []) (c_law_deeds : Cal P w K mg base 2 "_law_deeds" (sp_law_deeds K) []) (c_law_mixed : Cal P w K mg base 2 "_law_mixed" (sp_law_mixed K) []) : FnOk P w K mg base CX0 4 f fd ["_law_row", "_law_most"] (sp_law_picture K) := by
  refine F.ok sc_law_picture (fun vs H Q E h => ?_) (fun cdv A outer s H vs Q E hr h => ?_)
  · obtain ⟨G, r, rfl, _⟩ := h
    rfl
  obtain ⟨G, r, rfl, R, q⟩ := h
  refine ⟨_, (pss_cons (ps_par (i := 2) (j := 3) rfl sc_law_picture.nd rfl rfl (by decide) rfl rfl (pa_cons (pe_op op_add pe_int (pe_c c_law_taken hr (by decide) rfl (pa_cons (pv 0) (pa_cons (pv 1) pa_nil)))) (pa_cons (pe_op op_add pe_int (pe_c c_law_taken hr (by decide) rfl (pa_cons (pv 0) (pa_cons (pv 1) pa_nil)))) pa_nil)) (by rfl))
      (pss_cons (ps_par (i := 4) (j := 5) rfl sc_law_picture.nd rfl rfl (by decide) rfl rfl (pa_cons (pe_c c_law_any hr (by decide) rfl (pa_cons (pv 0) (pa_cons (pv 2) (pa_cons (pv 3) pa_nil)))) (pa_cons (pe_c c_law_taken hr (by decide) rfl (pa_cons (pv 0) (pa_cons pe_int pa_nil))) pa_nil)) (by rfl))
      (pss_cons (ps_if (pt_cmpR op_eq (pv 5) pe_int (nomark _)) (pss_one (ps_ret (pv 4))) pss_nil)
      (pss_cons (ps_if (pt_cmpR op_eq (pv 5) pe_int (nomark _)) (pss_one (ps_ret (pe_c c_law_painted hr (by decide) rfl (pa_cons (pv 4) (pa_cons (pe_c c_law_deeds hr (by decide) rfl (pa_cons (pv 0) (pa_cons (pv 4) (pa_cons (pe_op op_add (pv 2) (pv 3)) pa_nil)))) pa_nil))))) pss_nil)
      (pss_one (ps_ret (pe_c c_law_painted hr (by decide) rfl (pa_cons (pv 4) (pa_cons (pe_c c_law_mixed hr (by decide) rfl (pa_cons (pv 0) (pa_cons (pe_listRg rfl rfl T.list_ (prg_1 rfl T.range_ (pe_op op_add (pv 2) (pv 3)))) pa_nil))) pa_nil))))))))), ?_⟩
  refine ⟨.ref r, rfl, nV 3, rfl, G, r, 3, rfl, R, by decide, by decide, fun k1 G1 H1 hk1 gr1 R1 => ?_⟩
  refine ⟨_, _, rfl, rfl, .ref r, rfl, nV 3, rfl, G1, r, 3, rfl, R1, by decide, by decide, fun k2 G2 H2 hk2 gr2 R2 => ?_⟩
  refine ⟨_, _, rfl, rfl, _, _, rfl, ?_⟩
  refine ⟨.ref r, rfl, _, rfl, _, rfl, G2, r, 1 + k1, 1 + k2, ?_, R2, by omega, by omega, by omega, by omega, fun v3 p G3 H3 ok gr3 R3 hv3 => ?_⟩
  · rw [nV_add, nV_add]
    rfl
  refine ⟨.ref r, rfl, G3, r, 4, rfl, R3, by decide, by decide, fun k4 G4 H4 hk4 gr4 R4 => ?_⟩
  have g14 := ((gr1.trans gr2).trans gr3).trans gr4
  have hv4 := hv3.up gr4.g
  refine ⟨_, _, rfl, ?_⟩
  refine ⟨nV k4, rfl, rfl, _, rfl, ite2 (fun c => ?_) (fun c => ?_)⟩
  · exact ⟨v3, rfl, q _ _ _ _ _ _ ok g14 R4 hv4⟩
  · refine ⟨nV k4, rfl, rfl, _, rfl, ite2 (fun c => ?_) (fun c => ?_)⟩
    · refine ⟨v3, rfl, .ref r, rfl, v3, rfl, _, rfl, _, rfl, _, _, rfl, rfl, G4, r, v3, _, _, (1 + k1) + (1 + k2), p, ?_, R4, hv4, ok, by omega, fun v5 d G5 H5 hd hdl gr5 R5 hv5 => ?_⟩
      · rfl
      · refine ⟨G5, v3, v5, _, _, p, d, rfl, R5.s, hv4.up gr5.g, ok, hv5, fun v6 G6 H6 gr6 hv6 => ?_⟩
        exact q _ _ _ _ _ _ (ok.all d) ((g14.trans gr5).trans gr6.weak) (R5.grow gr6) hv6
    · refine ⟨v3, rfl, .ref r, rfl, _, rfl, _, rfl, _, _, rfl, rfl, _, rfl, RgOk.of_le (by decide) (by omega) (by decide) (by omega), fun l nl => ?_⟩
      have e5 : rgV 0 ((1 + (k1 : Int)) + (1 + (k2 : Int))) = (List.range (1 + k1 + (1 + k2))).map nV := rg_nV (1 + k1 + (1 + k2))
      have gr5 := Grow.new (M := M0) R4.s nl (.lst (rgV 0 ((1 + (k1 : Int)) + (1 + (k2 : Int)))))
      have R5 := R4.grow gr5
      have hl5 : Is K (upd G4 l (.lst (rgV 0 ((1 + (k1 : Int)) + (1 + (k2 : Int)))))) eLs (.ref l) (List.range (1 + k1 + (1 + k2))) := by
        rw [e5]
        exact nats_is (.of upd_same)
      refine ⟨_, r, .ref l, _, rfl, R5, hl5, by rw [List.length_range]; omega, fun v6 L' G6 H6 hp gr6 R6 hv6 => ?_⟩
      refine ⟨G6, v3, v6, _, _, p, L', rfl, R6.s, (hv4.up gr5.g).up gr6.g, ok, hv6, fun v7 G7 H7 gr7 hv7 => ?_⟩
      exact q _ _ _ _ _ _ (ok.all L') (((g14.trans gr5.weak).trans gr6).trans gr7.weak) (R6.grow gr7) hv7
end
end LW
/-! the law's layers -/
namespace LW
open PySem PySem.Spec L2
open PyProof.Rows hiding St RelV
open C8 (Cal pe_c pe_gc)
open StX (pa_star)
theorem fm_filter2 {α β γ : Type} (p : α → Bool) (e : α → γ) (g : γ → β) (xs : List α) : ((List.range xs.length).filterMap fun i => (xs[i]?).bind fun x => if p x = true then some (g (e x)) else none) = ((xs.filter p).map e).map g := by
  rw [List.map_map]
  exact fm_filter p (fun x => g (e x)) xs
section
variable {K : PySem.W.Frag} {G1 H1 : Hp} {a : Addr} {xs : List Nat} {g : TG} {tt : TT} {te : TE} {vs : List Nat} {σ : St} {Qd : Addr → Hp → Prop}
/-- [e(x) for x in numbers if p(x)] -/
theorem lc_filter (p : Nat → Bool) (e : Nat → Nat) (h : SqL K G1 a (xs.map nV)) (s1 : Same G1 H1) (hn : xs.length ≤ 100000)
    (turn : ∀ n G H, n ∈ xs → Grow M0 G1 H1 G H → ∀ (C1 : VK) (C0 : Hp → Prop), (p n = true → ∀ G' H', Grow M0 G H G' H' → C1 (nV (e n)) H') → (p n = false → ∀ G' H', Grow M0 G H G' H' → C0 H') →
      g (nV n) (wipe σ vs) H fun σ2 H2 => wipe σ2 vs = wipe σ vs ∧ tt σ2 H2 fun b H3 => if b = true then te σ2 H3 C1 else C0 H3)
    (done : ∀ D G' H', Grow M0 G1 H1 G' H' → Is K G' eLs (.ref D) ((xs.filter p).map e) → Qd D H') :
    ∀ D, H1 D = none → ∃ W : Nat → Nat → Hp → Prop, (∃ m, W 0 m (upd H1 D (.lst []))) ∧ ∀ i m H, W i m H → ((Itl K a).stop i H ∧ Qd D H) ∨
      ((Itl K a).go i H ∧ ∃ Nx : Hp → Prop, (∀ H', Nx H' → ∃ m', m' < m ∧ W (i + 1) m' H') ∧ ∀ x H', (Itl K a).yld i H x H' → g x (wipe σ vs) H' fun σ2 H2 => wipe σ2 vs = wipe σ vs ∧ tt σ2 H2 fun b H3 =>
        if b = true then te σ2 H3 fun y H4 => ∃ acc, H4 D = some (.lst acc) ∧ acc.length < sizeLine ∧ Nx (upd H4 D (.lst (acc ++ [y]))) else Nx H3) := by
  refine lc_pure (K := K) (fun i => (xs[i]?).bind fun n => if p n = true then some (eN.to (e n)) else none) (gw_list h) s1 (by rw [List.length_map]; exact hn) (fun i x G H hi gr hy C1 C0 k1 k0 => ?_) fun D G' H' gr hD => ?_
  · rw [List.length_map] at hi
    rw [YV, List.getElem?_map, List.getElem?_eq_getElem hi] at hy
    cases hy
    refine turn xs[i] G H (List.getElem_mem hi) gr C1 C0 (fun c G' H' gr2 => k1 _ _ _ _ ?_ gr2 (.int _)) fun c G' H' gr2 => k0 ?_ _ _ gr2
    · rw [List.getElem?_eq_getElem hi]; exact if_pos c
    · rw [List.getElem?_eq_getElem hi]; exact if_neg (by rw [c]; exact fun z => by cases z)
  · rw [List.length_map, fm_filter2] at hD
    exact done D G' H' gr hD
end
theorem map_emp {α β : Type} (xs : List α) (f : α → β) [Decidable (xs.map f = [])] : decide (xs.map f = []) = xs.isEmpty := by
  cases xs with
  | nil => simp
  | cons x xs => simp
theorem pic_at {h w : Nat} {p : LP.Pic} (ok : PicOk h w p) {i j : Nat} (hi : i < h) (hj : j < w) : ∃ r, (p.map rV)[i]? = some (rV r) ∧ (rowS r).length ≤ sizeLine ∧ atI (rowS r).cps.toList (j : Int) = some (sign (LP.cell p i j)) := by
  obtain ⟨r, er, lr, hs⟩ := sign_at ok hi hj
  refine ⟨r, at_map er, by rw [rowS_len, lr]; exact small_line (by have := ok.w3; omega), ?_⟩
  apply atI_nat
  rw [Array.getElem?_toList]
  exact hs
theorem ofs_dot : Str.ofString "." = (⟨#[46]⟩ : Str) := by decide +kernel
theorem ofs_hash : Str.ofString "#" = (⟨#[35]⟩ : Str) := by decide +kernel
theorem in_nats (n : Nat) (xs : List Nat) : inV (nV n) (xs.map nV) = xs.contains n := by
  induction xs with
  | nil => rfl
  | cons x xs ih =>
    rw [List.contains_cons, List.map_cons, ← ih]
    show (eqV (nV x) (nV n) || inV (nV n) (xs.map nV)) = _
    congr 1
    show ((x : Int) == (n : Int)) = (n == x)
    rw [Bool.eq_iff_iff, beq_iff_eq, beq_iff_eq]
    omega
theorem flat_nats (xs : List Nat) : (xs.map nV).all flatV = true := by
  rw [List.all_map, List.all_eq_true]
  intro z _
  rfl
section
variable {P : Program} {w : World} {K : PySem.W.Frag} {mg : Str → Option Value} {base : Heap}
/-! law_layers -/
abbrev s_law_layers : Stmt := topS 53
abbrev n_law_layers : List Str := ["_law_picture_here", "_law_high", "_law_wide", "_law_found", "_law_rows", "_law_columns", "_law_turn", "_law_full", "_law_empty", "_law_at", "_law_spot"]
theorem sc_law_layers : FnScope n_law_layers ["_law_picture_here"] (defScope s_law_layers) := ⟨rfl, rfl, rfl, by decide +kernel, rfl, by decide +kernel, by decide +kernel⟩
def sp_law_layers (K : PySem.W.Frag) : Sp := fun vs H Q _ => ∃ (G : Hp) (v : V) (h w : Nat) (p : LP.Pic), vs = [v] ∧ Same G H ∧ Is K G eP v p ∧ PicOk h w p ∧ ∀ v' G' H', Grow M0 G H G' H' → Is K G' eLL v' (LP.layersOf h w p) → Q v' H'
theorem ok_law_layers (T : Txt mg) {f : Addr} {fd : FuncData} (F : Fun K "_law_layers" "_law_layers" s_law_layers f fd) : FnOk P w K mg base CX0 1 f fd ["_law_picture_here"] (sp_law_layers K) := by
  refine F.ok sc_law_layers (fun vs H Q E h => ?_) (fun cdv A outer s H vs Q E hr h => ?_)
  · obtain ⟨G, v, h, w, p, rfl, _⟩ := h
    rfl
  obtain ⟨G, v, h, w, p, rfl, sG, hv, ok, q⟩ := h
  have hu1 := hu_of hr
  have hu := hr.units
  obtain ⟨a, rfl, ha⟩ := is_pic hv
  refine ⟨_, (pss_cons (ps_asg (pe_tup (pa_cons (pe_callB (k_len K) (by rfl) T.len_ PySem.boot_len (pa_cons (pv 0) pa_nil)) (pa_cons (pe_callB call_len_str (by rfl) T.len_ PySem.boot_len (pa_cons (pe_ix (k_ixT K) (pv 0) pe_int (fun _ _ => rfl)) pa_nil)) (pa_cons (pe_lst pa_nil) pa_nil)))) (k_pgT (n := 3) K rfl rfl (pgs_cons (pg_name (i := 1) sc_law_layers.nd rfl (.inr rfl)) (pgs_cons (pg_name (i := 2) sc_law_layers.nd rfl (.inl rfl)) (pgs_cons (pg_name (i := 3) sc_law_layers.nd rfl (.inl rfl)) pgs_nil)))))
      (pss_cons (ps_asg (pe_tup (pa_cons (pe_listRg rfl rfl T.list_ (prg_1 rfl T.range_ (pv 1))) (pa_cons (pe_listRg rfl rfl T.list_ (prg_1 rfl T.range_ (pv 2))) pa_nil))) (k_pgT (n := 2) K rfl rfl (pgs_cons (pg_name (i := 4) sc_law_layers.nd rfl (.inr rfl)) (pgs_cons (pg_name (i := 5) sc_law_layers.nd rfl (.inr rfl)) pgs_nil))))
      (pss_cons (ps_for PassesOwn.never rfl (pi_range1 rfl T.range_ (pa_cons (pe_op op_add (pv 1) (pv 2)) pa_nil)) (pg_name (i := 6) sc_law_layers.nd rfl (.inl rfl)) (pss_cons (ps_set (i := 7) sc_law_layers.nd rfl (.inr rfl) (pe_lc (own := [("_law_at", 9)]) rfl sc_law_layers.nd (k_piL K rfl (pv 4)) (blkOk_by (own := [("_law_at", 9)]) (N := n_law_layers) (sc := defScope s_law_layers) (by decide +kernel)) (fun _ _ _ _ _ => (pg_name (i := 9) sc_law_layers.nd rfl (.inr rfl))) (fun _ _ _ _ _ => pts_one (pt_cmpR (k_eqD K rfl hu) (pe_lc (own := [("_law_spot", 10)]) rfl sc_law_layers.nd (k_piL K rfl (pv 5)) (blk2 (N := n_law_layers) (own := [("_law_spot", 10)]) (fs := ["_law_at", "_law_picture_here"]) (by decide +kernel) (free_cons (by first | exact .inl rfl | exact .inr rfl) (free_cons (by first | exact .inl rfl | exact .inr rfl) free_nil))) (fun _ _ _ _ _ => (pg_name (i := 10) sc_law_layers.nd rfl (.inl rfl))) (fun _ _ _ _ _ => pts_one (pt_cmpR op_eq (pe_ix ix_str (pe_ix (k_ixT K) (pv 0) (pv 9) (fun _ _ => rfl)) (pv 10) (fun _ _ => rfl)) pe_str (nomark _))) (fun _ _ _ _ _ => pe_int)) (pe_lst pa_nil) (nomark _))) (fun _ _ _ _ _ => (pv 9))))
      (pss_cons (ps_set (i := 8) sc_law_layers.nd rfl (.inr rfl) (pe_lc (own := [("_law_spot", 10)]) rfl sc_law_layers.nd (k_piL K rfl (pv 5)) (blkOk_by (own := [("_law_spot", 10)]) (N := n_law_layers) (sc := defScope s_law_layers) (by decide +kernel)) (fun _ _ _ _ _ => (pg_name (i := 10) sc_law_layers.nd rfl (.inr rfl))) (fun _ _ _ _ _ => pts_one (pt_cmpR (k_eqD K rfl hu) (pe_lc (own := [("_law_at", 9)]) rfl sc_law_layers.nd (k_piL K rfl (pv 4)) (blk2 (N := n_law_layers) (own := [("_law_at", 9)]) (fs := ["_law_picture_here", "_law_spot"]) (by decide +kernel) (free_cons (by first | exact .inl rfl | exact .inr rfl) (free_cons (by first | exact .inl rfl | exact .inr rfl) free_nil))) (fun _ _ _ _ _ => (pg_name (i := 9) sc_law_layers.nd rfl (.inl rfl))) (fun _ _ _ _ _ => pts_one (pt_cmpR op_eq (pe_ix ix_str (pe_ix (k_ixT K) (pv 0) (pv 9) (fun _ _ => rfl)) (pv 10) (fun _ _ => rfl)) pe_str (nomark _))) (fun _ _ _ _ _ => pe_int)) (pe_lst pa_nil) (nomark _))) (fun _ _ _ _ _ => (pv 10))))
      (pss_one (ps_if (pt_cmpR (k_neD K rfl hu) (pv 7) (pe_lst pa_nil) (nomark _)) (pss_cons (ps_expr (pe_bm PySem.F.plainAttrs_list PySem.F.slot_list_append PySem.F.type_list_append mt_append (pv 3) (pa_cons (pv 7) pa_nil)))
      (pss_one (ps_set (i := 4) sc_law_layers.nd rfl (.inr rfl) (pe_lc (own := [("_law_at", 9)]) rfl sc_law_layers.nd (k_piL K rfl (pv 4)) (blkOk_by (own := [("_law_at", 9)]) (N := n_law_layers) (sc := defScope s_law_layers) (by decide +kernel)) (fun _ _ _ _ _ => (pg_name (i := 9) sc_law_layers.nd rfl (.inl rfl))) (fun _ _ _ _ _ => pts_one (pt_cmpR (k_notin K) (pv 9) (pv 7) (by rfl))) (fun _ _ _ _ _ => (pv 9)))))) (pss_one (ps_if (pt_cmpR (k_neD K rfl hu) (pv 8) (pe_lst pa_nil) (nomark _)) (pss_cons (ps_expr (pe_bm PySem.F.plainAttrs_list PySem.F.slot_list_append PySem.F.type_list_append mt_append (pv 3) (pa_cons (pe_lc (own := [("_law_spot", 10)]) rfl sc_law_layers.nd (k_piL K rfl (pv 8)) (blkOk_by (own := [("_law_spot", 10)]) (N := n_law_layers) (sc := defScope s_law_layers) (by decide +kernel)) (fun _ _ _ _ _ => (pg_name (i := 10) sc_law_layers.nd rfl (.inl rfl))) (fun _ _ _ _ _ => pts_nil) (fun _ _ _ _ _ => (pe_op op_add (pv 1) (pv 10)))) pa_nil)))
      (pss_one (ps_set (i := 5) sc_law_layers.nd rfl (.inr rfl) (pe_lc (own := [("_law_spot", 10)]) rfl sc_law_layers.nd (k_piL K rfl (pv 5)) (blkOk_by (own := [("_law_spot", 10)]) (N := n_law_layers) (sc := defScope s_law_layers) (by decide +kernel)) (fun _ _ _ _ _ => (pg_name (i := 10) sc_law_layers.nd rfl (.inl rfl))) (fun _ _ _ _ _ => pts_one (pt_cmpR (k_notin K) (pv 10) (pv 8) (by rfl))) (fun _ _ _ _ _ => (pv 10)))))) pss_nil)))))))
      (pss_one (ps_ret (pv 3)))))), ?_⟩
  have hlen : (p.map rV).length = h := by rw [List.length_map, ok.wf.len]
  obtain ⟨r0, e0, l0⟩ := ok.row (i := 0) (by have := ok.h1; omega)
  have h3 := ok.h3
  have w3 := ok.w3
  refine ⟨.ref a, rfl, a, _, rfl, .inr (sG.tup ha), .ref a, rfl, a, _, 0, rV r0, rfl, rfl, sG.tup ha, atI_nat (at_map e0), rowS r0, rfl, by rw [rowS_len, l0]; exact small_line (by omega), small_line (by decide), fun f nf => ?_⟩
  have gf : G f = none := sG.free nf
  have gr1 := Grow.hide (M := M0) sG nf (.lst [])
  have hf1 : upd H f (.lst []) f = some (.lst []) := upd_same
  generalize upd H f (.lst []) = H1 at gr1 hf1
  refine ⟨(by show 3 ≤ _; exact small_line (by decide)), fun t nt => ?_⟩
  have et : [V.int ((p.map rV).length : Int), V.int ((rowS r0).length : Int), V.ref f] = [nV h, nV w, .ref f] := by
    rw [hlen, rowS_len, l0]
    rfl
  have gr2 := Grow.new (M := M0) gr1.s nt (.tup [V.int ((p.map rV).length : Int), V.int ((rowS r0).length : Int), V.ref f])
  have ht : SqT K (upd G t (.tup [V.int ((p.map rV).length : Int), V.int ((rowS r0).length : Int), V.ref f])) t [nV h, nV w, .ref f] := by
    rw [← et]
    exact .of upd_same
  have hf2 : upd H1 t (.tup [V.int ((p.map rV).length : Int), V.int ((rowS r0).length : Int), V.ref f]) f = some (.lst []) := gr2.h f _ id hf1
  have gf2 : upd G t (.tup [V.int ((p.map rV).length : Int), V.int ((rowS r0).length : Int), V.ref f]) f = none := (gr2.old f (by rw [hf1]; exact fun z => by cases z)).trans gf
  generalize upd G t (.tup [V.int ((p.map rV).length : Int), V.int ((rowS r0).length : Int), V.ref f]) = G2 at gr2 ht gf2
  generalize upd H1 t (.tup [V.int ((p.map rV).length : Int), V.int ((rowS r0).length : Int), V.ref f]) = H2 at gr2 hf2
  refine ⟨t, _, rfl, gr2.s.tup ht, rfl, _, _, rfl, _, _, rfl, _, _, rfl, rfl, ?_⟩
  refine ⟨nV h, rfl, _, rfl, RgOk.of_le (by decide) (by omega) (by decide) (by omega), fun ra nra => ?_⟩
  have gr3 := Grow.new (M := M0) gr2.s nra (.lst (rgV 0 ((h : Nat) : Int)))
  have hra3 : Is K (upd G2 ra (.lst (rgV 0 ((h : Nat) : Int)))) eLs (.ref ra) (List.range h) := by
    rw [rg_nV]
    exact nats_is (.of upd_same)
  generalize upd G2 ra (.lst (rgV 0 ((h : Nat) : Int))) = G3 at gr3 hra3
  generalize upd H2 ra (.lst (rgV 0 ((h : Nat) : Int))) = H3 at gr3
  refine ⟨nV w, rfl, _, rfl, RgOk.of_le (by decide) (by omega) (by decide) (by omega), fun ca nca => ?_⟩
  have gr4 := Grow.new (M := M0) gr3.s nca (.lst (rgV 0 ((w : Nat) : Int)))
  have hca4 : Is K (upd G3 ca (.lst (rgV 0 ((w : Nat) : Int)))) eLs (.ref ca) (List.range w) := by
    rw [rg_nV]
    exact nats_is (.of upd_same)
  generalize upd G3 ca (.lst (rgV 0 ((w : Nat) : Int))) = G4 at gr4 hca4
  generalize upd H3 ca (.lst (rgV 0 ((w : Nat) : Int))) = H4 at gr4
  refine ⟨(by show 2 ≤ _; exact small_line (by decide)), fun t2 nt2 => ?_⟩
  have gr5 := Grow.new (M := M0) gr4.s nt2 (.tup [V.ref ra, .ref ca])
  have ht5 : SqT K (upd G4 t2 (.tup [V.ref ra, .ref ca])) t2 [.ref ra, .ref ca] := .of upd_same
  generalize upd G4 t2 (.tup [V.ref ra, .ref ca]) = G5 at gr5 ht5
  generalize upd H4 t2 (.tup [V.ref ra, .ref ca]) = H5 at gr5
  refine ⟨t2, _, rfl, gr5.s.tup ht5, rfl, _, _, rfl, _, _, rfl, rfl, ?_⟩
  have g25 := (gr3.trans gr4).trans gr5
  have hf5 : H5 f = some (.lst []) := g25.h f _ id hf2
  have gf5 : G5 f = none := (g25.old f (by rw [hf2]; exact fun z => by cases z)).trans gf2
  have gA := (gr1.trans gr2).trans g25
  have sa5 := gr2.g.trans g25.g
  refine ⟨nV h, rfl, nV w, rfl, _, _, rfl, rfl, ((h + w : Nat) : Int), rfl, by omega, by omega, ?_⟩
  have en : ((h + w : Nat) : Int).toNat = h + w := Int.toNat_natCast _
  have hL := LP.lawLay_layers h w p
  refine for_range (fun n σ H' => ∃ (G' : Hp) (ra ca : Addr) (rows cols : List Nat) (fs : List (List Nat)) (us : List V) (x6 x7 x8 : Option V), σ = [some (.ref a), some (nV h), some (nV w), some (.ref f), some (.ref ra), some (.ref ca), x6, x7, x8, none, none] ∧ Grow M0 G H G' H' ∧ Same G5 G' ∧ G' f = none ∧ H' f = some (.lst us) ∧ DpAll K G' us (fs.map eLs.to) ∧ SqL K G' ra (rows.map nV) ∧ SqL K G' ca (cols.map nV) ∧
    (∀ i ∈ rows, i < h) ∧ (∀ j ∈ cols, j < w) ∧ rows.length ≤ h ∧ cols.length ≤ w ∧ fs.length ≤ n ∧ fs ++ LP.lawLay h (LP.cell p) (h + w - n) rows cols = LP.layersOf h w p) ⟨G5, ra, ca, List.range h, List.range w, [], [], none, none, none, rfl, gA, .refl _, gf5, hf5, .nil, ?_, ?_, fun i hi => List.mem_range.mp hi, fun i hi => List.mem_range.mp hi, by rw [List.length_range]; omega, by rw [List.length_range]; omega, Nat.zero_le _, hL⟩ (fun n σ H6 hn iv => ?_) fun σ H6 iv => ?_
  · obtain ⟨a1, e1, h1⟩ := is_nats (hra3.up (gr4.g.trans gr5.g))
    cases e1
    exact h1
  · obtain ⟨a1, e1, h1⟩ := is_nats (hca4.up gr5.g)
    cases e1
    exact h1
  · obtain ⟨G6, ra, ca, rows, cols, fs, us, x6, x7, x8, rfl, gr6, s56, gf6, hf6, hus, hra, hca, hrb, hcb, hrl, hcl, hfl, heq⟩ := iv
    rw [en] at hn
    obtain ⟨m, hm⟩ : ∃ m, h + w - n = m + 1 := ⟨h + w - n - 1, by omega⟩
    have hm2 : h + w - (n + 1) = m := by omega
    rw [hm] at heq
    rw [hm2]
    unfold LP.lawLay at heq
    have sa6 := sa5.trans s56
    -- full
    refine ⟨.ref ra, rfl, ra, rfl, ⟨_, gr6.s.seq hra⟩, ?_⟩
    refine lc_filter (K := K) (fun i => (cols.filter fun j => !LP.cell p i j).isEmpty) id hra gr6.s (by omega) (fun i G7 H7 hi gr7 C1 C0 k1 k0 => ?_) fun D7 G7 H7 gr7 hD7 => ?_
    · have hih := hrb i hi
      refine ⟨rfl, ?_⟩
      refine ⟨.ref ca, rfl, ca, rfl, ⟨_, gr7.s.seq (gr7.g.seq hca)⟩, ?_⟩
      refine lc_filter (K := K) (fun j => !LP.cell p i j) (fun _ => 1) (gr7.g.seq hca) gr7.s (by omega) (fun j G8 H8 hj gr8 C1' C0' k1' k0' => ?_) fun D8 G8 H8 gr8 hD8 => ?_
      · obtain ⟨rr, hr1, hr2, hr3⟩ := pic_at ok hih (hcb j hj)
        have ha8 := gr8.s.tup (gr8.g.tup (gr7.g.tup (sa6.tup ha)))
        refine ⟨rfl, .ref a, rfl, nV i, rfl, a, _, (i : Int), rV rr, rfl, rfl, ha8, atI_nat hr1, nV j, rfl, rowS rr, (j : Int), _, rfl, rfl, hr2, hr3, rfl, _, rfl, ?_⟩
        refine ite2 (fun c => ?_) (fun c => ?_)
        · rw [ofs_dot, white_eq] at c
          exact k1' c _ _ (.here gr8.s)
        · rw [ofs_dot, white_eq] at c
          exact k0' (Bool.eq_false_iff.mpr c) _ _ (.here gr8.s)
      · refine ⟨small_line (by decide), fun e9 ne9 => ?_⟩
        have gr9 := Grow.new (M := M0) gr8.s ne9 (.lst [])
        refine ⟨_, eLs.to [], (hD8.up gr9.g).up gr9.s, Dp.up (.lst (.of upd_same) .nil) gr9.s, eLs.shaped (by decide) _, eLs.shaped (by decide) [], ?_⟩
        rw [eLs.eqv, map_emp]
        have gr89 := gr8.trans gr9
        refine ⟨_, rfl, ite2 (fun c => ?_) (fun c => ?_)⟩
        · exact ⟨_, rfl, k1 c _ _ gr89⟩
        · exact k0 (Bool.eq_false_iff.mpr c) _ _ gr89
    rw [List.map_id] at hD7
    have hD7 : Is K G7 eLs (.ref D7) (LP.fullR (LP.cell p) rows cols) := hD7
    obtain ⟨D', eD, hD7s⟩ := is_nats hD7
    cases eD
    have hca7 := gr7.g.seq hca
    have hra7 := gr7.g.seq hra
    -- empty
    refine ⟨.ref ca, rfl, ca, rfl, ⟨_, gr7.s.seq hca7⟩, ?_⟩
    refine lc_filter (K := K) (fun j => (rows.filter fun i => LP.cell p i j).isEmpty) id hca7 gr7.s (by omega) (fun j G8 H8 hj gr8 C1 C0 k1 k0 => ?_) fun D8 G8 H8 gr8 hD8 => ?_
    · have hjw := hcb j hj
      refine ⟨rfl, ?_⟩
      refine ⟨.ref ra, rfl, ra, rfl, ⟨_, gr8.s.seq (gr8.g.seq hra7)⟩, ?_⟩
      refine lc_filter (K := K) (fun i => LP.cell p i j) (fun _ => 1) (gr8.g.seq hra7) gr8.s (by omega) (fun i G9 H9 hi gr9 C1' C0' k1' k0' => ?_) fun D9 G9 H9 gr9 hD9 => ?_
      · obtain ⟨rr, hr1, hr2, hr3⟩ := pic_at ok (hrb i hi) hjw
        have ha9 := gr9.s.tup (gr9.g.tup (gr8.g.tup (gr7.g.tup (sa6.tup ha))))
        refine ⟨rfl, .ref a, rfl, nV i, rfl, a, _, (i : Int), rV rr, rfl, rfl, ha9, atI_nat hr1, nV j, rfl, rowS rr, (j : Int), _, rfl, rfl, hr2, hr3, rfl, _, rfl, ?_⟩
        refine ite2 (fun c => ?_) (fun c => ?_)
        · rw [ofs_hash, black_eq] at c
          exact k1' c _ _ (.here gr9.s)
        · rw [ofs_hash, black_eq] at c
          exact k0' (Bool.eq_false_iff.mpr c) _ _ (.here gr9.s)
      · refine ⟨small_line (by decide), fun e9 ne9 => ?_⟩
        have gr10 := Grow.new (M := M0) gr9.s ne9 (.lst [])
        refine ⟨_, eLs.to [], (hD9.up gr10.g).up gr10.s, Dp.up (.lst (.of upd_same) .nil) gr10.s, eLs.shaped (by decide) _, eLs.shaped (by decide) [], ?_⟩
        rw [eLs.eqv, map_emp]
        have gr90 := gr9.trans gr10
        refine ⟨_, rfl, ite2 (fun c => ?_) (fun c => ?_)⟩
        · exact ⟨_, rfl, k1 c _ _ gr90⟩
        · exact k0 (Bool.eq_false_iff.mpr c) _ _ gr90
    rw [List.map_id] at hD8
    have hD8 : Is K G8 eLs (.ref D8) (LP.emptyC (LP.cell p) rows cols) := hD8
    obtain ⟨D', eD, hD8s⟩ := is_nats hD8
    cases eD
    have g68 := gr7.trans gr8
    have hf8 := g68.h f _ id hf6
    have gf8 : G8 f = none := (g68.old f (by rw [hf6]; exact fun z => by cases z)).trans gf6
    -- if full != []
    refine ⟨_, rfl, small_line (by decide), fun e9 ne9 => ?_⟩
    have gr9 := Grow.new (M := M0) gr8.s ne9 (.lst [])
    have he9 : Is K (upd G8 e9 (.lst [])) eLs (.ref e9) [] := .lst (.of upd_same) .nil
    have hf9 : upd H8 e9 (.lst []) f = some (.lst us) := gr9.h f _ id hf8
    have gf9 : upd G8 e9 (.lst []) f = none := (gr9.old f (by rw [hf8]; exact fun z => by cases z)).trans gf8
    generalize upd G8 e9 (.lst []) = G9 at gr9 he9 gf9
    generalize upd H8 e9 (.lst []) = H9 at gr9 hf9
    have g69 := g68.trans gr9
    refine ⟨_, _, (hD7.up (gr8.g.trans gr9.g)).up gr9.s, he9.up gr9.s, eLs.shaped (by decide) _, eLs.shaped (by decide) _, ?_⟩
    rw [eLs.eqv]
    have hus9 := hus.up g69.g
    have hra9 := g69.g.seq hra
    have hca9 := g69.g.seq hca
    have hD79 := (gr8.g.trans gr9.g).seq hD7s
    have hD89 := gr9.g.seq hD8s
    have ulen : us.length < sizeLine := by rw [hus.len, List.length_map, sizeLine_eq]; omega
    refine ⟨_, rfl, ite2 (fun c => ?_) (fun c => ?_)⟩
    · have c2 : LP.fullR (LP.cell p) rows cols ≠ [] := fun z => by rw [z] at c; cases c
      rw [if_pos c2] at heq
      refine ⟨.ref f, rfl, .inl ⟨rfl, _, .of hf9⟩, _, rfl, f, us, _, rfl, rfl, hf9, ulen, ?_⟩
      have gr10 := (gr6.trans g69).put nf gf9 (.lst (us ++ [V.ref D7]))
      have hf10 : upd H9 f (.lst (us ++ [V.ref D7])) f = some (.lst (us ++ [V.ref D7])) := upd_same
      have hus10 : DpAll K G9 (us ++ [V.ref D7]) ((fs ++ [LP.fullR (LP.cell p) rows cols]).map eLs.to) := by
        rw [List.map_append]
        exact hus9.app (.one (nats_is hD79))
      generalize upd H9 f (.lst (us ++ [V.ref D7])) = H10 at gr10 hf10
      refine ⟨.ref ra, rfl, ra, rfl, ⟨_, gr10.s.seq hra9⟩, ?_⟩
      refine lc_filter (K := K) (fun i => !(LP.fullR (LP.cell p) rows cols).contains i) id hra9 gr10.s (by omega) (fun i G11 H11 hi gr11 C1 C0 k1 k0 => ?_) fun D11 G11 H11 gr11 hD11 => ?_
      · refine ⟨rfl, nV i, rfl, _, rfl, D7, _, rfl, .inl (gr11.s.seq (gr11.g.seq hD79)), rfl, flat_nats _, _, rfl, ?_⟩
        refine ite2 (fun d => ?_) (fun d => ?_)
        · have d2 : (!inV (nV i) ((LP.fullR (LP.cell p) rows cols).map nV)) = true := d
          rw [in_nats] at d2
          exact ⟨_, rfl, k1 d2 _ _ (.here gr11.s)⟩
        · have d2 : ¬ (!inV (nV i) ((LP.fullR (LP.cell p) rows cols).map nV)) = true := d
          rw [in_nats] at d2
          exact k0 (Bool.eq_false_iff.mpr d2) _ _ (.here gr11.s)
      · rw [List.map_id] at hD11
        obtain ⟨D', eD, hDs⟩ := is_nats hD11
        cases eD
        refine ⟨G11, D11, ca, LP.minus rows (LP.fullR (LP.cell p) rows cols), cols, fs ++ [LP.fullR (LP.cell p) rows cols], us ++ [V.ref D7], _, _, _, rfl, gr10.trans gr11, (s56.trans g69.g).trans gr11.g, ?_, gr11.h f _ id hf10, hus10.up gr11.g, hDs, gr11.g.seq hca9, fun i hi => hrb i (LP.mem_minus.mp hi).1, hcb, Nat.le_trans (List.length_filter_le _ _) hrl, hcl, by rw [List.length_append, List.length_singleton]; omega, ?_⟩
        · exact (gr11.old f (by rw [hf10]; exact fun z => by cases z)).trans gf9
        · rw [List.append_assoc]
          exact heq
    · have c2 : ¬ LP.fullR (LP.cell p) rows cols ≠ [] := fun z => c (by rw [decide_eq_false z]; rfl)
      rw [if_neg c2] at heq
      refine ⟨_, rfl, small_line (by decide), fun e9' ne9' => ?_⟩
      have gr10 := Grow.new (M := M0) gr9.s ne9' (.lst [])
      have he10 : Is K (upd G9 e9' (.lst [])) eLs (.ref e9') [] := .lst (.of upd_same) .nil
      have hf10 : upd H9 e9' (.lst []) f = some (.lst us) := gr10.h f _ id hf9
      have gf10 : upd G9 e9' (.lst []) f = none := (gr10.old f (by rw [hf9]; exact fun z => by cases z)).trans gf9
      generalize upd G9 e9' (.lst []) = G10 at gr10 he10 gf10
      generalize upd H9 e9' (.lst []) = H10 at gr10 hf10
      have g60 := g69.trans gr10
      refine ⟨_, _, (hD8.up (gr9.g.trans gr10.g)).up gr10.s, he10.up gr10.s, eLs.shaped (by decide) _, eLs.shaped (by decide) _, ?_⟩
      rw [eLs.eqv]
      have hra10 := gr10.g.seq hra9
      have hca10 := gr10.g.seq hca9
      have hD810 := gr10.g.seq hD89
      refine ⟨_, rfl, ite2 (fun d => ?_) (fun d => ?_)⟩
      · have d2 : LP.emptyC (LP.cell p) rows cols ≠ [] := fun z => by rw [z] at d; cases d
        rw [if_pos d2] at heq
        have hel : (LP.emptyC (LP.cell p) rows cols).length ≤ 100 := Nat.le_trans (List.length_filter_le _ _) (by omega)
        refine ⟨.ref f, rfl, .inl ⟨rfl, _, .of hf10⟩, .ref D8, rfl, D8, rfl, ⟨_, gr10.s.seq hD810⟩, ?_⟩
        refine lc_filter (K := K) (fun _ => true) (h + ·) hD810 gr10.s (by omega) (fun j G11 H11 hj gr11 C1 C0 k1 k0 => ?_) fun D11 G11 H11 gr11 hD11 => ?_
        · exact ⟨rfl, nV h, rfl, nV j, rfl, _, _, rfl, rfl, k1 rfl _ _ (.here gr11.s)⟩
        have hf11 := gr11.h f _ id hf10
        have gf11 : G11 f = none := (gr11.old f (by rw [hf10]; exact fun z => by cases z)).trans gf10
        rw [List.filter_eq_self.mpr (fun _ _ => rfl)] at hD11
        refine ⟨f, us, .ref D11, rfl, rfl, hf11, ulen, ?_⟩
        have gr12 := ((gr6.trans g60).trans gr11).put nf gf11 (.lst (us ++ [V.ref D11]))
        have hf12 : upd H11 f (.lst (us ++ [V.ref D11])) f = some (.lst (us ++ [V.ref D11])) := upd_same
        have hus12 : DpAll K G11 (us ++ [V.ref D11]) ((fs ++ [(LP.emptyC (LP.cell p) rows cols).map (h + ·)]).map eLs.to) := by
          rw [List.map_append]
          exact ((hus9.up gr10.g).up gr11.g).app (.one hD11)
        generalize upd H11 f (.lst (us ++ [V.ref D11])) = H12 at gr12 hf12
        have hca12 := gr11.g.seq hca10
        refine ⟨.ref ca, rfl, ca, rfl, ⟨_, gr12.s.seq hca12⟩, ?_⟩
        refine lc_filter (K := K) (fun i => !(LP.emptyC (LP.cell p) rows cols).contains i) id hca12 gr12.s (by omega) (fun i G13 H13 hi gr13 C1 C0 k1 k0 => ?_) fun D13 G13 H13 gr13 hD13 => ?_
        · refine ⟨rfl, nV i, rfl, _, rfl, D8, _, rfl, .inl (gr13.s.seq (gr13.g.seq (gr11.g.seq hD810))), rfl, flat_nats _, _, rfl, ?_⟩
          refine ite2 (fun d => ?_) (fun d => ?_)
          · have d2 : (!inV (nV i) ((LP.emptyC (LP.cell p) rows cols).map nV)) = true := d
            rw [in_nats] at d2
            exact ⟨_, rfl, k1 d2 _ _ (.here gr13.s)⟩
          · have d2 : ¬ (!inV (nV i) ((LP.emptyC (LP.cell p) rows cols).map nV)) = true := d
            rw [in_nats] at d2
            exact k0 (Bool.eq_false_iff.mpr d2) _ _ (.here gr13.s)
        · rw [List.map_id] at hD13
          obtain ⟨D', eD, hDs⟩ := is_nats hD13
          cases eD
          refine ⟨G13, ra, D13, rows, LP.minus cols (LP.emptyC (LP.cell p) rows cols), fs ++ [(LP.emptyC (LP.cell p) rows cols).map (h + ·)], us ++ [V.ref D11], _, _, _, rfl, gr12.trans gr13, ((s56.trans g60.g).trans gr11.g).trans gr13.g, ?_, gr13.h f _ id hf12, hus12.up gr13.g, gr13.g.seq (gr11.g.seq hra10), hDs, hrb, fun i hi => hcb i (LP.mem_minus.mp hi).1, hrl, Nat.le_trans (List.length_filter_le _ _) hcl, by rw [List.length_append, List.length_singleton]; omega, ?_⟩
          · exact (gr13.old f (by rw [hf12]; exact fun z => by cases z)).trans gf11
          · rw [List.append_assoc]
            exact heq
      · have d2 : ¬ LP.emptyC (LP.cell p) rows cols ≠ [] := fun z => d (by rw [decide_eq_false z]; rfl)
        rw [if_neg d2] at heq
        exact ⟨G10, ra, ca, rows, cols, fs, us, _, _, _, rfl, gr6.trans g60, s56.trans g60.g, gf10, hf10, hus9.up gr10.g, hra10, hca10, hrb, hcb, hrl, hcl, by omega, heq⟩
  · obtain ⟨G6, ra, ca, rows, cols, fs, us, x6, x7, x8, rfl, gr6, s56, gf6, hf6, hus, hra, hca, hrb, hcb, hrl, hcl, hfl, heq⟩ := iv
    rw [en, Nat.sub_self] at heq
    have heq2 : fs = LP.layersOf h w p := by
      rw [← heq]
      show fs = fs ++ []
      rw [List.append_nil]
    refine ⟨.ref f, rfl, q _ _ _ (gr6.pub nf gf6 hf6) ?_⟩
    rw [← heq2]
    exact .lst (.of upd_same) (hus.up fun b o e => by rw [upd_ne (ne_of_none e gf6)]; exact e)
end
end LW
/-! the law's core, difference, orders -/
namespace LW
open PySem PySem.Spec L2
open PyProof.Rows hiding St RelV
open C8 (Cal pe_c pe_gc)
open StX (pa_star)
theorem ne_sign (a b : Bool) : (!decide (V.str ⟨#[sign a]⟩ = V.str ⟨#[sign b]⟩)) = (b != a) := by cases a <;> cases b <;> decide +kernel
abbrev insF (F : List (List Nat)) (x : Nat) : List (List Nat) := F.flatMap (LP.insAll x)
theorem ins_len (x : Nat) (t : List Nat) : (LP.insAll x t).length = t.length + 1 := by
  unfold LP.insAll
  rw [List.length_map, List.length_range]
theorem ins_each {x : Nat} {t o : List Nat} (h : o ∈ LP.insAll x t) : o.length = t.length + 1 := by
  obtain ⟨i, hi, rfl⟩ := LP.mem_insAll.mp h
  rw [List.length_append, List.length_cons, List.length_take, List.length_drop]
  omega
theorem lawF_facts : ∀ (L : List Nat) (F : List (List Nat)) (n : Nat), (∀ o ∈ F, o.length = n) → (∀ o ∈ L.foldl insF F, o.length = n + L.length)
  | [], F, n, h => h
  | x :: L, F, n, h => fun o ho => by
    have := lawF_facts L (insF F x) (n + 1) (fun o2 ho2 => by
      obtain ⟨t, ht, h2⟩ := List.mem_flatMap.mp ho2
      rw [ins_each h2, h t ht]) o ho
    rw [this, List.length_cons]
    omega
theorem lawF_len : ∀ (L : List Nat) (F : List (List Nat)) (n c : Nat), (∀ o ∈ F, o.length = n) → n + L.length ≤ 6 → F.length ≤ c → (L.foldl insF F).length ≤ c * 6 ^ L.length
  | [], F, n, c, h, hn, hc => by
    show F.length ≤ c * 1
    omega
  | x :: L, F, n, c, h, hn, hc => by
    rw [List.length_cons] at hn
    have h1 : (insF F x).length ≤ c * 6 := by
      have : (insF F x).length = F.length * (n + 1) := LP.flatMap_len fun t ht => by rw [ins_len, h t ht]
      rw [this]
      exact Nat.mul_le_mul hc (by omega)
    have := lawF_len L (insF F x) (n + 1) (c * 6) (fun o2 ho2 => by
      obtain ⟨t, ht, h2⟩ := List.mem_flatMap.mp ho2
      rw [ins_each h2, h t ht]) (by omega) h1
    rw [List.length_cons, Nat.pow_succ]
    show ((L.foldl insF (insF F x))).length ≤ _
    rw [Nat.mul_comm (6 ^ L.length) 6, ← Nat.mul_assoc]
    exact this
section
variable {P : Program} {w : World} {K : PySem.W.Frag} {mg : Str → Option Value} {base : Heap}
/-! law_core -/
abbrev s_law_core : Stmt := topS 54
abbrev n_law_core : List Str := ["_law_picture_here", "_law_told", "_law_some", "_law_line"]
theorem sc_law_core : FnScope n_law_core ["_law_picture_here"] (defScope s_law_core) := ⟨rfl, rfl, rfl, by decide +kernel, rfl, by decide +kernel, by decide +kernel⟩
def sp_law_core (K : PySem.W.Frag) : Sp := fun vs H Q _ => ∃ (G : Hp) (v : V) (h w : Nat) (p : LP.Pic), vs = [v] ∧ Same G H ∧ Is K G eP v p ∧ PicOk h w p ∧ ∀ v' L G' H', Grow M0 G H G' H' → Is K G' eLs v' L → Q v' H'
theorem ok_law_core (T : Txt mg) {f : Addr} {fd : FuncData} (F : Fun K "_law_core" "_law_core" s_law_core f fd) (c_law_layers : Cal P w K mg base 1 "_law_layers" (sp_law_layers K) []) : FnOk P w K mg base CX0 2 f fd ["_law_picture_here"] (sp_law_core K) := by
  refine F.ok sc_law_core (fun vs H Q E h => ?_) (fun cdv A outer s H vs Q E hr h => ?_)
  · obtain ⟨G, v, h, w, p, rfl, _⟩ := h
    rfl
  obtain ⟨G, v, h, w, p, rfl, sG, hv, ok, q⟩ := h
  obtain ⟨a, rfl, ha⟩ := is_pic hv
  refine ⟨_, (pss_cons (ps_set (i := 1) sc_law_core.nd rfl (.inr rfl) (pe_lst pa_nil))
      (pss_cons (ps_for PassesOwn.never rfl (k_piL K rfl (pe_c c_law_layers hr (by decide) rfl (pa_cons (pv 0) pa_nil))) (pg_name (i := 2) sc_law_core.nd rfl (.inl rfl)) (pss_one (ps_set (i := 1) sc_law_core.nd rfl (.inr rfl) (pe_op (k_catL K) (pv 1) (pv 2)))))
      (pss_one (ps_ret (pe_lc (own := [("_law_line", 3)]) rfl sc_law_core.nd (pi_range1 rfl T.range_ (pa_cons (pe_op op_add (pe_callB (k_len K) (by rfl) T.len_ PySem.boot_len (pa_cons (pv 0) pa_nil)) (pe_callB call_len_str (by rfl) T.len_ PySem.boot_len (pa_cons (pe_ix (k_ixT K) (pv 0) pe_int (fun _ _ => rfl)) pa_nil))) pa_nil)) (blkOk_by (own := [("_law_line", 3)]) (N := n_law_core) (sc := defScope s_law_core) (by decide +kernel)) (fun _ _ _ _ _ => (pg_name (i := 3) sc_law_core.nd rfl (.inl rfl))) (fun _ _ _ _ _ => pts_one (pt_cmpR (k_notin K) (pv 3) (pv 1) (by rfl))) (fun _ _ _ _ _ => (pv 3))))))), ?_⟩
  have hlen : (p.map rV).length = h := by rw [List.length_map, ok.wf.len]
  obtain ⟨r0, e0, l0⟩ := ok.row (i := 0) (by have := ok.h1; omega)
  have h3 := ok.h3
  have w3 := ok.w3
  refine ⟨small_line (by decide), fun f nf => ?_⟩
  have gr1 := Grow.new (M := M0) sG nf (.lst [])
  have hf1 : Is K (upd G f (.lst [])) eLs (.ref f) [] := .lst (.of upd_same) .nil
  generalize upd G f (.lst []) = G1 at gr1 hf1
  generalize upd H f (.lst []) = H1 at gr1
  refine ⟨.ref a, rfl, G1, .ref a, h, w, p, rfl, gr1.s, hv.up gr1.g, ok, fun ly G2 H2 gr2 hly => ?_⟩
  obtain ⟨b, us, rfl, hb, hus⟩ := is_list hly
  have hbl := all_len hus
  have hL6 := LP.layers_len h w p
  refine ⟨b, rfl, ⟨_, gr2.s.seq hb⟩, ?_⟩
  refine for_run (gw_list hb) (fun i σ G' H' => Grow M0 G H G' H' ∧ Same G2 G' ∧ ∃ fa L x2, σ = [some (.ref a), some (.ref fa), x2, none] ∧ SqL K G' fa (L.map nV) ∧ L.length ≤ i * 3) (fun i σ G' H' iv => ⟨iv.2.1, iv.1.s⟩) ⟨gr1.trans gr2, .refl _, f, [], none, rfl, ?_, Nat.zero_le _⟩ (fun i x σ G3 H3 G4 H4 hi iv gr4 hy => ?_) fun σ G' H' iv => ?_
  · obtain ⟨a1, e1, h1⟩ := is_nats (hf1.up gr2.g)
    cases e1
    exact h1
  · obtain ⟨gr3, s3, fa, L, x2, rfl, hfa, hLl⟩ := iv
    rw [hbl] at hi
    obtain ⟨T1, hT1, hx⟩ := all_at (hus.up (s3.trans gr4.g)) hy
    obtain ⟨c, rfl, hc⟩ := is_nats hx
    have hTl := (LP.layer_small h3 w3 (List.mem_of_getElem? hT1)).len
    refine ⟨.ref fa, rfl, .ref c, rfl, G4, fa, c, _, _, rfl, rfl, gr4.s, gr4.g.seq hfa, hc, (by rw [List.length_map, List.length_map]; omega), fun d G5 H5 gr5 h5 => ?_⟩
    rw [← List.map_append] at h5
    exact ⟨G5, (gr3.trans gr4).trans gr5, (s3.trans gr4.g).trans gr5.g, d, L ++ T1, _, rfl, h5, by rw [List.length_append]; omega⟩
  · obtain ⟨gr3, s3, fa, L, x2, rfl, hfa, hLl⟩ := iv
    have ha3 := gr3.s.tup (gr3.g.tup ha)
    refine ⟨.ref a, rfl, a, _, rfl, .inr ha3, .ref a, rfl, a, _, 0, rV r0, rfl, rfl, ha3, atI_nat (at_map e0), rowS r0, rfl, by rw [rowS_len, l0]; exact small_line (by omega), _, _, rfl, rfl, ((h + w : Nat) : Int), ?_, by omega, by omega, ?_⟩
    · rw [hlen, rowS_len, l0]
      rfl
    refine lc_pure (K := K) (fun i => if (!L.contains i) = true then some (eN.to i) else none) gw_range gr3.s (by rw [Int.toNat_natCast]; omega) (fun i x G5 H5 hi gr5 hy C1 C0 k1 k0 => ?_) fun D G5 H5 gr5 hD => ?_
    · subst hy
      refine ⟨rfl, nV i, rfl, _, rfl, fa, _, rfl, .inl (gr5.s.seq (gr5.g.seq hfa)), rfl, flat_nats _, _, rfl, ?_⟩
      refine ite2 (fun d => ?_) (fun d => ?_)
      · have d2 : (!inV (nV i) (L.map nV)) = true := d
        rw [in_nats] at d2
        exact ⟨_, rfl, k1 _ _ _ _ (if_pos d2) (.here gr5.s) (.int _)⟩
      · have d2 : ¬ (!inV (nV i) (L.map nV)) = true := d
        rw [in_nats] at d2
        exact k0 (if_neg d2) _ _ (.here gr5.s)
    · rw [fm_range (fun i => !L.contains i) eN.to] at hD
      exact q _ _ _ _ (gr3.trans gr5) hD
/-! law_differ -/
abbrev s_law_differ : Stmt := topS 55
abbrev n_law_differ : List Str := ["_law_start_here", "_law_goal", "_law_found", "_law_at", "_law_spot"]
theorem sc_law_differ : FnScope n_law_differ ["_law_start_here", "_law_goal"] (defScope s_law_differ) := ⟨rfl, rfl, rfl, by decide +kernel, rfl, by decide +kernel, by decide +kernel⟩
def sp_law_differ (K : PySem.W.Frag) : Sp := fun vs H Q _ => ∃ (G : Hp) (u v : V) (h w : Nat) (s g : LP.Pic), vs = [u, v] ∧ Same G H ∧ Is K G eP u s ∧ Is K G eP v g ∧ PicOk h w s ∧ PicOk h w g ∧ ∀ v' G' H', Grow M0 G H G' H' → Is K G' eCs v' (LP.diff h w s g) → Q v' H'
theorem ok_law_differ (T : Txt mg) {f : Addr} {fd : FuncData} (F : Fun K "_law_differ" "_law_differ" s_law_differ f fd) : FnOk P w K mg base CX0 1 f fd ["_law_start_here", "_law_goal"] (sp_law_differ K) := by
  refine F.ok sc_law_differ (fun vs H Q E h => ?_) (fun cdv A outer s H vs Q E hr h => ?_)
  · obtain ⟨G, u, v, h, w, p, g, rfl, _⟩ := h
    rfl
  obtain ⟨G, u, v, h, w, p, g, rfl, sG, hu, hv, okp, okg, q⟩ := h
  obtain ⟨a, rfl, ha⟩ := is_pic hu
  obtain ⟨b, rfl, hb⟩ := is_pic hv
  refine ⟨_, (pss_cons (ps_set (i := 2) sc_law_differ.nd rfl (.inl rfl) (pe_lst pa_nil))
      (pss_cons (ps_for PassesOwn.never rfl (pi_range1 rfl T.range_ (pa_cons (pe_callB (k_len K) (by rfl) T.len_ PySem.boot_len (pa_cons (pv 0) pa_nil)) pa_nil)) (pg_name (i := 3) sc_law_differ.nd rfl (.inr rfl)) (pss_one (ps_set (i := 2) sc_law_differ.nd rfl (.inl rfl) (pe_op (k_catL K) (pv 2) (pe_lc (own := [("_law_spot", 4)]) rfl sc_law_differ.nd (pi_range1 rfl T.range_ (pa_cons (pe_callB call_len_str (by rfl) T.len_ PySem.boot_len (pa_cons (pe_ix (k_ixT K) (pv 0) pe_int (fun _ _ => rfl)) pa_nil)) pa_nil)) (blkOk_by (own := [("_law_spot", 4)]) (N := n_law_differ) (sc := defScope s_law_differ) (by decide +kernel)) (fun _ _ _ _ _ => (pg_name (i := 4) sc_law_differ.nd rfl (.inl rfl))) (fun _ _ _ _ _ => pts_one (pt_cmpR op_ne (pe_ix ix_str (pe_ix (k_ixT K) (pv 0) (pv 3) (fun _ _ => rfl)) (pv 4) (fun _ _ => rfl)) (pe_ix ix_str (pe_ix (k_ixT K) (pv 1) (pv 3) (fun _ _ => rfl)) (pv 4) (fun _ _ => rfl)) (nomark _))) (fun _ _ _ _ _ => (pe_tup (pa_cons (pv 3) (pa_cons (pv 4) pa_nil)))))))))
      (pss_one (ps_ret (pv 2))))), ?_⟩
  have hlen : (p.map rV).length = h := by rw [List.length_map, okp.wf.len]
  obtain ⟨r0, e0, l0⟩ := okp.row (i := 0) (by have := okp.h1; omega)
  have h3 := okp.h3
  have w3 := okp.w3
  refine ⟨small_line (by decide), fun f nf => ?_⟩
  have gr1 := Grow.new (M := M0) sG nf (.lst [])
  have hf1 : Is K (upd G f (.lst [])) eCs (.ref f) [] := .lst (.of upd_same) .nil
  generalize upd G f (.lst []) = G1 at gr1 hf1
  generalize upd H f (.lst []) = H1 at gr1
  refine ⟨.ref a, rfl, a, _, rfl, .inr (gr1.s.tup (gr1.g.tup ha)), ((h : Nat) : Int), by rw [hlen], by omega, by omega, ?_⟩
  have en : ((h : Nat) : Int).toNat = h := Int.toNat_natCast h
  refine for_range (fun i σ H' => ∃ (G' : Hp) (fnd : V) (x3 : Option V), σ = [some (.ref a), some (.ref b), some fnd, x3, none] ∧ Grow M0 G H G' H' ∧ Is K G' eCs fnd ((List.range i).flatMap fun i => ((List.range w).filter fun j => LP.cell g i j != LP.cell p i j).map fun j => (i, j))) ⟨G1, _, none, rfl, gr1, hf1⟩ (fun i σ H' hi iv => ?_) fun σ H' iv => ?_
  · obtain ⟨G2, fnd, x3, rfl, gr2, hf2⟩ := iv
    rw [en] at hi
    have e1 : (0 : Int) + (i : Int) = ((i : Nat) : Int) := by omega
    rw [e1]
    have ha2 := gr2.g.tup ha
    have hb2 := gr2.g.tup hb
    refine ⟨fnd, rfl, .ref a, rfl, a, _, 0, rV r0, rfl, rfl, gr2.s.tup ha2, atI_nat (at_map e0), rowS r0, rfl, by rw [rowS_len, l0]; exact small_line (by omega), ((w : Nat) : Int), by rw [rowS_len, l0], by omega, by omega, ?_⟩
    have ew : ((w : Nat) : Int).toNat = w := Int.toNat_natCast w
    refine lc_pure (K := K) (fun j => if (LP.cell g i j != LP.cell p i j) = true then some (eC.to (i, j)) else none) gw_range gr2.s (by rw [ew]; omega) (fun j x G3 H3 hj gr3 hy C1 C0 k1 k0 => ?_) fun D G3 H3 gr3 hD => ?_
    · subst hy
      rw [ew] at hj
      obtain ⟨rp, p1, p2, p3⟩ := pic_at okp hi hj
      obtain ⟨rg, q1, q2, q3⟩ := pic_at okg hi hj
      refine ⟨rfl, .ref a, rfl, nV i, rfl, a, _, (i : Int), rV rp, rfl, rfl, gr3.s.tup (gr3.g.tup ha2), atI_nat p1, nV j, rfl, rowS rp, (j : Int), _, rfl, rfl, p2, p3, .ref b, rfl, nV i, rfl, b, _, (i : Int), rV rg, rfl, rfl, gr3.s.tup (gr3.g.tup hb2), atI_nat q1, nV j, rfl, rowS rg, (j : Int), _, rfl, rfl, q2, q3, rfl, _, rfl, ?_⟩
      refine ite2 (fun c => ?_) (fun c => ?_)
      · rw [ne_sign] at c
        refine ⟨nV i, rfl, nV j, rfl, (by show 2 ≤ _; exact small_line (by decide)), fun t nt => ?_⟩
        exact k1 _ _ _ _ (if_pos c) (.new gr3.s nt _) (cell_is (.of upd_same))
      · rw [ne_sign] at c
        exact k0 (if_neg c) _ _ (.here gr3.s)
    · rw [ew, fm_range (fun j => LP.cell g i j != LP.cell p i j) (fun j => eC.to (i, j))] at hD
      have hD2 : Is K G3 eCs (.ref D) (((List.range w).filter fun j => LP.cell g i j != LP.cell p i j).map fun j => (i, j)) := by
        show Dp K G3 (.ref D) (.list (List.map eC.to _))
        rw [List.map_map]
        exact hD
      obtain ⟨D', ds, eD, hDs, hds⟩ := is_list hD2
      cases eD
      obtain ⟨fa, fs, rfl, hfa, hfs⟩ := is_list (hf2.up gr3.g)
      have hdl := all_len hds
      have hfl := all_len hfs
      have hb1 := flat_len (F := fun i => ((List.range w).filter fun j => LP.cell g i j != LP.cell p i j).map fun j => (i, j)) (c := 3) (fun k => by
        rw [List.length_map]
        exact Nat.le_trans (List.length_filter_le _ _) (by rw [List.length_range]; exact w3)) i
      have hb2' : (((List.range w).filter fun j => LP.cell g i j != LP.cell p i j).map fun j => (i, j)).length ≤ 3 := by
        rw [List.length_map]
        exact Nat.le_trans (List.length_filter_le _ _) (by rw [List.length_range]; exact w3)
      refine ⟨G3, fa, D, fs, ds, rfl, rfl, gr3.s, hfa, hDs, by omega, fun c4 G4 H4 gr4 h4 => ?_⟩
      refine ⟨G4, .ref c4, _, rfl, (gr2.trans gr3).trans gr4, ?_⟩
      rw [List.range_succ, List.flatMap_append, List.flatMap_cons, List.flatMap_nil, List.append_nil]
      refine .lst h4 ?_
      rw [List.map_append]
      exact (hfs.app hds).up gr4.g
  · obtain ⟨G2, fnd, x3, rfl, gr2, hf2⟩ := iv
    rw [en] at hf2
    exact ⟨fnd, rfl, q _ _ _ gr2 hf2⟩
end
end LW
/-! the law's orders, its least set -/
namespace LW
open PySem PySem.Spec L2
open PyProof.Rows hiding St RelV
open C8 (Cal pe_c pe_gc)
open StX (pa_star)
theorem fold_snoc (L : List Nat) (x : Nat) (F : List (List Nat)) : (L ++ [x]).foldl insF F = insF (L.foldl insF F) x := by
  rw [List.foldl_append]
  rfl
/-- sorted numbers are the numbers of an order of them -/
theorem up_of_perm {ys : List Int} {L : List Nat} (h : ys.Perm (LP.up L)) : ∃ M : List Nat, ys = LP.up M ∧ M.Perm L := by
  have e1 : ∀ M : List Nat, (LP.up M).map Int.toNat = M := fun M => by
    unfold LP.up
    rw [List.map_map]
    exact (List.map_congr_left fun x _ => rfl).trans (List.map_id M)
  refine ⟨ys.map Int.toNat, ?_, ?_⟩
  · have : ∀ y ∈ ys, 0 ≤ y := fun y hy => by
      obtain ⟨x, _, rfl⟩ := List.mem_map.mp (h.mem_iff.mp hy)
      exact Int.natCast_nonneg x
    unfold LP.up
    rw [List.map_map]
    refine ((List.map_congr_left fun y hy => ?_).trans (List.map_id ys)).symm
    exact Int.toNat_of_nonneg (this y hy)
  · have := h.map Int.toNat
    rw [e1] at this
    exact this
/-- what the law's least set is -/
def IsL (K : PySem.W.Frag) (G : Hp) (v : V) : Option (List (List Nat)) → Prop
  | none => v = .non
  | some Ts => ∃ L, L.Perm Ts.flatten ∧ Is K G eLs v L
theorem lawLeast_step {h : Nat} {L : List Nat} {Ls : List (List Nat)} {left : List (Nat × Nat)} {fnd : List Nat} (d : ¬ left = []) : LP.lawLeast h (L :: Ls) left fnd = LP.lawLeast h Ls (LP.rest h left L) (fnd ++ if LP.rest h left L = [] then LP.needed h left L else L) := by
  conv => lhs; unfold LP.lawLeast
  rw [if_neg d]
theorem filt_any {α : Type} (q : α → Bool) (xs : List α) : (!(xs.filter q).isEmpty) = xs.any q := by
  induction xs with
  | nil => rfl
  | cons x xs ih =>
    by_cases h : q x = true
    · rw [List.filter_cons_of_pos h, List.any_cons, h]
      rfl
    · rw [List.filter_cons_of_neg h, List.any_cons, Bool.eq_false_iff.mpr h, ih, Bool.false_or]
section
variable {P : Program} {w : World} {K : PySem.W.Frag} {mg : Str → Option Value} {base : Heap}
/-! law_orders -/
abbrev s_law_orders : Stmt := topS 57
abbrev n_law_orders : List Str := ["_law_some", "_law_found", "_law_one", "_law_longer", "_law_told", "_law_at"]
theorem sc_law_orders : FnScope n_law_orders ["_law_some"] (defScope s_law_orders) := ⟨rfl, rfl, rfl, by decide +kernel, rfl, by decide +kernel, by decide +kernel⟩
def sp_law_orders (K : PySem.W.Frag) : Sp := fun vs H Q _ => ∃ (G : Hp) (v : V) (L : List Nat), vs = [v] ∧ Same G H ∧ Is K G eLs v L ∧ L.length ≤ 6 ∧ ∀ v' G' H', Grow M0 G H G' H' → Is K G' eLL v' (LP.lawOrders L) → Q v' H'
theorem ok_law_orders (T : Txt mg) {f : Addr} {fd : FuncData} (F : Fun K "_law_orders" "_law_orders" s_law_orders f fd) : FnOk P w K mg base CX0 1 f fd ["_law_some"] (sp_law_orders K) := by
  refine F.ok sc_law_orders (fun vs H Q E h => ?_) (fun cdv A outer s H vs Q E hr h => ?_)
  · obtain ⟨G, v, L, rfl, _⟩ := h
    rfl
  obtain ⟨G, v, L, rfl, sG, hv, h6, q⟩ := h
  obtain ⟨a, rfl, ha⟩ := is_nats hv
  refine ⟨_, (pss_cons (ps_set (i := 1) sc_law_orders.nd rfl (.inl rfl) (pe_lst (pa_cons (pe_lst pa_nil) pa_nil)))
      (pss_cons (ps_for PassesOwn.never rfl (k_piL K rfl (pv 0)) (pg_name (i := 2) sc_law_orders.nd rfl (.inr rfl)) (pss_cons (ps_set (i := 3) sc_law_orders.nd rfl (.inl rfl) (pe_lst pa_nil))
      (pss_cons (ps_for PassesOwn.never rfl (k_piL K rfl (pv 1)) (pg_name (i := 4) sc_law_orders.nd rfl (.inr rfl)) (pss_one (ps_set (i := 3) sc_law_orders.nd rfl (.inl rfl) (pe_op (k_catL K) (pv 3) (pe_lc (own := [("_law_at", 5)]) rfl sc_law_orders.nd (pi_range1 rfl T.range_ (pa_cons (pe_op op_add (pe_callB (k_len K) (by rfl) T.len_ PySem.boot_len (pa_cons (pv 4) pa_nil)) pe_int) pa_nil)) (blkOk_by (own := [("_law_at", 5)]) (N := n_law_orders) (sc := defScope s_law_orders) (by decide +kernel)) (fun _ _ _ _ _ => (pg_name (i := 5) sc_law_orders.nd rfl (.inl rfl))) (fun _ _ _ _ _ => pts_nil) (fun _ _ _ _ _ => (pe_op (k_catL K) (pe_op (k_catL K) (pe_slice (k_slL K) (pv 4) po_none (po_some (pv 5))) (pe_lst (pa_cons (pv 2) pa_nil))) (pe_slice (k_slL K) (pv 4) (po_some (pv 5)) po_none))))))))
      (pss_one (ps_set (i := 1) sc_law_orders.nd rfl (.inl rfl) (pv 3))))))
      (pss_one (ps_ret (pv 1))))), ?_⟩
  have hlen : (L.map nV).length = L.length := List.length_map ..
  refine ⟨small_line (by decide), fun e ne => ?_⟩
  have gr1 := Grow.new (M := M0) sG ne (.lst [])
  have he : Is K (upd G e (.lst [])) eLs (.ref e) [] := .lst (.of upd_same) .nil
  generalize upd G e (.lst []) = G1 at gr1 he
  refine ⟨(by show 1 ≤ _; exact small_line (by decide)), fun e2 ne2 => ?_⟩
  have gr2 := Grow.new (M := M0) gr1.s ne2 (.lst [.ref e])
  have he2 : Is K (upd G1 e2 (.lst [.ref e])) eLL (.ref e2) [[]] := .lst (.of upd_same) (.cons (he.up gr2.g) .nil)
  generalize upd G1 e2 (.lst [.ref e]) = G2 at gr2 he2
  have gr12 := gr1.trans gr2
  have ha2 := gr12.g.seq ha
  refine ⟨.ref a, rfl, a, rfl, ⟨_, gr2.s.seq ha2⟩, ?_⟩
  refine for_run (gw_list ha2) (fun i σ G' H' => Grow M0 G H G' H' ∧ Same G2 G' ∧ ∃ fnd x2 x3 x4, σ = [some (.ref a), some fnd, x2, x3, x4, none] ∧ Is K G' eLL fnd ((L.take i).foldl insF [[]])) (fun i σ G' H' iv => ⟨iv.2.1, iv.1.s⟩) ⟨gr12, .refl _, _, none, none, none, rfl, he2⟩ (fun i x σ G3 H3 G4 H4 hi iv gr4 hy => ?_) fun σ G' H' iv => ?_
  · obtain ⟨gr3, s3, fnd, x2, x3, x4, rfl, hf⟩ := iv
    rw [hlen] at hi
    rw [YV, List.getElem?_map, List.getElem?_eq_getElem hi] at hy
    cases hy
    have htk : L.take (i + 1) = L.take i ++ [L[i]] := by rw [List.take_add_one, List.getElem?_eq_getElem hi]; rfl
    have hfe : ∀ o ∈ (L.take i).foldl insF [[]], o.length = i := fun o ho => by
      have := lawF_facts (L.take i) [[]] 0 (fun o ho => by rw [List.mem_singleton] at ho; rw [ho]; rfl) o ho
      rw [this, List.length_take]
      omega
    have hfn : ((L.take i).foldl insF [[]]).length ≤ 7776 := by
      have h1 := lawF_len (L.take i) [[]] 0 1 (fun o ho => by rw [List.mem_singleton] at ho; rw [ho]; rfl) (by rw [List.length_take]; omega) (by decide)
      have h2 : 6 ^ (L.take i).length ≤ 6 ^ 5 := Nat.pow_le_pow_right (by decide) (by rw [List.length_take]; omega)
      have h3 : 6 ^ 5 = 7776 := by decide
      omega
    rw [htk]
    generalize hF : (L.take i).foldl insF [[]] = F at hf hfe hfn
    -- longer = []
    refine ⟨small_line (by decide), fun e5 ne5 => ?_⟩
    have gr5 := Grow.new (M := M0) gr4.s ne5 (.lst [])
    have he5 : Is K (upd G4 e5 (.lst [])) eLL (.ref e5) [] := .lst (.of upd_same) .nil
    generalize upd G4 e5 (.lst []) = G5 at gr5 he5
    obtain ⟨fa, fs, rfl, hfa, hfs⟩ := is_list (hf.up (gr4.g.trans gr5.g))
    have hfl := all_len hfs
    refine ⟨.ref fa, rfl, fa, rfl, ⟨_, gr5.s.seq hfa⟩, ?_⟩
    refine for_run (gw_list hfa) (fun j σ G' H' => Grow M0 G H G' H' ∧ Same G5 G' ∧ ∃ lng x4, σ = [some (.ref a), some (.ref fa), some (nV L[i]), some lng, x4, none] ∧ Is K G' eLL lng (insF (F.take j) L[i])) (fun i σ G' H' iv => ⟨iv.2.1, iv.1.s⟩) ⟨(gr3.trans gr4).trans gr5, .refl _, _, x4, rfl, he5⟩ (fun j y σ G6 H6 G7 H7 hj iv gr7 hy2 => ?_) fun σ G' H' iv => ?_
    · obtain ⟨gr6, s6, lng, x4, rfl, hlg⟩ := iv
      rw [hfl] at hj
      obtain ⟨t, ht, hyt⟩ := all_at (hfs.up (s6.trans gr7.g)) hy2
      obtain ⟨ta, rfl, hta⟩ := is_nats hyt
      have htl := hfe t (List.mem_of_getElem? ht)
      have htn : (t.map nV).length = t.length := List.length_map ..
      refine ⟨lng, rfl, .ref ta, rfl, ta, _, rfl, .inl (gr7.s.seq hta), _, _, rfl, rfl, ((t.length + 1 : Nat) : Int), by rw [htn]; rfl, by omega, by omega, ?_⟩
      have et : ((t.length + 1 : Nat) : Int).toNat = t.length + 1 := Int.toNat_natCast _
      refine lc_pure (K := K) (fun k => some (eLs.to (t.take k ++ [L[i]] ++ t.drop k))) gw_range gr7.s (by rw [et]; omega) (fun k y G8 H8 hk gr8 hy3 C1 C0 k1 k0 => ?_) fun D G8 H8 gr8 hD => ?_
      · subst hy3
        rw [et] at hk
        have hta8 := gr8.g.seq hta
        have ecut : cutV (t.map nV) none (some (k : Int)) = (t.take k).map nV := by rw [cut_take, List.map_take]
        have ecut2 : cutV (t.map nV) (some (k : Int)) none = (t.drop k).map nV := by rw [cut_drop, List.map_drop]
        refine ⟨rfl, .ref ta, rfl, nV k, rfl, (k : Int), rfl, ta, _, rfl, gr8.s.seq hta8, fun p1 np1 => ?_⟩
        have gr9 := Grow.new (M := M0) gr8.s np1 (.lst (cutV (t.map nV) none (some (k : Int))))
        have hp1 : SqL K (upd G8 p1 (.lst (cutV (t.map nV) none (some (k : Int))))) p1 ((t.take k).map nV) := by
          rw [← ecut]
          exact .of upd_same
        generalize upd G8 p1 (.lst (cutV (t.map nV) none (some (k : Int)))) = G9 at gr9 hp1
        refine ⟨nV L[i], rfl, (by show 1 ≤ _; exact small_line (by decide)), fun p2 np2 => ?_⟩
        have gr10 := Grow.new (M := M0) gr9.s np2 (.lst [nV L[i]])
        have hp2 : SqL K (upd G9 p2 (.lst [nV L[i]])) p2 ([L[i]].map nV) := .of upd_same
        generalize upd G9 p2 (.lst [nV L[i]]) = G10 at gr10 hp2
        refine ⟨G10, p1, p2, _, _, rfl, rfl, gr10.s, gr10.g.seq hp1, hp2, (by rw [List.length_map, List.length_map, List.length_take]; show _ + 1 ≤ _; omega), fun c3 G11 H11 gr11 h11 => ?_⟩
        rw [← List.map_append] at h11
        refine ⟨.ref ta, rfl, nV k, rfl, (k : Int), rfl, ta, _, rfl, gr11.s.seq (((gr9.g.trans gr10.g).trans gr11.g).seq hta8), fun p4 np4 => ?_⟩
        have gr12 := Grow.new (M := M0) gr11.s np4 (.lst (cutV (t.map nV) (some (k : Int)) none))
        have hp4 : SqL K (upd G11 p4 (.lst (cutV (t.map nV) (some (k : Int)) none))) p4 ((t.drop k).map nV) := by
          rw [← ecut2]
          exact .of upd_same
        generalize upd G11 p4 (.lst (cutV (t.map nV) (some (k : Int)) none)) = G12 at gr12 hp4
        refine ⟨G12, c3, p4, _, _, rfl, rfl, gr12.s, gr12.g.seq h11, hp4, (by rw [List.length_map, List.length_map, List.length_append, List.length_take, List.length_drop]; show _ + 1 + _ ≤ _; omega), fun c5 G13 H13 gr13 h13 => ?_⟩
        rw [← List.map_append] at h13
        exact k1 _ _ _ _ rfl ((((gr9.trans gr10).trans gr11).trans gr12).trans gr13) (nats_is h13)
      · rw [et, fm_map] at hD
        have hD2 : Is K G8 eLL (.ref D) (LP.insAll L[i] t) := by
          show Dp K G8 (.ref D) (.list (List.map eLs.to _))
          unfold LP.insAll
          rw [List.map_map]
          exact hD
        obtain ⟨D', ds, eD, hDs, hds⟩ := is_list hD2
        cases eD
        obtain ⟨la, ls, rfl, hla, hls⟩ := is_list (hlg.up (gr7.g.trans gr8.g))
        have hdl := all_len hds
        have hll := all_len hls
        rw [ins_len] at hdl
        have hlb : (insF (F.take j) L[i]).length ≤ 7776 * 7 := by
          have e1 : (insF (F.take j) L[i]).length = (F.take j).length * (i + 1) := LP.flatMap_len fun t ht => by rw [ins_len, hfe t (List.mem_of_mem_take ht)]
          rw [e1]
          refine Nat.mul_le_mul ?_ (by omega)
          rw [List.length_take]
          omega
        refine ⟨G8, la, D, ls, ds, rfl, rfl, gr8.s, hla, hDs, by omega, fun c4 G9 H9 gr9 h9 => ?_⟩
        refine ⟨G9, ((gr6.trans gr7).trans gr8).trans gr9, ((s6.trans gr7.g).trans gr8.g).trans gr9.g, .ref c4, _, rfl, ?_⟩
        rw [List.take_add_one, ht]
        show Is K G9 eLL (.ref c4) ((F.take j ++ [t]).flatMap (LP.insAll L[i]))
        rw [List.flatMap_append, List.flatMap_cons, List.flatMap_nil, List.append_nil]
        refine .lst h9 ?_
        rw [List.map_append]
        exact (hls.app hds).up gr9.g
    · obtain ⟨gr6, s6, lng, x4, rfl, hlg⟩ := iv
      rw [hfl, List.take_length] at hlg
      refine ⟨lng, rfl, G', gr6, ((s3.trans gr4.g).trans gr5.g).trans s6, lng, _, _, _, rfl, ?_⟩
      rw [fold_snoc, hF]
      exact hlg
  · obtain ⟨gr3, s3, fnd, x2, x3, x4, rfl, hf⟩ := iv
    rw [hlen, List.take_length] at hf
    exact ⟨fnd, rfl, q _ _ _ gr3 hf⟩
/-! law_least -/
abbrev s_law_least : Stmt := topS 56
abbrev n_law_least : List Str := ["_law_start_here", "_law_goal", "_law_left", "_law_found", "_law_high", "_law_some", "_law_rest", "_law_cell", "_law_line"]
theorem sc_law_least : FnScope n_law_least ["_law_start_here", "_law_goal"] (defScope s_law_least) := ⟨rfl, rfl, rfl, by decide +kernel, rfl, by decide +kernel, by decide +kernel⟩
def sp_law_least (K : PySem.W.Frag) : Sp := fun vs H Q _ => ∃ (G : Hp) (u v : V) (h w : Nat) (s g : LP.Pic), vs = [u, v] ∧ Same G H ∧ Is K G eP u s ∧ Is K G eP v g ∧ PicOk h w s ∧ PicOk h w g ∧ ∀ v' G' H', Grow M0 G H G' H' → IsL K G' v' (LP.toldOf h w s g) → Q v' H'
theorem ok_law_least (T : Txt mg) {f : Addr} {fd : FuncData} (F : Fun K "_law_least" "_law_least" s_law_least f fd) (c_law_differ : Cal P w K mg base 1 "_law_differ" (sp_law_differ K) []) (c_law_layers : Cal P w K mg base 1 "_law_layers" (sp_law_layers K) []) : FnOk P w K mg base CX0 2 f fd ["_law_start_here", "_law_goal"] (sp_law_least K) := by
  refine F.ok sc_law_least (fun vs H Q E h => ?_) (fun cdv A outer s H vs Q E hr h => ?_)
  · obtain ⟨G, u, v, h, w, p, g, rfl, _⟩ := h
    rfl
  obtain ⟨G, u, v, h, w, p, g, rfl, sG, hu0, hv0, okp, okg, q⟩ := h
  have hu1 := hu_of hr
  have hu := hr.units
  refine ⟨_, (pss_cons (ps_asg (pe_tup (pa_cons (pe_c c_law_differ hr (by decide) rfl (pa_cons (pv 0) (pa_cons (pv 1) pa_nil))) (pa_cons (pe_lst pa_nil) (pa_cons (pe_callB (k_len K) (by rfl) T.len_ PySem.boot_len (pa_cons (pv 0) pa_nil)) pa_nil)))) (k_pgT (n := 3) K rfl rfl (pgs_cons (pg_name (i := 2) sc_law_least.nd rfl (.inr rfl)) (pgs_cons (pg_name (i := 3) sc_law_least.nd rfl (.inl rfl)) (pgs_cons (pg_name (i := 4) sc_law_least.nd rfl (.inr rfl)) pgs_nil)))))
      (pss_cons (ps_for PassesOwn.never rfl (k_piL K rfl (pe_c c_law_layers hr (by decide) rfl (pa_cons (pv 1) pa_nil))) (pg_name (i := 5) sc_law_least.nd rfl (.inr rfl)) (pss_cons (ps_if (pt_cmpR (k_eqD K rfl hu) (pv 2) (pe_lst pa_nil) (nomark _)) (pss_one ps_break) pss_nil)
      (pss_cons (ps_setLc (i := 6) (own := [("_law_cell", 7)]) rfl sc_law_least.nd rfl rfl (sw_true rfl rfl rfl (by decide +kernel)) (k_piL K rfl (pv 2)) (blkOk_by (own := [("_law_cell", 7)]) (N := n_law_least) (sc := defScope s_law_least) (by decide +kernel)) (fun _ _ _ _ _ => (pg_name (i := 7) sc_law_least.nd rfl (.inl rfl))) (fun _ _ _ _ _ => pts_one (PW.pt (pw_and (pt_cmpR (k_notin K) (pe_ix (k_ixT K) (pv 7) pe_int (fun _ _ => rfl)) (pv 5) (by rfl)) (pw_and1 (pt_cmpR (k_notin K) (pe_op op_add (pv 4) (pe_ix (k_ixT K) (pv 7) pe_int (fun _ _ => rfl))) (pv 5) (by rfl)))))) (fun _ _ _ _ _ => (pv 7)))
      (pss_cons (ps_if (pt_cmpR (k_eqD K rfl hu) (pv 6) (pe_lst pa_nil) (nomark _)) (pss_one (ps_set (i := 3) sc_law_least.nd rfl (.inl rfl) (pe_op (k_catL K) (pv 3) (pe_lc (own := [("_law_line", 8)]) rfl sc_law_least.nd (k_piL K rfl (pv 5)) (blkOk_by (own := [("_law_line", 8)]) (N := n_law_least) (sc := defScope s_law_least) (by decide +kernel)) (fun _ _ _ _ _ => (pg_name (i := 8) sc_law_least.nd rfl (.inr rfl))) (fun _ _ _ _ _ => pts_one (pt_cmpR (k_neD K rfl hu) (pe_lc (own := [("_law_cell", 7)]) rfl sc_law_least.nd (k_piL K rfl (pv 2)) (blk2 (N := n_law_least) (own := [("_law_cell", 7)]) (fs := ["_law_high", "_law_line"]) (by decide +kernel) (free_cons (by first | exact .inl rfl | exact .inr rfl) (free_cons (by first | exact .inl rfl | exact .inr rfl) free_nil))) (fun _ _ _ _ _ => (pg_name (i := 7) sc_law_least.nd rfl (.inl rfl))) (fun _ _ _ _ _ => pts_one (pt_cmpR (k_in K) (pv 8) (pe_tup (pa_cons (pe_ix (k_ixT K) (pv 7) pe_int (fun _ _ => rfl)) (pa_cons (pe_op op_add (pv 4) (pe_ix (k_ixT K) (pv 7) pe_int (fun _ _ => rfl))) pa_nil))) (by rfl))) (fun _ _ _ _ _ => pe_int)) (pe_lst pa_nil) (nomark _))) (fun _ _ _ _ _ => (pv 8)))))) (pss_one (ps_set (i := 3) sc_law_least.nd rfl (.inl rfl) (pe_op (k_catL K) (pv 3) (pv 5)))))
      (pss_one (ps_set (i := 2) sc_law_least.nd rfl (.inr rfl) (pv 6)))))))
      (pss_one (ps_ret (pe_ifExp (pt_cmpR (k_eqD K rfl hu) (pv 2) (pe_lst pa_nil) (nomark _)) (pe_callB (k_sortedI K) (by rfl) T.sorted_ bt_sorted (pa_cons (pv 3) pa_nil)) pe_non))))), ?_⟩
  have h3 := okp.h3
  have w3 := okp.w3
  have hsum : h + w ≤ 6 := by omega
  have hL6 := LP.layers_len h w g
  -- the end
  have fin : ∀ (G' H' : Hp) (σ : St) (l fa : V) (left : List (Nat × Nat)) (fnd : List Nat), Grow M0 G H G' H' → σ[2]? = some (some l) → σ[3]? = some (some fa) → Is K G' eCs l left → Is K G' eLs fa fnd → (left, fnd) = LP.lawLeast h (LP.layersOf h w g) (LP.diff h w p g) [] →
      tRet (tIf (tTest (tOp (rEqD K) (tVar 2) (tLst tNil))) (tCB (rSortedI K) (tCons (tVar 3) tNil)) (tC .non)) { nx := fun x H' => Q V.non H', rt := Q } σ H' := by
    intro G' H' σ l fa left fnd gr e2 e3 hl hf heq
    refine ⟨l, e2, small_line (by decide), fun e ne => ?_⟩
    have gr6 := Grow.new (M := M0) gr.s ne (.lst [])
    refine ⟨_, eCs.to [], (hl.up gr6.g).up gr6.s, Dp.up (.lst (.of upd_same) .nil) gr6.s, eCs.shaped (by decide) _, eCs.shaped (by decide) _, ?_⟩
    rw [eCs.eqv]
    have grA := gr.trans gr6
    refine ⟨_, rfl, ite2 (fun c => ?_) (fun c => ?_)⟩
    · have c2 := of_decide_eq_true c
      subst c2
      obtain ⟨b, rfl, hb⟩ := is_nats (hf.up gr6.g)
      refine ⟨.ref b, e3, b, LP.up fnd, rfl, ?_, fun ys p1 hp hs np => ?_⟩
      · rw [← nV_int]
        exact gr6.s.seq hb
      obtain ⟨M, rfl, hM⟩ := up_of_perm hp
      rw [up_nV]
      have gr7 := Grow.new (M := M0) gr6.s np (.lst (M.map nV))
      refine q _ _ _ (grA.trans gr7) ?_
      unfold LP.toldOf
      cases hd : LP.least h (LP.layersOf h w g) (LP.diff h w p g) with
      | none =>
        have := LP.lawLeast_none _ _ [] hd
        rw [← heq] at this
        exact absurd rfl this
      | some Ts =>
        have := LP.lawLeast_some _ _ [] Ts hd
        rw [← heq, List.nil_append] at this
        cases this
        exact ⟨M, hM, nats_is (.of upd_same)⟩
    · have c2 : ¬ left = [] := fun z => c (decide_eq_true z)
      refine q _ _ _ grA ?_
      unfold LP.toldOf
      cases hd : LP.least h (LP.layersOf h w g) (LP.diff h w p g) with
      | none => rfl
      | some Ts =>
        have := LP.lawLeast_some _ _ [] Ts hd
        rw [← heq] at this
        cases this
        exact absurd rfl c2
  refine ⟨u, rfl, v, rfl, G, u, v, h, w, p, g, rfl, sG, hu0, hv0, okp, okg, fun l G1 H1 gr1 hl => ?_⟩
  refine ⟨small_line (by decide), fun f nf => ?_⟩
  have gr2 := Grow.new (M := M0) gr1.s nf (.lst [])
  have hf2 : Is K (upd G1 f (.lst [])) eLs (.ref f) [] := .lst (.of upd_same) .nil
  generalize upd G1 f (.lst []) = G2 at gr2 hf2
  generalize upd H1 f (.lst []) = H2 at gr2
  have gr12 := gr1.trans gr2
  obtain ⟨pa, rfl, hpa⟩ := is_pic (hu0.up gr12.g)
  refine ⟨.ref pa, rfl, pa, _, rfl, .inr (gr2.s.tup hpa), (by show 3 ≤ _; exact small_line (by decide)), fun t nt => ?_⟩
  have el : V.int ((p.map rV).length : Int) = nV h := by rw [List.length_map, okp.wf.len]; rfl
  have gr3 := Grow.new (M := M0) gr2.s nt (.tup [l, .ref f, V.int ((p.map rV).length : Int)])
  have ht : SqT K (upd G2 t (.tup [l, .ref f, V.int ((p.map rV).length : Int)])) t [l, .ref f, nV h] := by
    rw [← el]
    exact .of upd_same
  generalize upd G2 t (.tup [l, .ref f, V.int ((p.map rV).length : Int)]) = G3 at gr3 ht
  refine ⟨t, _, rfl, gr3.s.tup ht, rfl, _, _, rfl, _, _, rfl, _, _, rfl, rfl, ?_⟩
  have gr13 := gr12.trans gr3
  refine ⟨v, rfl, G3, v, h, w, g, rfl, gr3.s, hv0.up gr13.g, okg, fun ly G4 H4 gr4 hly => ?_⟩
  obtain ⟨b, lus, rfl, hb, hlus⟩ := is_list hly
  have hlen := all_len hlus
  refine ⟨b, rfl, ⟨_, gr4.s.seq hb⟩, ?_⟩
  refine for_run (gw_list hb) (fun i σ G' H' => ∃ (l fa : V) (left : List (Nat × Nat)) (fnd : List Nat) (x5 x6 : Option V), σ = [some (.ref pa), some v, some l, some fa, some (nV h), x5, x6, none, none] ∧ Grow M0 G H G' H' ∧ Same G4 G' ∧ Is K G' eCs l left ∧ Is K G' eLs fa fnd ∧ left.length ≤ 9 ∧ fnd.length ≤ 3 * i ∧ LP.lawLeast h ((LP.layersOf h w g).drop i) left fnd = LP.lawLeast h (LP.layersOf h w g) (LP.diff h w p g) []) (fun i σ G' H' iv => ?_) ⟨l, .ref f, _, [], none, none, rfl, gr13.trans gr4, .refl _, hl.up ((gr2.g.trans gr3.g).trans gr4.g), hf2.up (gr3.g.trans gr4.g), LP.diff_len h3 w3, Nat.zero_le _, rfl⟩ (fun i x σ G5 H5 G6 H6 hi iv gr6 hy => ?_) fun σ G' H' iv => ?_
  · obtain ⟨l, fa, left, fnd, x5, x6, rfl, i1, i2, _⟩ := iv
    exact ⟨i2, i1.s⟩
  · obtain ⟨l, fa, left, fnd, x5, x6, rfl, gr5, s45, hl5, hf5, hle, hfl, heq⟩ := iv
    rw [hlen] at hi
    obtain ⟨L, hL, hx⟩ := all_at (hlus.up (s45.trans gr6.g)) hy
    have hLm : L ∈ LP.layersOf h w g := List.mem_of_getElem? hL
    have S := LP.layer_small h3 w3 hLm
    have hdr : (LP.layersOf h w g).drop i = L :: (LP.layersOf h w g).drop (i + 1) := by
      obtain ⟨q1, q2⟩ := List.getElem?_eq_some_iff.mp hL
      rw [List.drop_eq_getElem_cons q1, q2]
    obtain ⟨c, rfl, hc⟩ := is_nats hx
    -- if left == []: break
    refine ⟨l, rfl, small_line (by decide), fun e ne => ?_⟩
    have gr7 := Grow.new (M := M0) gr6.s ne (.lst [])
    have hl7 := hl5.up (gr6.g.trans gr7.g)
    have hf7 := hf5.up (gr6.g.trans gr7.g)
    refine ⟨_, eCs.to [], hl7.up gr7.s, Dp.up (.lst (.of upd_same) .nil) gr7.s, eCs.shaped (by decide) _, eCs.shaped (by decide) _, ?_⟩
    rw [eCs.eqv]
    have gr57 := (gr5.trans gr6).trans gr7
    refine ⟨_, rfl, ite2 (fun d => ?_) (fun d => ?_)⟩
    · have d2 := of_decide_eq_true d
      subst d2
      rw [LP.lawLeast_nil] at heq
      exact fin _ _ _ _ _ _ _ gr57 rfl rfl hl7 hf7 heq
    · have d2 : ¬ left = [] := fun z => d (decide_eq_true z)
      rw [hdr, lawLeast_step d2] at heq
      generalize upd G6 e (.lst []) = G7 at gr7 hl7 hf7 gr57
      generalize upd H6 e (.lst []) = H7 at gr7 gr57
      have hc7 := gr7.g.seq hc
      obtain ⟨la, ls, rfl, hla, hls⟩ := is_list hl7
      have hll := all_len hls
      -- rest
      refine ⟨.ref la, rfl, la, rfl, ⟨_, gr7.s.seq hla⟩, ?_⟩
      refine lc_pure (K := K) (fun k => (left[k]?).bind fun c => if (!LP.meets h c L) = true then some (eC.to c) else none) (gw_list hla) gr7.s (by omega) (fun k y G8 H8 hk gr8 hy2 C1 C0 k1 k0 => ?_) fun R G8 H8 gr8 hR => ?_
      · obtain ⟨c1, hc1, hxc⟩ := all_at (hls.up gr8.g) hy2
        obtain ⟨t1, rfl, ht1⟩ := is_cell hxc
        have hs8 := gr8.s.seq (gr8.g.seq hc7)
        have kk : (!LP.meets h c1 L) = true → C1 (.ref t1) H8 := fun z => k1 _ _ _ _ (by rw [hc1]; exact if_pos z) (.here gr8.s) hxc
        have kn : ¬ (!LP.meets h c1 L) = true → C0 H8 := fun z => k0 (by rw [hc1]; exact if_neg z) _ _ (.here gr8.s)
        refine ⟨rfl, .ref t1, rfl, t1, _, 0, nV c1.1, rfl, rfl, gr8.s.tup ht1, rfl, .ref c, rfl, c, _, rfl, .inl hs8, rfl, flat_nats _, _, rfl, ?_⟩
        refine ite2 (fun b1 => ?_) (fun b1 => ?_)
        · have b2 : (!inV (nV c1.1) (L.map nV)) = true := b1
          rw [in_nats] at b2
          refine ⟨nV h, rfl, .ref t1, rfl, t1, _, 1, nV c1.2, rfl, rfl, gr8.s.tup ht1, rfl, _, _, rfl, rfl, .ref c, rfl, c, _, rfl, .inl hs8, rfl, flat_nats _, _, rfl, ?_⟩
          refine ite2 (fun b3 => ?_) (fun b3 => ?_)
          · have b4 : (!inV (nV (h + c1.2)) (L.map nV)) = true := b3
            rw [in_nats] at b4
            refine ⟨_, rfl, kk ?_⟩
            unfold LP.meets
            rw [Bool.not_eq_true'] at b2 b4
            rw [b2, b4]
            rfl
          · have b4 : ¬ (!inV (nV (h + c1.2)) (L.map nV)) = true := b3
            rw [in_nats] at b4
            refine kn ?_
            unfold LP.meets
            rw [Bool.not_eq_true', Bool.not_eq_false] at b4
            rw [b4, Bool.or_true]
            exact Bool.false_ne_true
        · have b2 : ¬ (!inV (nV c1.1) (L.map nV)) = true := b1
          rw [in_nats] at b2
          refine kn ?_
          unfold LP.meets
          rw [Bool.not_eq_true', Bool.not_eq_false] at b2
          rw [b2]
          exact Bool.false_ne_true
      rw [hll, fm_filter (fun c => !LP.meets h c L) eC.to] at hR
      have hR2 : Is K G8 eCs (.ref R) (LP.rest h left L) := hR
      clear hR
      -- if rest == []
      refine ⟨_, rfl, small_line (by decide), fun e9 ne9 => ?_⟩
      have gr9 := Grow.new (M := M0) gr8.s ne9 (.lst [])
      refine ⟨_, eCs.to [], (hR2.up gr9.g).up gr9.s, Dp.up (.lst (.of upd_same) .nil) gr9.s, eCs.shaped (by decide) _, eCs.shaped (by decide) _, ?_⟩
      rw [eCs.eqv]
      generalize upd G8 e9 (.lst []) = G9 at gr9
      generalize upd H8 e9 (.lst []) = H9 at gr9
      have gr59 := (gr57.trans gr8).trans gr9
      have hc9 := (gr8.g.trans gr9.g).seq hc7
      have hla9 := (gr8.g.trans gr9.g).seq hla
      have hls9 := hls.up (gr8.g.trans gr9.g)
      obtain ⟨fb, rfl, hfb⟩ := is_nats (hf7.up (gr8.g.trans gr9.g))
      have s49 := ((((s45.trans gr6.g).trans gr7.g).trans gr8.g).trans gr9.g)
      have hR9 := hR2.up gr9.g
      have hrl : (LP.rest h left L).length ≤ 9 := Nat.le_trans (List.length_filter_le _ _) hle
      refine ⟨_, rfl, ite2 (fun b1 => ?_) (fun b1 => ?_)⟩
      · have b2 := of_decide_eq_true b1
        rw [if_pos b2] at heq
        refine ⟨.ref fb, rfl, .ref c, rfl, c, rfl, ⟨_, gr9.s.seq hc9⟩, ?_⟩
        refine lc_filter (K := K) (fun n => left.any fun x => n == x.1 || n == h + x.2) id hc9 gr9.s (by have := S.len; omega) (fun n G10 H10 hn gr10 C1 C0 k1 k0 => ?_) fun D G10 H10 gr10 hD => ?_
        · refine ⟨rfl, .ref la, rfl, la, rfl, ⟨_, gr10.s.seq (gr10.g.seq hla9)⟩, ?_⟩
          refine lc_pure (K := K) (fun k => (left[k]?).bind fun x => if (n == x.1 || n == h + x.2) = true then some (eN.to 1) else none) (gw_list (gr10.g.seq hla9)) gr10.s (by omega) (fun k y G11 H11 hk gr11 hy2 C1' C0' k1' k0' => ?_) fun D2 G11 H11 gr11 hD2 => ?_
          · obtain ⟨c1, hc1, hxc⟩ := all_at ((hls9.up gr10.g).up gr11.g) hy2
            obtain ⟨t1, rfl, ht1⟩ := is_cell hxc
            refine ⟨rfl, nV n, rfl, .ref t1, rfl, t1, _, 0, nV c1.1, rfl, rfl, gr11.s.tup ht1, rfl, nV h, rfl, .ref t1, rfl, t1, _, 1, nV c1.2, rfl, rfl, gr11.s.tup ht1, rfl, _, _, rfl, rfl, (by show 2 ≤ _; exact small_line (by decide)), fun t2 nt2 => ?_⟩
            have gr12 := Grow.new (M := M0) gr11.s nt2 (.tup [nV c1.1, V.int ((h : Int) + (c1.2 : Int))])
            have ht2 : SqT K (upd H11 t2 (.tup [nV c1.1, V.int ((h : Int) + (c1.2 : Int))])) t2 [nV c1.1, nV (h + c1.2)] := .of upd_same
            refine ⟨t2, _, rfl, .inr ht2, rfl, rfl, _, rfl, ?_⟩
            have ein : inV (nV n) [nV c1.1, nV (h + c1.2)] = (n == c1.1 || n == h + c1.2) := by
              have := in_nats n [c1.1, h + c1.2]
              rw [List.contains_cons, List.contains_cons, List.contains_nil, Bool.or_false] at this
              exact this
            refine ite2 (fun b3 => ?_) (fun b3 => ?_)
            · have b4 : inV (nV n) [nV c1.1, nV (h + c1.2)] = true := b3
              rw [ein] at b4
              exact k1' _ _ _ _ (by rw [hc1]; exact if_pos b4) gr12 (.int _)
            · have b4 : ¬ inV (nV n) [nV c1.1, nV (h + c1.2)] = true := b3
              rw [ein] at b4
              exact k0' (by rw [hc1]; exact if_neg b4) _ _ gr12
          · rw [hll, fm_filter (fun x : Nat × Nat => n == x.1 || n == h + x.2) (fun _ => eN.to 1)] at hD2
            have hD3 : Is K G11 eLs (.ref D2) ((left.filter fun x => n == x.1 || n == h + x.2).map fun _ => 1) := by
              show Dp K G11 (.ref D2) (.list (List.map eN.to _))
              rw [List.map_map]
              exact hD2
            refine ⟨small_line (by decide), fun e12 ne12 => ?_⟩
            have gr12 := Grow.new (M := M0) gr11.s ne12 (.lst [])
            refine ⟨_, eLs.to [], (hD3.up gr12.g).up gr12.s, Dp.up (.lst (.of upd_same) .nil) gr12.s, eLs.shaped (by decide) _, eLs.shaped (by decide) _, ?_⟩
            rw [eLs.eqv, map_emp, filt_any]
            have gr1112 := gr11.trans gr12
            refine ⟨_, rfl, ite2 (fun b3 => ?_) (fun b3 => ?_)⟩
            · exact ⟨_, rfl, k1 b3 _ _ gr1112⟩
            · exact k0 (Bool.eq_false_iff.mpr b3) _ _ gr1112
        · rw [List.map_id] at hD
          have hD : Is K G10 eLs (.ref D) (LP.needed h left L) := hD
          obtain ⟨D', eD, hDs⟩ := is_nats hD
          cases eD
          have hnl : (LP.needed h left L).length ≤ 3 := Nat.le_trans (List.length_filter_le _ _) S.len
          refine ⟨G10, fb, D, _, _, rfl, rfl, gr10.s, gr10.g.seq hfb, hDs, (by rw [List.length_map, List.length_map]; omega), fun c11 G11 H11 gr11 h11 => ?_⟩
          rw [← List.map_append] at h11
          refine ⟨_, rfl, G11, .ref R, .ref c11, LP.rest h left L, fnd ++ LP.needed h left L, _, _, rfl, (gr59.trans gr10).trans gr11, (s49.trans gr10.g).trans gr11.g, hR9.up (gr10.g.trans gr11.g), nats_is h11, hrl, by rw [List.length_append]; omega, heq⟩
      · have b2 : ¬ LP.rest h left L = [] := fun z => b1 (decide_eq_true z)
        rw [if_neg b2] at heq
        have hSl := S.len
        refine ⟨.ref fb, rfl, .ref c, rfl, G9, fb, c, _, _, rfl, rfl, gr9.s, hfb, hc9, (by rw [List.length_map, List.length_map]; omega), fun c11 G11 H11 gr11 h11 => ?_⟩
        rw [← List.map_append] at h11
        exact ⟨_, rfl, G11, .ref R, .ref c11, LP.rest h left L, fnd ++ L, _, _, rfl, gr59.trans gr11, s49.trans gr11.g, hR9.up gr11.g, nats_is h11, hrl, by rw [List.length_append]; omega, heq⟩
  · obtain ⟨l, fa, left, fnd, x5, x6, rfl, gr5, s45, hl5, hf5, hle, hfl, heq⟩ := iv
    rw [hlen, List.drop_length] at heq
    exact fin _ _ _ _ _ _ _ gr5 rfl rfl hl5 hf5 heq
end
end LW
/-! the law's start -/
namespace LW
open PySem PySem.Spec L2
open PyProof.Rows hiding St RelV
open C8 (Cal pe_c pe_gc)
open StX (pa_star)
section
variable {P : Program} {w : World} {K : PySem.W.Frag} {mg : Str → Option Value} {base : Heap}
/-! law_start -/
abbrev s_law_start : Stmt := topS 52
abbrev n_law_start : List Str := ["_law_row", "_law_goal", "_law_kind", "_law_shut", "_law_high", "_law_found", "_law_at", "_law_told", "_law_spot", "_law_kept"]
theorem sc_law_start : FnScope n_law_start ["_law_row", "_law_goal"] (defScope s_law_start) := ⟨rfl, rfl, rfl, by decide +kernel, rfl, by decide +kernel, by decide +kernel⟩
def sp_law_start (K : PySem.W.Frag) : Sp := fun vs H Q _ => ∃ (G : Hp) (r : Addr) (v : V) (h w : Nat) (p : LP.Pic), vs = [.ref r, v] ∧ RowAt K r G H ∧ Is K G eP v p ∧ PicOk h w p ∧ ∀ v' s G' H', PicOk h w s → Grow (M1 r) G H G' H' → RowAt K r G' H' → Is K G' eP v' s → Q v' H'
theorem ok_law_start (T : Txt mg) {f : Addr} {fd : FuncData} (F : Fun K "_law_start" "_law_start" s_law_start f fd) (c_law_taken : Cal P w K mg base 1 "_law_taken" (sp_law_taken K) []) (c_law_pick : Cal P w K mg base 2 "_law_pick" (sp_law_pick K) []) (c_law_any : Cal P w K mg base 3 "_law_any" (sp_law_any K) []) (c_law_painted : Cal P w K mg base 2 "_law_painted" (sp_law_painted K) []) (c_law_deeds : Cal P w K mg base 2 "_law_deeds" (sp_law_deeds K) []) (c_law_core : Cal P w K mg base 2 "_law_core" (sp_law_core K) []) : FnOk P w K mg base CX0 4 f fd ["_law_row", "_law_goal"] (sp_law_start K) := by
  refine F.ok sc_law_start (fun vs H Q E h => ?_) (fun cdv A outer s H vs Q E hr h => ?_)
  · obtain ⟨G, r, v, h, w, p, rfl, _⟩ := h
    rfl
  obtain ⟨G, r, v, h, w, p, rfl, R, hv, ok, q⟩ := h
  obtain ⟨a, rfl, ha⟩ := is_pic hv
  refine ⟨_, (pss_cons (ps_set (i := 2) sc_law_start.nd rfl (.inl rfl) (pe_c c_law_taken hr (by decide) rfl (pa_cons (pv 0) (pa_cons pe_int pa_nil))))
      (pss_cons (ps_if (pt_cmpR op_eq (pv 2) pe_int (nomark _)) (pss_one (ps_ret (pe_c c_law_any hr (by decide) rfl (pa_cons (pv 0) (pa_cons (pe_callB (k_len K) (by rfl) T.len_ PySem.boot_len (pa_cons (pv 1) pa_nil)) (pa_cons (pe_callB call_len_str (by rfl) T.len_ PySem.boot_len (pa_cons (pe_ix (k_ixT K) (pv 1) pe_int (fun _ _ => rfl)) pa_nil)) pa_nil)))))) pss_nil)
      (pss_cons (ps_if (pt_cmpR op_eq (pv 2) pe_int (nomark _)) (pss_one (ps_ret (pe_c c_law_painted hr (by decide) rfl (pa_cons (pv 1) (pa_cons (pe_c c_law_deeds hr (by decide) rfl (pa_cons (pv 0) (pa_cons (pv 1) (pa_cons pe_int pa_nil)))) pa_nil))))) pss_nil)
      (pss_cons (ps_par3 (i := 3) (j := 4) (l := 5) rfl sc_law_start.nd rfl rfl rfl (by decide) (by decide) (by decide) rfl rfl rfl (pa_cons (pe_c c_law_core hr (by decide) rfl (pa_cons (pv 1) pa_nil)) (pa_cons (pe_callB (k_len K) (by rfl) T.len_ PySem.boot_len (pa_cons (pv 1) pa_nil)) (pa_cons (pe_lst pa_nil) pa_nil))) (by rfl))
      (pss_cons (ps_for PassesOwn.never rfl (pi_range1 rfl T.range_ (pa_cons (pv 4) pa_nil)) (pg_name (i := 6) sc_law_start.nd rfl (.inl rfl)) (pss_cons (ps_set (i := 7) sc_law_start.nd rfl (.inl rfl) pe_str)
      (pss_cons (ps_for PassesOwn.never rfl (pi_range1 rfl T.range_ (pa_cons (pe_callB call_len_str (by rfl) T.len_ PySem.boot_len (pa_cons (pe_ix (k_ixT K) (pv 1) pe_int (fun _ _ => rfl)) pa_nil)) pa_nil)) (pg_name (i := 8) sc_law_start.nd rfl (.inl rfl)) (pss_cons (ps_set (i := 9) sc_law_start.nd rfl (.inl rfl) (pe_or (pe_and (pe_cmpR (k_in K) (pv 6) (pv 3) (by rfl)) (pe_one (pe_cmpR (k_in K) (pe_op op_add (pv 4) (pv 8)) (pv 3) (by rfl)))) (pe_one (pe_and (pe_cmpR op_eq (pv 2) pe_int (nomark _)) (pe_one (pe_cmpR op_gt (pe_c c_law_taken hr (by decide) rfl (pa_cons (pv 0) (pa_cons pe_int pa_nil))) pe_int (nomark _)))))))
      (pss_one (ps_set (i := 7) sc_law_start.nd rfl (.inl rfl) (pe_op op_add_str (pv 7) (pe_ifExp (pt_val (pv 9) (fun _ => rfl)) (pe_ix ix_str (pe_ix (k_ixT K) (pv 1) (pv 6) (fun _ _ => rfl)) (pv 8) (fun _ _ => rfl)) (pe_c c_law_pick hr (by decide) rfl (pa_cons (pv 0) (pa_cons pe_str pa_nil)))))))))
      (pss_one (ps_expr (pe_bm PySem.F.plainAttrs_list PySem.F.slot_list_append PySem.F.type_list_append mt_append (pv 5) (pa_cons (pv 7) pa_nil)))))))
      (pss_one (ps_ret (pe_callTy (k_tuple K) (by rfl) T.tuple_ bt_tuple (pa_cons (pv 5) pa_nil))))))))), ?_⟩
  have hlen : (p.map rV).length = h := by rw [List.length_map, ok.wf.len]
  obtain ⟨r0, e0, l0⟩ := ok.row (i := 0) (by have := ok.h1; omega)
  have h1 := ok.h1
  have h3 := ok.h3
  have w1 := ok.w1
  have w3 := ok.w3
  refine ⟨.ref r, rfl, G, r, 4, rfl, R, by decide, by decide, fun k G1 H1 hk gr1 R1 => ?_⟩
  have ha1 := gr1.g.tup ha
  refine ⟨nV k, rfl, rfl, _, rfl, ite2 (fun c => ?_) (fun c => ?_)⟩
  · have ha1s := R1.s.tup ha1
    refine ⟨.ref r, rfl, .ref a, rfl, a, _, rfl, .inr ha1s, .ref a, rfl, a, _, 0, rV r0, rfl, rfl, ha1s, atI_nat (at_map e0), rowS r0, rfl, by rw [rowS_len, l0]; exact small_line (by omega), G1, r, h, w, ?_, R1, h1, h3, w1, w3, fun v' s G2 H2 oks gr2 R2 hs => q _ s _ _ oks (gr1.trans gr2) R2 hs⟩
    rw [hlen, rowS_len, l0]
    rfl
  refine ⟨nV k, rfl, rfl, _, rfl, ite2 (fun c1 => ?_) (fun c1 => ?_)⟩
  · refine ⟨.ref a, rfl, .ref r, rfl, .ref a, rfl, G1, r, .ref a, h, w, 4, p, rfl, R1, hv.up gr1.g, ok, by decide, fun v2 d G2 H2 hd hdl gr2 R2 hv2 => ?_⟩
    refine ⟨G2, .ref a, v2, h, w, p, d, rfl, R2.s, (hv.up gr1.g).up gr2.g, ok, hv2, fun v3 G3 H3 gr3 hv3 => ?_⟩
    exact q _ _ _ _ (ok.all d) ((gr1.trans gr2).trans gr3.weak) (R2.grow gr3) hv3
  refine ⟨.ref a, rfl, G1, .ref a, h, w, p, rfl, R1.s, hv.up gr1.g, ok, fun v2 L G2 H2 gr2 hv2 => ?_⟩
  have R2 := R1.grow gr2
  have ha2 := gr2.g.tup ha1
  obtain ⟨sa, rfl, hsa⟩ := is_nats hv2
  refine ⟨.ref a, rfl, a, _, rfl, .inr (R2.s.tup ha2), small_line (by decide), fun f nf => ?_⟩
  have hfr : f ≠ r := fun z => R2.lives (by rw [← z]; exact nf)
  have gf2 : G2 f = none := R2.s.free nf
  have gr3 := Grow.hide (M := M1 r) R2.s nf (.lst [])
  have R3 := R2.put (o := .lst []) hfr gf2
  have hf3 : upd H2 f (.lst []) f = some (.lst []) := upd_same
  generalize upd H2 f (.lst []) = H3 at gr3 R3 hf3
  refine ⟨_, _, _, rfl, ?_⟩
  refine ⟨_, rfl, ((h : Nat) : Int), by rw [hlen], by omega, by omega, ?_⟩
  have en : ((h : Nat) : Int).toNat = h := Int.toNat_natCast h
  have gr12 := gr1.trans (gr2.weak (M := M1 r))
  refine for_range (fun i σ H' => ∃ (G' : Hp) (rows : List (List Bool)) (x6 x7 x8 x9 : Option V), σ = [some (.ref r), some (.ref a), some (nV k), some (.ref sa), some (nV h), some (.ref f), x6, x7, x8, x9] ∧ Grow (M1 r) G2 H2 G' H' ∧ RowAt K r G' H' ∧ G' f = none ∧ H' f = some (.lst (rows.map rV)) ∧ rows.length = i ∧ ∀ r ∈ rows, r.length = w) ⟨G2, [], none, none, none, none, ?_, gr3, R3, gf2, hf3, rfl, fun r hr => by cases hr⟩ (fun i σ H' hi iv => ?_) fun σ H' iv => ?_
  · have : V.int ((p.map rV).length : Int) = nV h := by rw [hlen]; rfl
    rw [← this]
    rfl
  · obtain ⟨G4, rows, x6, x7, x8, x9, rfl, gr4, R4, gf4, hf4, hrl, hrw⟩ := iv
    rw [en] at hi
    have e1 : (0 : Int) + (i : Int) = ((i : Nat) : Int) := by omega
    rw [e1]
    have ha4 := gr4.g.tup ha2
    refine ⟨.ref a, rfl, a, _, 0, rV r0, rfl, rfl, R4.s.tup ha4, atI_nat (at_map e0), rowS r0, rfl, by rw [rowS_len, l0]; exact small_line (by omega), ((w : Nat) : Int), by rw [rowS_len, l0], by omega, by omega, ?_⟩
    have ew : ((w : Nat) : Int).toNat = w := Int.toNat_natCast w
    refine for_range (fun j σ H' => ∃ (G' : Hp) (bs : List Bool) (x8 x9 : Option V), σ = [some (.ref r), some (.ref a), some (nV k), some (.ref sa), some (nV h), some (.ref f), some (nV i), some (rV bs), x8, x9] ∧ Grow (M1 r) G2 H2 G' H' ∧ RowAt K r G' H' ∧ G' f = none ∧ H' f = some (.lst (rows.map rV)) ∧ bs.length = j) ⟨G4, [], x8, x9, ?_, gr4, R4, gf4, hf4, rfl⟩ (fun j σ H' hj iv => ?_) fun σ H' iv => ?_
    · show [_, _, _, _, _, _, some (nV i), some (V.str (Str.ofString "")), _, _] = _
      rw [ofs_empty]
      rfl
    · obtain ⟨G5, bs, x8, x9, rfl, gr5, R5, gf5, hf5, hbl⟩ := iv
      rw [ew] at hj
      have e2 : (0 : Int) + (j : Int) = ((j : Nat) : Int) := by omega
      rw [e2]
      have hsa5 := R5.s.seq (gr5.g.seq hsa)
      refine ⟨nV i, rfl, .ref sa, rfl, sa, _, rfl, .inl hsa5, rfl, flat_nats _, _, rfl, ?_⟩
      -- the sign of the cell
      have kont : ∀ (D : Ends) (b : Bool) (G6 H6 : Hp), Same G5 G6 → RowAt K r G6 H6 → (∀ (c : Bool) (G7 H7 : Hp), Grow (M1 r) G6 H6 G7 H7 → RowAt K r G7 H7 → D.nx [some (.ref r), some (.ref a), some (nV k), some (.ref sa), some (nV h), some (.ref f), some (nV i), some (.str (rowS bs ++ rowS [c])), some (nV j), some (.bl b)] H7) →
          tAsg (tOp (fun x y H Q => ∃ i j, x = V.str i ∧ y = V.str j ∧ i.length + j.length ≤ sizeLine ∧ Q (V.str (i ++ j)) H) (tVar 7)
            (tIf (tB (tVar 9)) (tOp rIxS (tOp (rIxT K) (tVar 1) (tVar 6)) (tVar 8)) (tCall (sp_law_pick K) [] C8.E0 (tCons (tVar 0) (tCons (tC (V.str (Str.ofString "#."))) tNil))))) (gName 7) D
            [some (.ref r), some (.ref a), some (nV k), some (.ref sa), some (nV h), some (.ref f), some (nV i), some (rV bs), some (nV j), some (.bl b)] H6 := by
        intro D b G6 H6 s56 R6 kx
        have sz : ∀ c : Bool, (rowS bs).length + (rowS [c]).length ≤ sizeLine := fun c => by
          rw [rowS_len, rowS_len]
          exact small_line (by show _ + 1 ≤ _; omega)
        obtain ⟨rr, hr1, hr2, hr3⟩ := pic_at ok hi hj
        refine ⟨rV bs, rfl, .bl b, rfl, b, rfl, ite2 (fun c => ?_) (fun c => ?_)⟩
        · refine ⟨.ref a, rfl, nV i, rfl, a, _, (i : Int), rV rr, rfl, rfl, R6.s.tup (s56.tup (gr5.g.tup ha2)), atI_nat hr1, nV j, rfl, rowS rr, (j : Int), _, rfl, rfl, hr2, hr3, _, _, rfl, rfl, sz (LP.cell p i j), ?_⟩
          exact kx (LP.cell p i j) _ _ (.here R6.s) R6
        · refine ⟨.ref r, rfl, G6, r, _, 2, fun n => .str (rowS [n == 0]), rfl, R6, by decide, by decide, .inr ⟨Str.ofString "#.", rfl, rfl, by decide, fun n hn => ?_⟩, fun n G7 H7 hn gr7 R7 => ?_⟩
          · match n, hn with
            | 0, _ => exact ⟨35, by decide +kernel, rfl⟩
            | 1, _ => exact ⟨46, by decide +kernel, rfl⟩
          · exact ⟨_, _, rfl, rfl, sz (n == 0), kx (n == 0) _ _ gr7 R7⟩
      have last : ∀ (b : Bool) (c : Bool) (G6 H6 G7 H7 : Hp), Grow (M1 r) G5 H' G6 H6 → Grow (M1 r) G6 H6 G7 H7 → RowAt K r G7 H7 → ∃ (G' : Hp) (bs' : List Bool) (x8 x9 : Option V), [some (V.ref r), some (.ref a), some (nV k), some (.ref sa), some (nV h), some (.ref f), some (nV i), some (.str (rowS bs ++ rowS [c])), some (nV j), some (.bl b)] = [some (.ref r), some (.ref a), some (nV k), some (.ref sa), some (nV h), some (.ref f), some (nV i), some (rV bs'), x8, x9] ∧ Grow (M1 r) G2 H2 G' H7 ∧ RowAt K r G' H7 ∧ G' f = none ∧ H7 f = some (.lst (rows.map rV)) ∧ bs'.length = j + 1 := by
        intro b c G6 H6 G7 H7 g6 g7 R7
        have g := g6.trans g7
        refine ⟨G7, bs ++ [c], some (nV j), some (.bl b), ?_, gr5.trans g, R7, (g.old f (by rw [hf5]; exact fun z => by cases z)).trans gf5, g.h f _ hfr hf5, by rw [List.length_append, hbl]; rfl⟩
        rw [row_app]
        rfl
      have mid : ∀ (D : Ends) (Dk : ∀ (b c : Bool) (G6 H6 G7 H7 : Hp), Grow (M1 r) G5 H' G6 H6 → Grow (M1 r) G6 H6 G7 H7 → RowAt K r G7 H7 → D.nx [some (.ref r), some (.ref a), some (nV k), some (.ref sa), some (nV h), some (.ref f), some (nV i), some (.str (rowS bs ++ rowS [c])), some (nV j), some (.bl b)] H7) (b : Bool) (G6 H6 : Hp), Grow (M1 r) G5 H' G6 H6 → RowAt K r G6 H6 → tAsg (tOp (fun x y H Q => ∃ i j, x = V.str i ∧ y = V.str j ∧ i.length + j.length ≤ sizeLine ∧ Q (V.str (i ++ j)) H) (tVar 7)
            (tIf (tB (tVar 9)) (tOp rIxS (tOp (rIxT K) (tVar 1) (tVar 6)) (tVar 8)) (tCall (sp_law_pick K) [] C8.E0 (tCons (tVar 0) (tCons (tC (V.str (Str.ofString "#."))) tNil))))) (gName 7) D
            [some (.ref r), some (.ref a), some (nV k), some (.ref sa), some (nV h), some (.ref f), some (nV i), some (rV bs), some (nV j), some (.bl b)] H6 :=
        fun D Dk b G6 H6 g6 R6 => kont D b G6 H6 g6.g R6 fun c G7 H7 g7 R7 => Dk b c _ _ _ _ g6 g7 R7
      clear kont
      -- the second way to keep it
      have g55 : Grow (M1 r) G5 H' G5 H' := .here R5.s
      refine ite2 (fun b1 => ?_) (fun b1 => ?_)
      · refine ⟨nV h, rfl, nV j, rfl, _, _, rfl, rfl, .ref sa, rfl, sa, _, rfl, .inl hsa5, rfl, flat_nats _, _, rfl, ?_⟩
        refine ite2 (fun b2 => ?_) (fun b2 => ?_)
        · exact mid _ (fun b c _ _ _ _ g6 g7 R7 => last b c _ _ _ _ g6 g7 R7) _ _ _ g55 R5
        · refine ⟨nV k, rfl, rfl, _, rfl, ite2 (fun b3 => ?_) (fun b3 => ?_)⟩
          · refine ⟨.ref r, rfl, G5, r, 5, rfl, R5, by decide, by decide, fun n G6 H6 hn gr6 R6 => ⟨_, _, rfl, rfl, ?_⟩⟩
            exact mid _ (fun b c _ _ _ _ g6 g7 R7 => last b c _ _ _ _ g6 g7 R7) _ _ _ gr6 R6
          · exact mid _ (fun b c _ _ _ _ g6 g7 R7 => last b c _ _ _ _ g6 g7 R7) _ _ _ g55 R5
      · refine ⟨false, rfl, iteF ?_⟩
        refine ⟨nV k, rfl, rfl, _, rfl, ite2 (fun b3 => ?_) (fun b3 => ?_)⟩
        · refine ⟨.ref r, rfl, G5, r, 5, rfl, R5, by decide, by decide, fun n G6 H6 hn gr6 R6 => ⟨_, _, rfl, rfl, ?_⟩⟩
          exact mid _ (fun b c _ _ _ _ g6 g7 R7 => last b c _ _ _ _ g6 g7 R7) _ _ _ gr6 R6
        · exact mid _ (fun b c _ _ _ _ g6 g7 R7 => last b c _ _ _ _ g6 g7 R7) _ _ _ g55 R5
    · obtain ⟨G5, bs, x8, x9, rfl, gr5, R5, gf5, hf5, hbl⟩ := iv
      rw [ew] at hbl
      refine ⟨.ref f, rfl, .inl ⟨rfl, _, .of hf5⟩, _, rfl, f, _, _, rfl, rfl, hf5, by rw [List.length_map, sizeLine_eq]; omega, ?_⟩
      refine ⟨G5, rows ++ [bs], _, _, _, _, rfl, gr5.put nf gf5 _, R5.put hfr gf5, gf5, ?_, by rw [List.length_append, hrl]; rfl, fun r2 hr2 => ?_⟩
      · rw [upd_same, List.map_append]
        rfl
      · rcases List.mem_append.mp hr2 with z | z
        · exact hrw r2 z
        · rw [List.mem_singleton] at z
          rw [z, hbl]
  · obtain ⟨G4, rows, x6, x7, x8, x9, rfl, gr4, R4, gf4, hf4, hrl, hrw⟩ := iv
    rw [en] at hrl
    refine ⟨.ref f, rfl, f, _, rfl, .inl ⟨.of hf4, fun l nl => ?_⟩⟩
    have gr6 := Grow.new (M := M0) R4.s nl (.tup (rows.map rV))
    exact q _ rows _ _ ⟨⟨hrl, hrw⟩, h1, h3, w1, w3⟩ ((gr12.trans gr4).trans gr6.weak) (R4.grow gr6) (pic_is (.of upd_same))
end
end LW
/-! alike -/
namespace LW
open PySem PySem.Spec L2
open PyProof.Rows hiding St RelV
open C8 (Cal pe_c pe_gc)
open StX (pa_star)
/-- data that alike looks at, at most n deep -/
def Okd : Nat → PyData → Prop
  | 0, _ => False
  | _ + 1, .int _ => True
  | _ + 1, .bool _ => True
  | n + 1, .list ds => ds.length ≤ 1000 ∧ ∀ x ∈ ds, Okd n x
  | n + 1, .tuple ds => ds.length ≤ 1000 ∧ ∀ x ∈ ds, Okd n x
  | _ + 1, _ => False
theorem kit_any2 {K : PySem.W.Frag} {d : PyData} (h : tyD d ≠ "dict") : PySem.W.kitAny K (.type (tyD d)) [.type "tuple", .type "list"] = some (isD "tuple" d || isD "list" d) := by
  unfold PySem.W.kitAny
  rw [kit_tuple K d h]
  cases isD "tuple" d with
  | true => rfl
  | false =>
    show PySem.W.kitAny K (.type (tyD d)) [.type "list"] = _
    unfold PySem.W.kitAny
    rw [kit_list K d h]
    cases isD "list" d <;> rfl
section
variable {P : Program} {w : World} {K : PySem.W.Frag} {mg : Str → Option Value} {base : Heap}
/-! law_alike -/
abbrev s_law_alike : Stmt := topS 45
abbrev n_law_alike : List Str := ["_law_found", "_law_due", "_law_k"]
theorem sc_law_alike : FnScope n_law_alike ["_law_found", "_law_due"] (defScope s_law_alike) := ⟨rfl, rfl, rfl, by decide +kernel, rfl, by decide +kernel, by decide +kernel⟩
def sp_law_alike (K : PySem.W.Frag) (n : Nat) : Sp := fun vs H Q _ => ∃ (G : Hp) (u v : V) (d : PyData), vs = [u, v] ∧ Same G H ∧ Dp K G u d ∧ Dp K G v d ∧ Okd n d ∧ ∀ G' H', Grow M0 G H G' H' → Q (.bl true) H'
theorem ok_law_alike (T : Txt mg) {f : Addr} {fd : FuncData} (F : Fun K "_law_alike" "_law_alike" s_law_alike f fd) (m : mg "_law_alike" = some (.ref f)) (bd : Binds K fd ["_law_found", "_law_due"] []) : ∀ n, FnOk P w K mg base CX0 (n + 1) f fd ["_law_found", "_law_due"] (sp_law_alike K n)
  | 0 => by
    refine F.ok sc_law_alike (fun vs H Q E h => ?_) (fun cdv A outer s H vs Q E hr h => ?_)
    · obtain ⟨G, u, v, d, rfl, _⟩ := h
      rfl
    · obtain ⟨G, u, v, d, rfl, _, _, _, z, _⟩ := h
      exact absurd z (by unfold Okd; exact id)
  | n + 1 => by
    have c_law_alike : Cal P w K mg base (n + 1) "_law_alike" (sp_law_alike K n) [] := cal_of F (ok_law_alike T F m bd n) m bd
    refine F.ok sc_law_alike (fun vs H Q E h => ?_) (fun cdv A outer s H vs Q E hr h => ?_)
    · obtain ⟨G, u, v, d, rfl, _⟩ := h
      rfl
    obtain ⟨G, u, v, d, rfl, sG, hu0, hv0, hd, q⟩ := h
    have hu1 := hu_of hr
    have hu := hr.units
    refine ⟨_, (pss_cons (ps_if (pt_val (pe_callB (k_isiT K) (by rfl) T.isinstance_ bt_isinstance (pa_cons (pv 1) (pa_cons (pe_tup (pa_cons (pe_bltn (v := .ty "tuple") (u := .type "tuple") (by rfl) T.tuple_ bt_tuple rfl) (pa_cons (pe_bltn (v := .ty "list") (u := .type "list") (by rfl) T.list_ bt_list rfl) pa_nil))) pa_nil))) (fun _ => rfl)) (pss_cons (ps_if (PW.pt (pw_or (pt_not (pt_val (pe_callB (k_isiT K) (by rfl) T.isinstance_ bt_isinstance (pa_cons (pv 0) (pa_cons (pe_tup (pa_cons (pe_bltn (v := .ty "tuple") (u := .type "tuple") (by rfl) T.tuple_ bt_tuple rfl) (pa_cons (pe_bltn (v := .ty "list") (u := .type "list") (by rfl) T.list_ bt_list rfl) pa_nil))) pa_nil))) (fun _ => rfl))) (pw_or1 (pt_cmpR op_ne (pe_callB (k_isi K) (by rfl) T.isinstance_ bt_isinstance (pa_cons (pv 0) (pa_cons (pe_bltn (v := .ty "list") (u := .type "list") (by rfl) T.list_ bt_list rfl) pa_nil))) (pe_callB (k_isi K) (by rfl) T.isinstance_ bt_isinstance (pa_cons (pv 1) (pa_cons (pe_bltn (v := .ty "list") (u := .type "list") (by rfl) T.list_ bt_list rfl) pa_nil))) (nomark _))))) (pss_one (ps_ret pe_bl)) pss_nil)
      (pss_cons (ps_if (pt_cmpR op_ne (pe_callB (k_len K) (by rfl) T.len_ PySem.boot_len (pa_cons (pv 0) pa_nil)) (pe_callB (k_len K) (by rfl) T.len_ PySem.boot_len (pa_cons (pv 1) pa_nil)) (nomark _)) (pss_one (ps_ret pe_bl)) pss_nil)
      (pss_one (ps_ret (pe_cmpR (k_eqD K rfl hu) (pe_lc (own := [("_law_k", 2)]) rfl sc_law_alike.nd (pi_range1 rfl T.range_ (pa_cons (pe_callB (k_len K) (by rfl) T.len_ PySem.boot_len (pa_cons (pv 1) pa_nil)) pa_nil)) (blkOk_by (own := [("_law_k", 2)]) (N := n_law_alike) (sc := defScope s_law_alike) (by decide +kernel)) (fun _ _ _ _ _ => (pg_name (i := 2) sc_law_alike.nd rfl (.inl rfl))) (fun _ _ _ _ _ => pts_one (pt_not (pt_val (pe_c c_law_alike hr (Nat.le_refl _) rfl (pa_cons (pe_ix (k_ixA K) (pv 0) (pv 2) (fun _ _ => rfl)) (pa_cons (pe_ix (k_ixA K) (pv 1) (pv 2) (fun _ _ => rfl)) pa_nil))) (fun _ => rfl)))) (fun _ _ _ _ _ => (pv 2))) (pe_lst pa_nil) (nomark _)))))) pss_nil)
      (pss_cons (ps_if (PW.pt (pw_or (pt_cmpR op_isN (pv 1) pe_non (nomark _)) (pw_or1 (pt_val (pe_callB (k_isi K) (by rfl) T.isinstance_ bt_isinstance (pa_cons (pv 1) (pa_cons (pe_bltn (v := .ty "str") (u := .type "str") (by rfl) T.str_ bt_str rfl) pa_nil))) (fun _ => rfl))))) (pss_one (ps_ret (pe_and (pe_cmpR (k_eqD K rfl hu) (pv 0) (pv 1) (nomark _)) (pe_one (pe_cmpR op_eq (pe_callB (k_isi K) (by rfl) T.isinstance_ bt_isinstance (pa_cons (pv 0) (pa_cons (pe_bltn (v := .ty "str") (u := .type "str") (by rfl) T.str_ bt_str rfl) pa_nil))) (pe_callB (k_isi K) (by rfl) T.isinstance_ bt_isinstance (pa_cons (pv 1) (pa_cons (pe_bltn (v := .ty "str") (u := .type "str") (by rfl) T.str_ bt_str rfl) pa_nil))) (nomark _)))))) pss_nil)
      (pss_one (ps_ret (pe_and (pe_callB (k_isi K) (by rfl) T.isinstance_ bt_isinstance (pa_cons (pv 0) (pa_cons (pe_bltn (v := .ty "int") (u := .type "int") (by rfl) T.int_ bt_int rfl) pa_nil))) (pe_and (pe_cmpR op_eq (pe_callB (k_isi K) (by rfl) T.isinstance_ bt_isinstance (pa_cons (pv 0) (pa_cons (pe_bltn (v := .ty "bool") (u := .type "bool") (by rfl) T.bool_ bt_bool rfl) pa_nil))) (pe_callB (k_isi K) (by rfl) T.isinstance_ bt_isinstance (pa_cons (pv 1) (pa_cons (pe_bltn (v := .ty "bool") (u := .type "bool") (by rfl) T.bool_ bt_bool rfl) pa_nil))) (nomark _)) (pe_one (pe_cmpR (k_eqD K rfl hu) (pv 0) (pv 1) (nomark _))))))))), ?_⟩
    have hnd := no_dict hv0
    refine ⟨v, rfl, (by show 2 ≤ _; exact small_line (by decide)), fun t nt => ?_⟩
    have gr1 := Grow.new (M := M0) sG nt (.tup [.ty "tuple", .ty "list"])
    have ht1 : upd H t (.tup [.ty "tuple", .ty "list"]) t = some (.tup [.ty "tuple", .ty "list"]) := upd_same
    refine ⟨v, t, _, _, _, _, rfl, ht1, .cons (.ty "tuple") (.cons (.ty "list") .nil), ty_of ((hv0.up gr1.g).up gr1.s), kit_any2 hnd, _, rfl, ?_⟩
    generalize upd G t (.tup [.ty "tuple", .ty "list"]) = G1 at gr1
    generalize upd H t (.tup [.ty "tuple", .ty "list"]) = H1 at gr1 ht1
    have hu1' := hu0.up gr1.g
    have hv1' := hv0.up gr1.g
    refine ite2 (fun c => ?_) (fun c => ?_)
    · -- a list, a tuple
      refine ⟨u, rfl, (by show 2 ≤ _; exact small_line (by decide)), fun t2 nt2 => ?_⟩
      have gr2 := Grow.new (M := M0) gr1.s nt2 (.tup [.ty "tuple", .ty "list"])
      have ht2 : upd H1 t2 (.tup [.ty "tuple", .ty "list"]) t2 = some (.tup [.ty "tuple", .ty "list"]) := upd_same
      refine ⟨u, t2, _, _, _, _, rfl, ht2, .cons (.ty "tuple") (.cons (.ty "list") .nil), ty_of ((hu1'.up gr2.g).up gr2.s), kit_any2 hnd, _, rfl, ?_⟩
      generalize upd G1 t2 (.tup [.ty "tuple", .ty "list"]) = G2 at gr2
      generalize upd H1 t2 (.tup [.ty "tuple", .ty "list"]) = H2 at gr2 ht2
      have hu2 := hu1'.up gr2.g
      have hv2 := hv1'.up gr2.g
      rw [c]
      refine iteF ?_
      refine ⟨u, rfl, u, .ty "list", _, _, _, rfl, .ty _, ty_of (hu2.up gr2.s), kit_list K d hnd, v, rfl, v, .ty "list", _, _, _, rfl, .ty _, ty_of (hv2.up gr2.s), kit_list K d hnd, rfl, _, rfl, ?_⟩
      rw [decide_eq_true rfl]
      refine iteF ?_
      -- what the two have in common
      have sq : ∃ (a b : Addr) (us ws : List V) (ds : List PyData), u = .ref a ∧ v = .ref b ∧ (∀ H', Same G2 H' → SqL K H' a us ∨ SqT K H' a us) ∧ (∀ H', Same G2 H' → SqL K H' b ws ∨ SqT K H' b ws) ∧ DpAll K G2 us ds ∧ DpAll K G2 ws ds ∧ ds.length ≤ 1000 ∧ ∀ x ∈ ds, Okd n x := by
        cases d with
        | list ds =>
          obtain ⟨a, us, rfl, ha, hus⟩ := hu2.list
          obtain ⟨b, ws, rfl, hb, hws⟩ := hv2.list
          exact ⟨a, b, us, ws, ds, rfl, rfl, fun H' s => .inl (s.seq ha), fun H' s => .inl (s.seq hb), hus, hws, hd.1, hd.2⟩
        | tuple ds =>
          obtain ⟨a, us, rfl, ha, hus⟩ := hu2.tuple
          obtain ⟨b, ws, rfl, hb, hws⟩ := hv2.tuple
          exact ⟨a, b, us, ws, ds, rfl, rfl, fun H' s => .inr (s.tup ha), fun H' s => .inr (s.tup hb), hus, hws, hd.1, hd.2⟩
        | _ => simp [isD] at c
      obtain ⟨a, b, us, ws, ds, rfl, rfl, ha, hb, hus, hws, hdl, hdo⟩ := sq
      have hul := hus.len
      have hwl := hws.len
      refine ⟨.ref a, rfl, a, us, rfl, ha _ gr2.s, .ref b, rfl, b, ws, rfl, hb _ gr2.s, rfl, ?_⟩
      rw [hul, hwl]
      refine ⟨_, rfl, ?_⟩
      rw [decide_eq_true rfl]
      refine iteF ?_
      refine ⟨.ref b, rfl, b, ws, rfl, hb _ gr2.s, ((ds.length : Nat) : Int), by rw [hwl], by omega, by omega, ?_⟩
      have en : ((ds.length : Nat) : Int).toNat = ds.length := Int.toNat_natCast _
      refine lc_pure (K := K) (fun _ => none) gw_range gr2.s (by rw [en]; omega) (fun i x G3 H3 hi gr3 hy C1 C0 k1 k0 => ?_) fun D G3 H3 gr3 hD => ?_
      · subst hy
        rw [en] at hi
        obtain ⟨ui, eu, hui⟩ := hus.get (List.getElem?_eq_getElem hi)
        obtain ⟨wi, ew, hwi⟩ := hws.get (List.getElem?_eq_getElem hi)
        have s3 : Same G2 H3 := gr3.g.trans gr3.s
        have ra : rIx K (.ref a) (nV i) H3 = rIx K (.ref a) (nV i) H3 := rfl
        have ixa : ∀ Q : VK, Q ui H3 → rIx K (.ref a) (nV i) H3 Q := fun Q qq => by
          rcases ha _ s3 with z | z
          · exact .inl ⟨a, us, _, _, rfl, rfl, z, atI_nat eu, qq⟩
          · exact .inr (.inl ⟨a, us, _, _, rfl, rfl, z, atI_nat eu, qq⟩)
        have ixb : ∀ Q : VK, Q wi H3 → rIx K (.ref b) (nV i) H3 Q := fun Q qq => by
          rcases hb _ s3 with z | z
          · exact .inl ⟨b, ws, _, _, rfl, rfl, z, atI_nat ew, qq⟩
          · exact .inr (.inl ⟨b, ws, _, _, rfl, rfl, z, atI_nat ew, qq⟩)
        refine ⟨rfl, .ref a, rfl, nV i, rfl, ixa _ ?_⟩
        refine ⟨.ref b, rfl, nV i, rfl, ixb _ ?_⟩
        refine ⟨G3, ui, wi, ds[i], rfl, gr3.s, hui.up gr3.g, hwi.up gr3.g, hdo _ (List.getElem_mem hi), fun G4 H4 gr4 => ?_⟩
        exact ⟨true, rfl, iteF (k0 rfl _ _ gr4)⟩
      · have e0 : (List.range ((ds.length : Nat) : Int).toNat).filterMap (fun _ => (none : Option PyData)) = [] := by simp
        rw [e0] at hD
        have hD2 : Is K G3 eLs (.ref D) [] := hD
        refine ⟨small_line (by decide), fun e ne => ?_⟩
        have gr4 := Grow.new (M := M0) gr3.s ne (.lst [])
        refine ⟨eLs.to [], eLs.to [], (hD2.up gr4.g).up gr4.s, Dp.up (.lst (.of upd_same) .nil) gr4.s, eLs.shaped (by decide) _, eLs.shaped (by decide) _, ?_⟩
        rw [eLs.eqv]
        exact q _ _ (((gr1.trans gr2).trans gr3).trans gr4)
    · -- a number, a truth value
      have lf : (∃ i, d = .int i) ∨ ∃ b, d = .bool b := by
        cases d with
        | int i => exact .inl ⟨i, rfl⟩
        | bool b => exact .inr ⟨b, rfl⟩
        | list ds => exact absurd rfl c
        | tuple ds => exact absurd rfl c
        | none => cases hd
        | str x => cases hd
        | dict x => cases hd
      rcases lf with ⟨i, rfl⟩ | ⟨b, rfl⟩
      · have eu := Dp.of_int hu0
        have ev := Dp.of_int hv0
        subst eu ev
        refine ⟨.int i, rfl, rfl, false, rfl, iteF ?_⟩
        refine ⟨.int i, rfl, .int i, .ty "str", _, _, _, rfl, .ty _, ty_of (d := .int i) (.int i), kit_str K (.int i) hnd, _, rfl, iteF ?_⟩
        refine ⟨.int i, rfl, .int i, .ty "int", _, _, _, rfl, .ty _, ty_of (d := .int i) (.int i), kit_int K (.int i) hnd, _, rfl, iteT ?_⟩
        refine ⟨.int i, rfl, .int i, .ty "bool", _, _, _, rfl, .ty _, ty_of (d := .int i) (.int i), kit_bool K (.int i) hnd, .int i, rfl, .int i, .ty "bool", _, _, _, rfl, .ty _, ty_of (d := .int i) (.int i), kit_bool K (.int i) hnd, rfl, _, rfl, iteT ?_⟩
        refine ⟨.int i, rfl, .int i, rfl, .int i, .int i, .int i, .int i, rfl, rfl, ?_⟩
        have : PyData.eqv (.int i) (.int i) = true := by rw [PyData.eqv]; exact beq_self_eq_true i
        rw [this]
        exact q _ _ gr1
      · have eu := Dp.of_bool hu0
        have ev := Dp.of_bool hv0
        subst eu ev
        refine ⟨.bl b, rfl, rfl, false, rfl, iteF ?_⟩
        refine ⟨.bl b, rfl, .bl b, .ty "str", _, _, _, rfl, .ty _, ty_of (d := .bool b) (.bl b), kit_str K (.bool b) hnd, _, rfl, iteF ?_⟩
        refine ⟨.bl b, rfl, .bl b, .ty "int", _, _, _, rfl, .ty _, ty_of (d := .bool b) (.bl b), kit_int K (.bool b) hnd, _, rfl, iteT ?_⟩
        refine ⟨.bl b, rfl, .bl b, .ty "bool", _, _, _, rfl, .ty _, ty_of (d := .bool b) (.bl b), kit_bool K (.bool b) hnd, .bl b, rfl, .bl b, .ty "bool", _, _, _, rfl, .ty _, ty_of (d := .bool b) (.bl b), kit_bool K (.bool b) hnd, rfl, _, rfl, iteT ?_⟩
        refine ⟨.bl b, rfl, .bl b, rfl, .bool b, .bool b, .bl b, .bl b, rfl, rfl, ?_⟩
        have : PyData.eqv (.bool b) (.bool b) = true := by rw [PyData.eqv]; exact beq_self_eq_true b
        rw [this]
        exact q _ _ gr1
end
end LW
/-! the law: what is plain -/
namespace LW
open PySem PySem.Spec L2
open PyProof.Rows hiding St RelV
open C8 (Cal pe_c pe_gc)
open StX (pa_star)
theorem fct_cube : ∀ n, n ≤ 3 → LP.fct n ^ 3 ≤ 6 ^ n
  | 0, _ => by decide
  | 1, _ => by decide
  | 2, _ => by decide
  | 3, _ => by decide
  | n + 4, h => by omega
theorem wn_cube : ∀ Ts : List (List Nat), (∀ T ∈ Ts, T.length ≤ 3) → LP.wn Ts ^ 3 ≤ 6 ^ (Ts.flatten.length)
  | [], _ => by decide
  | T :: R, h => by
    rw [LP.wn_cons, List.flatten_cons, List.length_append, Nat.pow_add, Nat.mul_pow]
    exact Nat.mul_le_mul (fct_cube _ (h T List.mem_cons_self)) (wn_cube R fun U hU => h U (List.mem_cons_of_mem _ hU))
theorem told_wn36 {h w : Nat} {s g : LP.Pic} {Ts : List (List Nat)} (hh : h ≤ 3) (hw : w ≤ 3) (e : LP.toldOf h w s g = some Ts) : LP.wn Ts ≤ 36 := by
  have h1 := wn_cube Ts fun T hT => (LP.told_small hh hw e hT).len
  have h2 := LP.told_flat e
  have h3 : 6 ^ Ts.flatten.length ≤ 6 ^ 6 := Nat.pow_le_pow_right (by decide) (by omega)
  have h4 : (6 : Nat) ^ 6 = 46656 := by decide
  apply Classical.byContradiction
  intro z
  have h5 : 37 ^ 3 ≤ LP.wn Ts ^ 3 := Nat.pow_le_pow_left (by omega) 3
  have h6 : (37 : Nat) ^ 3 = 50653 := by decide
  omega
theorem any_mem {α : Type} [DecidableEq α] (e : Enc α) (xs : List α) (a : α) : ((xs.map e.to).any fun z => PyData.eqv z (e.to a)) = decide (a ∈ xs) := by
  induction xs with
  | nil => simp
  | cons x xs ih =>
    rw [List.map_cons, List.any_cons, ih, e.eqv, Bool.eq_iff_iff, Bool.or_eq_true, decide_eq_true_iff, decide_eq_true_iff, decide_eq_true_iff, List.mem_cons]
    constructor
    · rintro (h | h)
      · exact .inl h.symm
      · exact .inr h
    · rintro (h | h)
      · exact .inl h.symm
      · exact .inr h
theorem shows_nats {h w : Nat} {s g : LP.Pic} {Ts : List (List Nat)} {L : List Nat} (W : LP.Ways h w s g Ts L) (hT : LP.toldOf h w s g = some Ts) {d : List Nat} (hd : ∀ l ∈ d, l < h + w) : showsD h w s g (eLs.to d) = decide (d ∈ LP.waysL Ts.reverse) := by
  unfold showsD
  rw [hT]
  show (deedsD (h + w) (eLs.to d) && (decide ((natsD (eLs.to d)).length = (Ts.map List.length).sum) && decide (LP.paintAll h w s (natsD (eLs.to d)) = g))) = _
  rw [(nats_deeds hd).1, (nats_deeds hd).2, Bool.true_and, W.judge d hd]
theorem makes_nats {h w : Nat} {s g : LP.Pic} {d : List Nat} (hd : ∀ l ∈ d, l < h + w) : makesD h w s g (eLs.to d) = decide (LP.paintAll h w s d = g) := by
  unfold makesD
  rw [(nats_deeds hd).1, (nats_deeds hd).2, Bool.true_and]
theorem shows_not {h w : Nat} {s g : LP.Pic} {d : PyData} (hd : deedsD (h + w) d = false) : showsD h w s g d = false := by
  unfold showsD
  split
  · rfl
  · rw [hd]; rfl
/-- what is no way, whatever the ways -/
def bents (o : List Nat) (n : Nat) : List PyData := [.none, eTN.to o, eLs.to (o ++ [0]), .list [.none], .str (Str.ofString "0"), .list [.bool true], .list [.int (-1)], eLs.to (o ++ [n])]
theorem bent_not {h w : Nat} {s g : LP.Pic} {Ts : List (List Nat)} {L : List Nat} (W : LP.Ways h w s g Ts L) (hT : LP.toldOf h w s g = some Ts) {o : List Nat} (ho : o ∈ LP.waysL Ts.reverse) (hw : 0 < h + w) : ∀ d ∈ bents o (h + w), showsD h w s g d = false := by
  intro d hd
  have hb := W.bd o ho
  unfold bents at hd
  simp only [List.mem_cons, List.mem_nil_iff, or_false] at hd
  rcases hd with rfl | rfl | rfl | rfl | rfl | rfl | rfl | rfl
  · exact shows_not rfl
  · exact shows_not rfl
  · have hb2 : ∀ l ∈ o ++ [0], l < h + w := fun l hl => by
      rcases List.mem_append.mp hl with z | z
      · exact hb l z
      · rw [List.mem_singleton] at z; omega
    rw [shows_nats W hT hb2]
    apply decide_eq_false
    intro z
    have h1 := W.len _ z
    have h2 := W.len _ ho
    rw [List.length_append, h2] at h1
    simp at h1
  · exact shows_not rfl
  · exact shows_not rfl
  · exact shows_not rfl
  · exact shows_not rfl
  · apply shows_not
    show ((o ++ [h + w]).map eN.to).all _ = false
    rw [List.map_append, List.all_append]
    have : ([h + w].map eN.to).all (fun d => inD d 0 (((h + w : Nat) : Int) - 1)) = false := by
      show ((decide ((0 : Int) ≤ ((h + w : Nat) : Int)) && decide (((h + w : Nat) : Int) ≤ ((h + w : Nat) : Int) - 1)) && true) = false
      rw [decide_eq_false (show ¬ ((h + w : Nat) : Int) ≤ ((h + w : Nat) : Int) - 1 by omega)]
      rw [Bool.and_false]
      rfl
    rw [this, Bool.and_false]
theorem bent_len {o : List Nat} {n : Nat} (ho : o.length ≤ 100) : ∀ d ∈ bents o n, ∀ ds, d = .list ds → ds.length ≤ 1000 := by
  intro d hd ds e
  unfold bents at hd
  simp only [List.mem_cons, List.mem_nil_iff, or_false] at hd
  rcases hd with rfl | rfl | rfl | rfl | rfl | rfl | rfl | rfl
  · cases e
  · cases e
  · cases e; rw [List.length_map, List.length_append]; show _ + 1 ≤ _; omega
  · cases e; decide
  · cases e
  · cases e; decide
  · cases e; decide
  · cases e; rw [List.length_map, List.length_append]; show _ + 1 ≤ _; omega
theorem bent_shape {o : List Nat} {n : Nat} : ∀ d ∈ bents o n, SeqAt.shaped d = true := by
  intro d hd
  unfold bents at hd
  simp only [List.mem_cons, List.mem_nil_iff, or_false] at hd
  rcases hd with rfl | rfl | rfl | rfl | rfl | rfl | rfl | rfl
  · simp [SeqAt.shaped, PyData.canLay0, PyData.depth]
  · exact eTN.shaped (by decide) _
  · exact eLs.shaped (by decide) _
  · simp [SeqAt.shaped, PyData.canLay0, PyData.canLayAll0, PyData.depth, PyData.depthAll]
  · have : PyData.strOk (Str.ofString "0") = true := by decide +kernel
    simp [SeqAt.shaped, PyData.canLay0, PyData.depth, this]
  · simp [SeqAt.shaped, PyData.canLay0, PyData.canLayAll0, PyData.depth, PyData.depthAll]
  · simp [SeqAt.shaped, PyData.canLay0, PyData.canLayAll0, PyData.depth, PyData.depthAll]
  · exact eLs.shaped (by decide) _
theorem okd_int (n : Nat) (i : Int) : Okd (n + 1) (.int i) := by unfold Okd; trivial
theorem okd_bool (n : Nat) (b : Bool) : Okd (n + 1) (.bool b) := by unfold Okd; trivial
theorem okd_nats {n : Nat} {xs : List Nat} (h : xs.length ≤ 1000) : Okd (n + 2) (eLs.to xs) := by
  refine ⟨by rw [List.length_map]; exact h, fun x hx => ?_⟩
  obtain ⟨y, _, rfl⟩ := List.mem_map.mp hx
  exact okd_int n _
theorem okd_tup {n : Nat} {xs : List Nat} (h : xs.length ≤ 1000) : Okd (n + 2) (eTN.to xs) := by
  refine ⟨by rw [List.length_map]; exact h, fun x hx => ?_⟩
  obtain ⟨y, _, rfl⟩ := List.mem_map.mp hx
  exact okd_int n _
theorem okd_rows {n : Nat} {xs : List (List Nat)} (h : xs.length ≤ 1000) (h2 : ∀ x ∈ xs, x.length ≤ 1000) : Okd (n + 3) (eLL.to xs) := by
  refine ⟨by rw [List.length_map]; exact h, fun x hx => ?_⟩
  obtain ⟨y, hy, rfl⟩ := List.mem_map.mp hx
  exact okd_nats (h2 y hy)
/-- what stands while the law looks -/
structure Bag (K : PySem.W.Frag) (r ga : Addr) (vs vg vl : V) (gus : List V) (s g : LP.Pic) (GD : List (List Nat)) (L : List Nat) (G H : Hp) : Prop where
  hs : Is K G eP vs s
  hg : Is K G eP vg g
  sq : SqL K G ga gus
  all : DpAll K G gus (GD.map eLs.to)
  ll : Is K G eLs vl L
  row : RowAt K r G H
section
variable {K : PySem.W.Frag} {r ga : Addr} {vs vg vl : V} {gus : List V} {p0 g : LP.Pic} {GD : List (List Nat)} {L : List Nat} {G H G' H' : Hp}
theorem Bag.s (B : Bag K r ga vs vg vl gus p0 g GD L G H) : Same G H := B.row.s
theorem Bag.gd (B : Bag K r ga vs vg vl gus p0 g GD L G H) : Is K G eLL (.ref ga) GD := .lst B.sq B.all
theorem Bag.grow (B : Bag K r ga vs vg vl gus p0 g GD L G H) (gr : Grow M0 G H G' H') : Bag K r ga vs vg vl gus p0 g GD L G' H' :=
  ⟨B.hs.up gr.g, B.hg.up gr.g, gr.g.seq B.sq, B.all.up gr.g, B.ll.up gr.g, B.row.grow gr⟩
theorem Bag.grow1 (B : Bag K r ga vs vg vl gus p0 g GD L G H) (gr : Grow (M1 r) G H G' H') (R : RowAt K r G' H') : Bag K r ga vs vg vl gus p0 g GD L G' H' :=
  ⟨B.hs.up gr.g, B.hg.up gr.g, gr.g.seq B.sq, B.all.up gr.g, B.ll.up gr.g, R⟩
end
/-- the first deeds, of all ways -/
def headsL (GD : List (List Nat)) : List Int := (GD.filter fun o => decide (o ≠ [])).map fun o => ((o.getD 0 0 : Nat) : Int)
theorem mem_heads {GD : List (List Nat)} {x : Nat} : (x : Int) ∈ headsL GD ↔ ∃ o ∈ GD, o.head? = some x := by
  unfold headsL
  rw [List.mem_map]
  constructor
  · rintro ⟨o, ho, e⟩
    obtain ⟨h1, h2⟩ := List.mem_filter.mp ho
    have h3 := of_decide_eq_true h2
    refine ⟨o, h1, ?_⟩
    cases o with
    | nil => exact absurd rfl h3
    | cons y o =>
      show some y = some x
      have e2 : ((y : Nat) : Int) = (x : Int) := e
      congr 1
      omega
  · rintro ⟨o, ho, e⟩
    cases o with
    | nil => cases e
    | cons y o =>
      have e2 : y = x := Option.some.inj e
      subst e2
      exact ⟨y :: o, List.mem_filter.mpr ⟨ho, decide_eq_true (by simp)⟩, rfl⟩
theorem firsts_are {h w : Nat} {s g : LP.Pic} {Ts : List (List Nat)} {L : List Nat} (W : LP.Ways h w s g Ts L) {ns : List Int} (hp : ns.Pairwise (· < ·)) (hm : ∀ k : Int, k ∈ ns ↔ decide (k ∈ headsL (LP.waysL Ts.reverse)) = true) : ns = LP.up (firstL Ts) := by
  have hpos : ∀ k ∈ ns, ∃ x : Nat, k = (x : Int) := fun k hk => by
    have := of_decide_eq_true ((hm k).mp hk)
    unfold headsL at this
    obtain ⟨o, _, rfl⟩ := List.mem_map.mp this
    exact ⟨_, rfl⟩
  have e1 : ns = LP.up (ns.map Int.toNat) := by
    unfold LP.up
    rw [List.map_map]
    refine ((List.map_congr_left fun k hk => ?_).trans (List.map_id ns)).symm
    obtain ⟨x, rfl⟩ := hpos k hk
    rfl
  rw [e1]
  congr 1
  have asc : (ns.map Int.toNat).Pairwise (· < ·) := by
    rw [List.pairwise_map]
    refine List.Pairwise.imp_of_mem (fun {a b} ha hb q => ?_) hp
    obtain ⟨x, rfl⟩ := hpos a ha
    obtain ⟨y, rfl⟩ := hpos b hb
    show ((x : Nat) : Int).toNat < ((y : Nat) : Int).toNat
    omega
  have mem : ∀ x, x ∈ ns.map Int.toNat ↔ ∃ o ∈ LP.waysL Ts.reverse, o.head? = some x := fun x => by
    rw [← mem_heads, List.mem_map]
    constructor
    · rintro ⟨k, hk, rfl⟩
      obtain ⟨y, rfl⟩ := hpos k hk
      exact of_decide_eq_true ((hm _).mp hk)
    · intro hx
      exact ⟨(x : Int), (hm _).mpr (decide_eq_true hx), rfl⟩
  unfold firstL
  cases q : Ts.getLast? with
  | some T => exact LP.firsts W q asc mem
  | none =>
    have eT : Ts = [] := List.getLast?_eq_none_iff.mp q
    subst eT
    show ns.map Int.toNat = []
    cases hns : ns.map Int.toNat with
    | nil => rfl
    | cons x xs =>
      obtain ⟨o, ho, hx⟩ := (mem x).mp (by rw [hns]; exact List.mem_cons_self)
      have ho2 : o ∈ [[]] := ho
      rw [List.mem_singleton] at ho2
      subst ho2
      cases hx
end LW
/-! the law -/
namespace LW
open PySem PySem.Spec L2
open PyProof.Rows hiding St RelV
open C8 (Cal pe_c pe_gc)
open StX (pa_star)
theorem all_ints {K : PySem.W.Frag} {G : Hp} : ∀ {vs : List V} {xs : List Int}, DpAll K G vs (xs.map PyData.int) → vs = xs.map V.int
  | _, [], h => by cases h; rfl
  | _, x :: xs, h => by
    cases h with
    | cons a b => rw [Dp.of_int a, all_ints b]; rfl
section
variable {P : Program} {w : World} {K : PySem.W.Frag} {mg : Str → Option Value} {base : Heap}
abbrev s_law : Stmt := topS 58
abbrev n_law : List Str := ["_law_script", "_law_row", "_law_goal", "_law_start_here", "_law_least_here", "_law_good", "_law_firsts", "_law_deeds_here", "_law_drawn", "_law_bent", "_law_value", "_law_told", "_law_at"]
theorem sc_law : FnScope n_law ["_law_script"] (defScope s_law) := ⟨rfl, rfl, rfl, by decide +kernel, rfl, by decide +kernel, by decide +kernel⟩
def sp_law (K : PySem.W.Frag) : Sp := fun vs H Q _ => ∃ (a : Addr) (ns : List Int), vs = [.ref a] ∧ SqL K H a (ns.map V.int) ∧ ns.length ≤ 63 ∧ ∀ H', Q (.bl true) H'
theorem ok_law (T : Txt mg) {f : Addr} {fd : FuncData} (F : Fun K "law" "law" s_law f fd)
    (c_law_picture : Cal P w K mg base 4 "_law_picture" (sp_law_picture K) []) (c_law_start : Cal P w K mg base 4 "_law_start" (sp_law_start K) []) (c_law_least : Cal P w K mg base 2 "_law_least" (sp_law_least K) [])
    (c_count_ways : Cal P w K mg base 4 "count_ways" (sp_count_ways K) []) (c_ways : Cal P w K mg base 6 "ways" (sp_ways K) []) (c_shows_way : Cal P w K mg base 4 "shows_way" (sp_shows_way K) [])
    (c_law_orders : Cal P w K mg base 1 "_law_orders" (sp_law_orders K) []) (c_law_painted : Cal P w K mg base 2 "_law_painted" (sp_law_painted K) []) (c_law_alike : Cal P w K mg base 4 "_law_alike" (sp_law_alike K 3) [])
    (c_way : Cal P w K mg base 5 "way" (sp_way K) []) (c_way_at : Cal P w K mg base 4 "way_at" (sp_way_at K) []) (c_way_number : Cal P w K mg base 5 "way_number" (sp_way_number K) [])
    (c_first_deeds : Cal P w K mg base 5 "first_deeds" (sp_first_deeds K) []) (c_law_mixed : Cal P w K mg base 2 "_law_mixed" (sp_law_mixed K) []) (c_law_deeds : Cal P w K mg base 2 "_law_deeds" (sp_law_deeds K) [])
    (c_shows_deeds : Cal P w K mg base 4 "shows_deeds" (sp_shows_deeds K) []) : FnOk P w K mg base CX0 65 f fd ["_law_script"] (sp_law K) := by
  refine F.ok sc_law (fun vs H Q E h => ?_) (fun cdv A outer s H vs Q E hr h => ?_)
  · obtain ⟨a, ns, rfl, _⟩ := h
    rfl
  obtain ⟨S, xs, rfl, hS, hxl, q⟩ := h
  have hu1 := hu_of hr
  have hu := hr.units
  have hu2 : (A.deeper (envOfC (Str.ofString "law") (defScope s_law) s.heap.objs.size f cdv)).units + 65 < cLine := by
    have := hr.un
    omega
  refine ⟨_, (pss_cons (ps_set (i := 1) sc_law.nd rfl (.inl rfl) (pe_lst (pa_cons (pv 0) (pa_cons pe_int (pa_cons pe_int (pa_cons pe_int pa_nil))))))
      (pss_cons (ps_set (i := 2) sc_law.nd rfl (.inr rfl) (pe_c c_law_picture hr (by decide) rfl (pa_cons (pv 1) (pa_cons pe_int pa_nil))))
      (pss_cons (ps_set (i := 3) sc_law.nd rfl (.inr rfl) (pe_c c_law_start hr (by decide) rfl (pa_cons (pv 1) (pa_cons (pv 2) pa_nil))))
      (pss_cons (ps_set (i := 4) sc_law.nd rfl (.inl rfl) (pe_c c_law_least hr (by decide) rfl (pa_cons (pv 3) (pa_cons (pv 2) pa_nil))))
      (pss_cons (ps_if (pt_cmpR op_isN (pv 4) pe_non (nomark _)) (pss_one (ps_ret (pe_and (pe_cmpR op_eq (pe_c c_count_ways hr (by decide) rfl (pa_cons (pv 3) (pa_cons (pv 2) pa_nil))) pe_int (nomark _)) (pe_and (pe_cmpR (k_eqD K rfl hu) (pe_c c_ways hr (by decide) rfl (pa_cons (pv 3) (pa_cons (pv 2) pa_nil))) (pe_lst pa_nil) (nomark _)) (pe_one (pe_cmpR op_isBl (pe_c c_shows_way hr (by decide) rfl (pa_cons (pv 3) (pa_cons (pv 2) (pa_cons (pe_lst pa_nil) pa_nil)))) pe_bl (nomark _))))))) pss_nil)
      (pss_cons (ps_set (i := 5) sc_law.nd rfl (.inr rfl) (pe_callB (k_sortedG K rfl hu) (by rfl) T.sorted_ bt_sorted (pa_cons (pe_lc (own := [("_law_told", 11)]) rfl sc_law.nd (k_piL K rfl (pe_c c_law_orders hr (by decide) rfl (pa_cons (pv 4) pa_nil))) (blkOk_by (own := [("_law_told", 11)]) (N := n_law) (sc := defScope s_law) (by decide +kernel)) (fun _ _ _ _ _ => (pg_name (i := 11) sc_law.nd rfl (.inl rfl))) (fun _ _ _ _ _ => pts_one (pt_cmpR (k_eqD K rfl hu) (pe_c c_law_painted hr (by decide) rfl (pa_cons (pv 3) (pa_cons (pv 11) pa_nil))) (pv 2) (nomark _))) (fun _ _ _ _ _ => (pv 11))) pa_nil)))
      (pss_cons (ps_if (PW.pt (pw_or (pt_not (pt_val (pe_c c_law_alike hr (by decide) rfl (pa_cons (pe_c c_ways hr (by decide) rfl (pa_cons (pv 3) (pa_cons (pv 2) pa_nil))) (pa_cons (pv 5) pa_nil))) (fun _ => rfl))) (pw_or (pt_not (pt_val (pe_c c_law_alike hr (by decide) rfl (pa_cons (pe_c c_count_ways hr (by decide) rfl (pa_cons (pv 3) (pa_cons (pv 2) pa_nil))) (pa_cons (pe_callB (k_len K) (by rfl) T.len_ PySem.boot_len (pa_cons (pv 5) pa_nil)) pa_nil))) (fun _ => rfl))) (pw_or1 (pt_cmpR (k_eqD K rfl hu) (pv 5) (pe_lst pa_nil) (nomark _)))))) (pss_one (ps_ret pe_bl)) pss_nil)
      (pss_cons (ps_if (PW.pt (pw_or (pt_cmpR (k_notinD K rfl hu2) (pe_c c_way hr (by decide) rfl (pa_cons (pv 3) (pa_cons (pv 2) pa_nil))) (pv 5) (by rfl)) (pw_or1 (pt_cmpR (k_neD K rfl hu) (pe_lc (own := [("_law_at", 12)]) rfl sc_law.nd (pi_range1 rfl T.range_ (pa_cons (pe_callB (k_len K) (by rfl) T.len_ PySem.boot_len (pa_cons (pv 5) pa_nil)) pa_nil)) (blkOk_by (own := [("_law_at", 12)]) (N := n_law) (sc := defScope s_law) (by decide +kernel)) (fun _ _ _ _ _ => (pg_name (i := 12) sc_law.nd rfl (.inl rfl))) (fun _ _ _ _ _ => pts_nil) (fun _ _ _ _ _ => (pe_c c_way_at hr (by decide) rfl (pa_cons (pv 3) (pa_cons (pv 2) (pa_cons (pv 12) pa_nil)))))) (pv 5) (nomark _))))) (pss_one (ps_ret pe_bl)) pss_nil)
      (pss_cons (ps_if (pt_cmpR (k_neD K rfl hu) (pe_lc (own := [("_law_told", 11)]) rfl sc_law.nd (k_piL K rfl (pv 5)) (blkOk_by (own := [("_law_told", 11)]) (N := n_law) (sc := defScope s_law) (by decide +kernel)) (fun _ _ _ _ _ => (pg_name (i := 11) sc_law.nd rfl (.inl rfl))) (fun _ _ _ _ _ => pts_nil) (fun _ _ _ _ _ => (pe_c c_way_number hr (by decide) rfl (pa_cons (pv 3) (pa_cons (pv 2) (pa_cons (pv 11) pa_nil)))))) (pe_listRg rfl rfl T.list_ (prg_1 rfl T.range_ (pe_callB (k_len K) (by rfl) T.len_ PySem.boot_len (pa_cons (pv 5) pa_nil)))) (nomark _)) (pss_one (ps_ret pe_bl)) pss_nil)
      (pss_cons (ps_set (i := 6) sc_law.nd rfl (.inl rfl) (pe_callB (cr_sortedSet rfl) (by rfl) T.sorted_ bt_sorted (pa_cons (pe_callTy (cr_setLI rfl) (by rfl) T.set_ bt_set (pa_cons (pe_lc (own := [("_law_told", 11)]) rfl sc_law.nd (k_piL K rfl (pv 5)) (blkOk_by (own := [("_law_told", 11)]) (N := n_law) (sc := defScope s_law) (by decide +kernel)) (fun _ _ _ _ _ => (pg_name (i := 11) sc_law.nd rfl (.inl rfl))) (fun _ _ _ _ _ => pts_one (pt_cmpR (k_neD K rfl hu) (pv 11) (pe_lst pa_nil) (nomark _))) (fun _ _ _ _ _ => (pe_ix (k_ixL K) (pv 11) pe_int (fun _ _ => rfl)))) pa_nil)) pa_nil)))
      (pss_cons (ps_if (pt_not (pt_val (pe_c c_law_alike hr (by decide) rfl (pa_cons (pe_c c_first_deeds hr (by decide) rfl (pa_cons (pv 3) (pa_cons (pv 2) pa_nil))) (pa_cons (pe_callTy (k_tuple K) (by rfl) T.tuple_ bt_tuple (pa_cons (pv 6) pa_nil)) pa_nil))) (fun _ => rfl))) (pss_one (ps_ret pe_bl)) pss_nil)
      (pss_cons (ps_set (i := 7) sc_law.nd rfl (.inl rfl) (pe_c c_law_mixed hr (by decide) rfl (pa_cons (pv 1) (pa_cons (pv 4) pa_nil))))
      (pss_cons (ps_if (pt_not (pt_val (pe_c c_law_alike hr (by decide) rfl (pa_cons (pe_c c_shows_way hr (by decide) rfl (pa_cons (pv 3) (pa_cons (pv 2) (pa_cons (pv 7) pa_nil)))) (pa_cons (pe_cmpR (k_inD K rfl hu2) (pv 7) (pv 5) (by rfl)) pa_nil))) (fun _ => rfl))) (pss_one (ps_ret pe_bl)) pss_nil)
      (pss_cons (ps_set (i := 8) sc_law.nd rfl (.inl rfl) (pe_c c_law_deeds hr (by decide) rfl (pa_cons (pv 1) (pa_cons (pv 3) (pa_cons pe_int pa_nil)))))
      (pss_cons (ps_if (pt_not (pt_val (pe_c c_law_alike hr (by decide) rfl (pa_cons (pe_c c_shows_deeds hr (by decide) rfl (pa_cons (pv 3) (pa_cons (pv 2) (pa_cons (pv 8) pa_nil)))) (pa_cons (pe_cmpR (k_eqD K rfl hu) (pe_c c_law_painted hr (by decide) rfl (pa_cons (pv 3) (pa_cons (pv 8) pa_nil))) (pv 2) (nomark _)) pa_nil))) (fun _ => rfl))) (pss_one (ps_ret pe_bl)) pss_nil)
      (pss_cons (ps_if (pt_not (pt_val (pe_c c_law_alike hr (by decide) rfl (pa_cons (pe_c c_shows_way hr (by decide) rfl (pa_cons (pv 3) (pa_cons (pv 2) (pa_cons (pv 8) pa_nil)))) (pa_cons (pe_cmpR (k_inD K rfl hu2) (pv 8) (pv 5) (by rfl)) pa_nil))) (fun _ => rfl))) (pss_one (ps_ret pe_bl)) pss_nil)
      (pss_cons (ps_set (i := 9) sc_law.nd rfl (.inl rfl) (pe_lst (pa_cons pe_non (pa_cons (pe_callTy (k_tuple K) (by rfl) T.tuple_ bt_tuple (pa_cons (pe_ix (k_ixL K) (pv 5) pe_int (fun _ _ => rfl)) pa_nil)) (pa_cons (pe_op (k_catL K) (pe_ix (k_ixL K) (pv 5) pe_int (fun _ _ => rfl)) (pe_lst (pa_cons pe_int pa_nil))) (pa_cons (pe_lst (pa_cons pe_non pa_nil)) (pa_cons pe_str (pa_cons (pe_lst (pa_cons pe_bl pa_nil)) (pa_cons (pe_lst (pa_cons (pe_un un_neg pe_int) pa_nil)) (pa_cons (pe_op (k_catL K) (pe_ix (k_ixL K) (pv 5) pe_int (fun _ _ => rfl)) (pe_lst (pa_cons (pe_op op_add (pe_callB (k_len K) (by rfl) T.len_ PySem.boot_len (pa_cons (pv 2) pa_nil)) (pe_callB call_len_str (by rfl) T.len_ PySem.boot_len (pa_cons (pe_ix (k_ixT K) (pv 2) pe_int (fun _ _ => rfl)) pa_nil))) pa_nil))) pa_nil))))))))))
      (pss_cons (ps_setLc (i := 9) (own := [("_law_value", 10)]) rfl sc_law.nd rfl rfl (sw_true rfl rfl rfl (by decide +kernel)) (k_piL K rfl (pv 9)) (blkOk_by (own := [("_law_value", 10)]) (N := n_law) (sc := defScope s_law) (by decide +kernel)) (fun _ _ _ _ _ => (pg_name (i := 10) sc_law.nd rfl (.inl rfl))) (fun _ _ _ _ _ => pts_one (pt_cmpR (k_notinD K rfl hu2) (pv 10) (pv 5) (by rfl))) (fun _ _ _ _ _ => (pv 10)))
      (pss_one (ps_ret (pe_and (pe_cmpR (k_eqD K rfl hu) (pe_lc (own := [("_law_value", 10)]) rfl sc_law.nd (k_piL K rfl (pv 9)) (blkOk_by (own := [("_law_value", 10)]) (N := n_law) (sc := defScope s_law) (by decide +kernel)) (fun _ _ _ _ _ => (pg_name (i := 10) sc_law.nd rfl (.inl rfl))) (fun _ _ _ _ _ => pts_one (pt_cmpR op_notBl (pe_c c_shows_way hr (by decide) rfl (pa_cons (pv 3) (pa_cons (pv 2) (pa_cons (pv 10) pa_nil)))) pe_bl (nomark _))) (fun _ _ _ _ _ => (pv 10))) (pe_lst pa_nil) (nomark _)) (pe_one (pe_cmpR op_isBl (pe_c c_shows_deeds hr (by decide) rfl (pa_cons (pv 3) (pa_cons (pv 2) (pa_cons (pe_callTy (k_tuple K) (by rfl) T.tuple_ bt_tuple (pa_cons (pe_ix (k_ixL K) (pv 5) pe_int (fun _ _ => rfl)) pa_nil)) pa_nil)))) pe_bl (nomark _)))))))))))))))))))))))), ?_⟩
  -- the row
  refine ⟨.ref S, rfl, (by show 4 ≤ _; exact small_line (by decide)), fun r nr => ?_⟩
  have R1 : RowAt K r H (upd H r (.lst [.ref S, .int 0, .int 5310, .int 0])) := by
    refine ⟨fun b o e => ?_, nr, S, xs, 0, 5310, 0, upd_same, by decide, hS⟩
    rw [upd_ne (ne_of_none e nr)]
    exact e
  generalize upd H r (.lst [.ref S, .int 0, .int 5310, .int 0]) = H1 at R1
  refine ⟨.ref r, rfl, H, r, rfl, R1, fun vg h wd g G2 H2 okg gr2 R2 hg2 => ?_⟩
  refine ⟨.ref r, rfl, vg, rfl, G2, r, vg, h, wd, g, rfl, R2, hg2, okg, fun vs s0 G3 H3 oks gr3 R3 hs3 => ?_⟩
  have hg3 := hg2.up gr3.g
  refine ⟨vs, rfl, vg, rfl, G3, vs, vg, h, wd, s0, g, rfl, R3.s, hs3, hg3, oks, okg, fun vl G4 H4 gr4 hl4 => ?_⟩
  have R4 := R3.grow gr4
  have hs4 := hs3.up gr4.g
  have hg4 := hg3.up gr4.g
  have h3 := okg.h3
  have w3 := okg.w3
  have h1 := okg.h1
  cases hT : LP.toldOf h wd s0 g with
  | none =>
    rw [hT] at hl4
    have e4 : vl = .non := hl4
    subst e4
    refine ⟨.non, rfl, rfl, true, rfl, iteT ?_⟩
    refine ⟨vs, rfl, vg, rfl, G4, vs, vg, h, wd, s0, g, rfl, R4.s, hs4, hg4, oks, okg, fun G5 H5 gr5 => ?_⟩
    rw [hT]
    refine ⟨rfl, true, rfl, iteT ?_⟩
    refine ⟨vs, rfl, vg, rfl, G5, vs, vg, h, wd, s0, g, rfl, gr5.s, hs4.up gr5.g, hg4.up gr5.g, oks, okg, fun v6 G6 H6 gr6 hv6 => ?_⟩
    rw [hT] at hv6
    have gr56 := gr5.trans gr6
    refine ⟨small_line (by decide), fun e ne => ?_⟩
    have gr7 := Grow.new (M := M0) gr6.s ne (.lst [])
    refine ⟨eLL.to [], eLL.to [], (hv6.up gr7.g).up gr7.s, Dp.up (.lst (.of upd_same) .nil) gr7.s, eLL.shaped (by decide) _, eLL.shaped (by decide) _, ?_⟩
    rw [eLL.eqv]
    refine ⟨_, rfl, iteT ?_⟩
    have gr57 := gr56.trans gr7
    refine ⟨vs, rfl, vg, rfl, small_line (by decide), fun e2 ne2 => ?_⟩
    have gr8 := Grow.new (M := M0) gr7.s ne2 (.lst [])
    have gr58 := gr57.trans gr8
    refine ⟨_, vs, vg, .ref e2, h, wd, s0, g, eLs.to [], rfl, gr8.s, hs4.up gr58.g, hg4.up gr58.g, oks, okg, .lst (.of upd_same) .nil, fun ds e => by cases e; exact Nat.zero_le _, fun G9 H9 gr9 => ?_⟩
    have es : showsD h wd s0 g (eLs.to []) = false := by unfold showsD; rw [hT]
    rw [es]
    exact ⟨false, false, rfl, rfl, q _⟩
  | some Ts =>
    rw [hT] at hl4
    obtain ⟨L, hLp, hl⟩ := hl4
    have W := LP.ways_of oks.wf okg.wf hT hLp
    have hfl := LP.told_flat hT
    have hL6 : L.length ≤ 6 := by rw [hLp.length_eq]; omega
    obtain ⟨la, rfl, hla⟩ := is_nats hl
    have wn36 := told_wn36 h3 w3 hT
    have GDl : (LP.waysL Ts.reverse).length = LP.wn Ts := by rw [LP.waysL_len, LP.wn_reverse]
    have hol : ∀ o ∈ LP.waysL Ts.reverse, o.length ≤ 6 := fun o ho => by
      have := W.len o ho
      have := W.many
      omega
    refine ⟨.ref la, rfl, rfl, false, rfl, iteF ?_⟩
    -- good
    refine ⟨.ref la, rfl, G4, .ref la, L, rfl, R4.s, hl, hL6, fun vo G5 H5 gr5 ho5 => ?_⟩
    obtain ⟨oa, ous, rfl, hoa, hous⟩ := is_list ho5
    have hool := all_len hous
    have hLO : (LP.lawOrders L).length ≤ 46656 := by
      have h1 := lawF_len L [[]] 0 1 (fun o ho => by rw [List.mem_singleton] at ho; rw [ho]; rfl) (by omega) (by decide)
      have h2 : 6 ^ L.length ≤ 6 ^ 6 := Nat.pow_le_pow_right (by decide) hL6
      have h3 : (6 : Nat) ^ 6 = 46656 := by decide
      have h4 : (LP.lawOrders L).length ≤ 1 * 6 ^ L.length := h1
      omega
    refine ⟨oa, rfl, ⟨_, gr5.s.seq hoa⟩, ?_⟩
    refine lc_pure (K := K) (fun i => ((LP.lawOrders L)[i]?).bind fun o => if decide (LP.paintAll h wd s0 o = g) = true then some (eLs.to o) else none) (gw_list hoa) gr5.s (by omega) (fun i y G6 H6 hi gr6 hy C1 C0 k1 k0 => ?_) fun D G6 H6 gr6 hD => ?_
    · obtain ⟨o, ho, hyo⟩ := all_at (hous.up gr6.g) hy
      have gr46 := gr5.trans gr6
      refine ⟨rfl, vs, rfl, y, rfl, G6, vs, y, h, wd, s0, o, rfl, gr6.s, hs4.up gr46.g, oks, hyo, fun v7 G7 H7 gr7 hv7 => ?_⟩
      refine ⟨vg, rfl, eP.to (LP.paintAll h wd s0 o), eP.to g, hv7.up gr7.s, ((hg4.up gr46.g).up gr7.g).up gr7.s, eP.shaped (by decide) _, eP.shaped (by decide) _, ?_⟩
      rw [eP.eqv]
      refine ⟨_, rfl, ite2 (fun c => ?_) (fun c => ?_)⟩
      · exact ⟨y, rfl, k1 _ _ _ _ (by rw [ho]; exact if_pos c) gr7 (hyo.up gr7.g)⟩
      · exact k0 (by rw [ho]; exact if_neg c) _ _ gr7
    rw [hool, fm_filter (fun o => decide (LP.paintAll h wd s0 o = g)) eLs.to] at hD
    have hD2 : Is K G6 eLL (.ref D) ((LP.lawOrders L).filter fun o => decide (LP.paintAll h wd s0 o = g)) := hD
    refine ⟨G6, .ref D, _, rfl, gr6.s, hD2, Nat.le_trans (List.length_filter_le _ _) (by omega), fun v7 G7 H7 gr7 h7 => ?_⟩
    rw [W.good] at h7
    obtain ⟨ga, gus, rfl, hga, hgus⟩ := is_list h7
    have hgl := all_len hgus
    rw [GDl] at hgl
    have gr47 := (gr5.trans gr6).trans gr7
    have B7 : Bag K r ga vs vg (.ref la) gus s0 g (LP.waysL Ts.reverse) L G7 H7 := ⟨hs4.up gr47.g, hg4.up gr47.g, hga, hgus, hl.up gr47.g, R4.grow gr47⟩
    have okGD : Okd 3 (eLL.to (LP.waysL Ts.reverse)) := okd_rows (by rw [GDl]; omega) fun o ho => by have := hol o ho; omega
    clear hD hD2 h7 hga hgus hoa hous ho5 hl hla
    -- ways, count_ways
    refine ⟨vs, rfl, vg, rfl, G7, vs, vg, h, wd, s0, g, rfl, B7.s, B7.hs, B7.hg, oks, okg, fun v8 G8 H8 gr8 h8 => ?_⟩
    rw [hT] at h8
    have h8 : Is K G8 eLL v8 ((LP.waysL Ts.reverse).mergeSort LP.le2) := h8
    rw [W.sort] at h8
    have B8 := B7.grow gr8
    refine ⟨.ref ga, rfl, G8, v8, .ref ga, eLL.to (LP.waysL Ts.reverse), rfl, B8.s, h8, B8.gd, okGD, fun G9 H9 gr9 => ⟨true, rfl, iteF ?_⟩⟩
    have B9 := B8.grow gr9
    refine ⟨vs, rfl, vg, rfl, G9, vs, vg, h, wd, s0, g, rfl, B9.s, B9.hs, B9.hg, oks, okg, fun G10 H10 gr10 => ?_⟩
    have B10 := B9.grow gr10
    refine ⟨.ref ga, rfl, ga, gus, rfl, .inl (B10.s.seq B10.sq), G10, _, _, .int ((LP.wn Ts : Nat) : Int), rfl, B10.s, by rw [hT]; exact .int _, by rw [hgl]; exact .int _, okd_int 2 _, fun G11 H11 gr11 => ⟨true, rfl, iteF ?_⟩⟩
    have B11 := B10.grow gr11
    have hne : LP.waysL Ts.reverse ≠ [] := fun z => by
      have := W.way
      rw [z] at this
      cases this
    refine ⟨.ref ga, rfl, small_line (by decide), fun e12 ne12 => ?_⟩
    have gr12 := Grow.new (M := M0) B11.s ne12 (.lst [])
    have B12 := B11.grow gr12
    refine ⟨eLL.to (LP.waysL Ts.reverse), eLL.to [], B12.gd.up B12.s, Dp.up (.lst (.of upd_same) .nil) B12.s, eLL.shaped (by decide) _, eLL.shaped (by decide) _, ?_⟩
    rw [eLL.eqv]
    refine ⟨_, rfl, ite2 (fun c => absurd (of_decide_eq_true c) hne) (fun _ => ?_)⟩
    -- way, way_at
    refine ⟨vs, rfl, vg, rfl, _, vs, vg, h, wd, s0, g, Ts, rfl, B12.s, B12.hs, B12.hg, oks, okg, hT, fun v13 G13 H13 gr13 h13 => ?_⟩
    have B13 := B12.grow gr13
    refine ⟨.ref ga, rfl, eLs.to Ts.reverse.flatten, (LP.waysL Ts.reverse).map eLs.to, h13.up B13.s, B13.gd.up B13.s, eLs.shaped (by decide) _, eLL.shaped (by decide) _, _, rfl, ?_⟩
    refine ite2 (fun c => ?_) (fun _ => ?_)
    · have c2 : (!((LP.waysL Ts.reverse).map eLs.to).any fun z => PyData.eqv z (eLs.to Ts.reverse.flatten)) = true := c
      rw [any_mem, Bool.not_eq_true', decide_eq_false_iff_not] at c2
      exact absurd W.way c2
    refine ⟨.ref ga, rfl, ga, gus, rfl, .inl (B13.s.seq B13.sq), ((LP.wn Ts : Nat) : Int), by rw [hgl], by omega, by omega, ?_⟩
    have ewn : ((LP.wn Ts : Nat) : Int).toNat = LP.wn Ts := Int.toNat_natCast _
    refine lc_pure (K := K) (fun i => ((LP.waysL Ts.reverse)[i]?).map eLs.to) gw_range B13.s (by rw [ewn]; omega) (fun i x G14 H14 hi gr14 hy C1 C0 k1 k0 => ?_) fun D G14 H14 gr14 hD => ?_
    · subst hy
      rw [ewn, ← GDl] at hi
      have B14 := B13.grow gr14
      refine ⟨rfl, vs, rfl, vg, rfl, nV i, rfl, G14, vs, vg, h, wd, i, s0, g, Ts, (LP.waysL Ts.reverse)[i], rfl, B14.s, B14.hs, B14.hg, oks, okg, hT, List.getElem?_eq_getElem hi, fun v15 G15 H15 gr15 h15 => ?_⟩
      exact k1 _ _ _ _ (by show Option.map _ _ = _; rw [List.getElem?_eq_getElem hi]; rfl) gr15 h15
    have B14 := B13.grow gr14
    rw [ewn, ← GDl, fm_get] at hD
    have hD : Is K G14 eLL (.ref D) (LP.waysL Ts.reverse) := hD
    refine ⟨.ref ga, rfl, eLL.to (LP.waysL Ts.reverse), eLL.to (LP.waysL Ts.reverse), hD.up B14.s, B14.gd.up B14.s, eLL.shaped (by decide) _, eLL.shaped (by decide) _, ?_⟩
    rw [eLL.eqv, decide_eq_true rfl]
    refine ⟨_, rfl, iteF ?_⟩
    clear hD
    -- way_number
    refine ⟨.ref ga, rfl, ga, rfl, ⟨_, B14.s.seq B14.sq⟩, ?_⟩
    refine lc_pure (K := K) (fun i => some (eN.to i)) (gw_list B14.sq) B14.s (by omega) (fun i y G15 H15 hi gr15 hy C1 C0 k1 k0 => ?_) fun D G15 H15 gr15 hD => ?_
    · have B15 := B14.grow gr15
      obtain ⟨o, ho, hyo⟩ := all_at B15.all hy
      have hom := List.mem_of_getElem? ho
      have hsh : showsD h wd s0 g (eLs.to o) = true := by rw [shows_nats W hT (W.bd o hom)]; exact decide_eq_true hom
      refine ⟨rfl, vs, rfl, vg, rfl, y, rfl, G15, vs, vg, y, h, wd, i, s0, g, Ts, o, rfl, B15.s, B15.hs, B15.hg, oks, okg, hyo, hsh, hT, ho, fun G16 H16 gr16 => ?_⟩
      exact k1 _ _ _ _ rfl gr16 (.int _)
    have B15 := B14.grow gr15
    rw [hgl, fm_map] at hD
    have hD : Is K G15 eLs (.ref D) (List.range (LP.wn Ts)) := hD
    refine ⟨.ref ga, rfl, ga, gus, rfl, .inl (B15.s.seq B15.sq), ((LP.wn Ts : Nat) : Int), by rw [hgl], RgOk.of_le (by decide) (by omega) (by decide) (by omega), fun l nl => ?_⟩
    have gr16 := Grow.new (M := M0) B15.s nl (.lst (rgV 0 ((LP.wn Ts : Nat) : Int)))
    have hl16 : Is K (upd G15 l (.lst (rgV 0 ((LP.wn Ts : Nat) : Int)))) eLs (.ref l) (List.range (LP.wn Ts)) := by
      rw [rg_nV]
      exact nats_is (.of upd_same)
    have B16 := B15.grow gr16
    refine ⟨eLs.to (List.range (LP.wn Ts)), eLs.to (List.range (LP.wn Ts)), (hD.up gr16.g).up gr16.s, hl16.up gr16.s, eLs.shaped (by decide) _, eLs.shaped (by decide) _, ?_⟩
    rw [eLs.eqv, decide_eq_true rfl]
    refine ⟨_, rfl, iteF ?_⟩
    generalize upd G15 l (.lst (rgV 0 ((LP.wn Ts : Nat) : Int))) = G16 at B16
    generalize upd H15 l (.lst (rgV 0 ((LP.wn Ts : Nat) : Int))) = H16 at B16
    clear hD hl16 gr16
    -- firsts
    refine ⟨.ref ga, rfl, ga, rfl, ⟨_, B16.s.seq B16.sq⟩, ?_⟩
    refine lc_pure (K := K) (fun i => ((LP.waysL Ts.reverse)[i]?).bind fun o => if decide (o ≠ []) = true then some (PyData.int ((o.getD 0 0 : Nat) : Int)) else none) (gw_list B16.sq) B16.s (by omega) (fun i y G17 H17 hi gr17 hy C1 C0 k1 k0 => ?_) fun D G17 H17 gr17 hD => ?_
    · have B17 := B16.grow gr17
      obtain ⟨o, ho, hyo⟩ := all_at B17.all hy
      refine ⟨rfl, y, rfl, small_line (by decide), fun e18 ne18 => ?_⟩
      have gr18 := Grow.new (M := M0) gr17.s ne18 (.lst [])
      refine ⟨eLs.to o, eLs.to [], (hyo.up gr18.g).up gr18.s, Dp.up (.lst (.of upd_same) .nil) gr18.s, eLs.shaped (by decide) _, eLs.shaped (by decide) _, ?_⟩
      rw [eLs.eqv]
      refine ⟨_, rfl, ite2 (fun c => ?_) (fun c => ?_)⟩
      · have c2 : o ≠ [] := fun z => by rw [z] at c; cases c
        obtain ⟨oa, rfl, hoa⟩ := is_nats (hyo.up gr18.g)
        obtain ⟨z, o2, rfl⟩ := List.exists_cons_of_ne_nil c2
        refine ⟨.ref oa, rfl, oa, _, 0, nV z, rfl, rfl, gr18.s.seq hoa, atI_nat (show (List.map nV (z :: o2))[0]? = some (nV z) from rfl), ?_⟩
        exact k1 (.int ((z : Nat) : Int)) _ _ _ (by rw [ho]; rfl) gr18 (.int _)
      · have c2 : ¬ o ≠ [] := fun z => c (by rw [decide_eq_false z]; rfl)
        exact k0 (by rw [ho]; exact if_neg (by rw [decide_eq_true_iff]; exact c2)) _ _ gr18
    have B17 := B16.grow gr17
    rw [hgl, ← GDl, fm_filter (fun o : List Nat => decide (o ≠ [])) (fun o => PyData.int ((o.getD 0 0 : Nat) : Int))] at hD
    have hD : Dp K G17 (.ref D) (.list ((headsL (LP.waysL Ts.reverse)).map PyData.int)) := by
      unfold headsL
      rw [List.map_map]
      exact hD
    obtain ⟨D', dus, eD, hD2, hdus⟩ := hD.list
    cases eD
    have edus := all_ints hdus
    subst edus
    have hhl : (headsL (LP.waysL Ts.reverse)).length ≤ 36 := by
      unfold headsL
      rw [List.length_map]
      exact Nat.le_trans (List.length_filter_le _ _) (by omega)
    refine ⟨D, headsL (LP.waysL Ts.reverse), rfl, gr17.s.seq hD2, by omega, fun p18 c18 hc18 np18 => ?_⟩
    refine ⟨p18, _, c18, rfl, upd_same, by omega, fun ns p19 hns1 hns2 hns3 np19 => ?_⟩
    have efs := firsts_are W hns1 hns2
    subst efs
    have gr18 := Grow.new (M := M0) gr17.s np18 (SetO w p18 (fun j => decide (j ∈ headsL (LP.waysL Ts.reverse))) c18)
    have B18 := B17.grow gr18
    generalize upd G17 p18 (SetO w p18 (fun j => decide (j ∈ headsL (LP.waysL Ts.reverse))) c18) = G18 at gr18 B18
    have gr19 := Grow.new (M := M0) gr18.s np19 (.lst ((LP.up (firstL Ts)).map V.int))
    have B19 := B18.grow gr19
    have hf19 : SqL K (upd G18 p19 (.lst ((LP.up (firstL Ts)).map V.int))) p19 ((firstL Ts).map nV) := by
      rw [← up_nV]
      exact .of upd_same
    generalize upd G18 p19 (.lst ((LP.up (firstL Ts)).map V.int)) = G19 at gr19 B19 hf19
    refine ⟨vs, rfl, vg, rfl, G19, vs, vg, h, wd, s0, g, Ts, rfl, B19.s, B19.hs, B19.hg, oks, okg, hT, fun v20 G20 H20 gr20 h20 => ?_⟩
    have B20 := B19.grow gr20
    have hfl3 : (firstL Ts).length ≤ 3 := by
      unfold firstL
      cases hq : Ts.getLast? with
      | none => decide
      | some T1 => exact (LP.told_small h3 w3 hT (List.mem_of_getLast? hq)).len
    refine ⟨.ref p19, rfl, p19, _, rfl, .inl ⟨B20.s.seq (gr20.g.seq hf19), fun l nl => ?_⟩⟩
    have gr21 := Grow.new (M := M0) B20.s nl (.tup ((firstL Ts).map nV))
    have B21 := B20.grow gr21
    refine ⟨_, v20, .ref l, eTN.to (firstL Ts), rfl, B21.s, h20.up gr21.g, .tup (.of upd_same) (nats_all _), okd_tup (by omega), fun G22 H22 gr22 => ⟨true, rfl, iteF ?_⟩⟩
    have B22 := B21.grow gr22
    clear hf19 h20 gr21 B21 gr22 B19 B20 gr19 gr20 B18 gr18 B17 gr17 hD hD2 hdus
    -- deeds
    have hL100 : L.length ≤ 100 := by omega
    refine ⟨.ref r, rfl, .ref la, rfl, G22, r, .ref la, L, rfl, B22.row, B22.ll, hL100, fun v23 L' G23 H23 hp23 gr23 R23 hv23 => ?_⟩
    have B23 := B22.grow1 gr23 R23
    have hLb : ∀ l ∈ L', l < h + wd := fun l hl => W.lbd l (hp23.mem_iff.mp hl)
    have hLl : L'.length ≤ 1000 := by rw [hp23.length_eq]; omega
    refine ⟨vs, rfl, vg, rfl, v23, rfl, G23, vs, vg, v23, h, wd, s0, g, eLs.to L', rfl, B23.s, B23.hs, B23.hg, oks, okg, hv23, fun ds e => by cases e; rw [List.length_map]; exact hLl, fun G24 H24 gr24 => ?_⟩
    have B24 := B23.grow gr24
    refine ⟨v23, rfl, .ref ga, rfl, eLs.to L', (LP.waysL Ts.reverse).map eLs.to, (hv23.up gr24.g).up B24.s, B24.gd.up B24.s, eLs.shaped (by decide) _, eLL.shaped (by decide) _, ?_⟩
    have e24 : (((LP.waysL Ts.reverse).map eLs.to).any fun z => PyData.eqv z (eLs.to L')) = showsD h wd s0 g (eLs.to L') := by
      rw [any_mem, shows_nats W hT hLb, decide_eq_decide]
    refine ⟨G24, _, _, .bool (showsD h wd s0 g (eLs.to L')), rfl, B24.s, .bl _, by rw [e24]; exact .bl _, okd_bool 2 _, fun G25 H25 gr25 => ⟨true, rfl, iteF ?_⟩⟩
    have B25 := B24.grow gr25
    -- drawn
    refine ⟨.ref r, rfl, vs, rfl, G25, r, vs, h, wd, 6, s0, rfl, B25.row, B25.hs, oks, by decide, fun v26 d G26 H26 hd hdl gr26 R26 hv26 => ?_⟩
    have B26 := B25.grow1 gr26 R26
    have hdl2 : d.length ≤ 1000 := by omega
    refine ⟨vs, rfl, vg, rfl, v26, rfl, G26, vs, vg, v26, h, wd, s0, g, eLs.to d, rfl, B26.s, B26.hs, B26.hg, oks, okg, hv26, fun ds e => by cases e; rw [List.length_map]; exact hdl2, fun G27 H27 gr27 => ?_⟩
    have B27 := B26.grow gr27
    refine ⟨vs, rfl, v26, rfl, G27, vs, v26, h, wd, s0, d, rfl, B27.s, B27.hs, oks, hv26.up gr27.g, fun v28 G28 H28 gr28 h28 => ?_⟩
    have B28 := B27.grow gr28
    refine ⟨vg, rfl, eP.to (LP.paintAll h wd s0 d), eP.to g, h28.up B28.s, B28.hg.up B28.s, eP.shaped (by decide) _, eP.shaped (by decide) _, ?_⟩
    have e28 : PyData.eqv (eP.to (LP.paintAll h wd s0 d)) (eP.to g) = makesD h wd s0 g (eLs.to d) := by
      rw [eP.eqv, makes_nats hd]
    refine ⟨G28, _, _, .bool (makesD h wd s0 g (eLs.to d)), rfl, B28.s, .bl _, by rw [e28]; exact .bl _, okd_bool 2 _, fun G29 H29 gr29 => ⟨true, rfl, iteF ?_⟩⟩
    have B29 := B28.grow gr29
    have hv29 := (hv26.up gr27.g).up (gr28.g.trans gr29.g)
    refine ⟨vs, rfl, vg, rfl, v26, rfl, G29, vs, vg, v26, h, wd, s0, g, eLs.to d, rfl, B29.s, B29.hs, B29.hg, oks, okg, hv29, fun ds e => by cases e; rw [List.length_map]; exact hdl2, fun G30 H30 gr30 => ?_⟩
    have B30 := B29.grow gr30
    refine ⟨v26, rfl, .ref ga, rfl, eLs.to d, (LP.waysL Ts.reverse).map eLs.to, (hv29.up gr30.g).up B30.s, B30.gd.up B30.s, eLs.shaped (by decide) _, eLL.shaped (by decide) _, ?_⟩
    have e30 : (((LP.waysL Ts.reverse).map eLs.to).any fun z => PyData.eqv z (eLs.to d)) = showsD h wd s0 g (eLs.to d) := by
      rw [any_mem, shows_nats W hT hd, decide_eq_decide]
    refine ⟨G30, _, _, .bool (showsD h wd s0 g (eLs.to d)), rfl, B30.s, .bl _, by rw [e30]; exact .bl _, okd_bool 2 _, fun G31 H31 gr31 => ⟨true, rfl, iteF ?_⟩⟩
    have B31 := B30.grow gr31
    clear e24 e28 e30 hv29 hv26 hv23 h28 B22 B23 B24 B25 B26 B27 B28 B29 B30 gr23 gr24 gr25 gr26 gr27 gr28 gr29 gr30 gr31
    -- what is bent
    obtain ⟨o, GD2, hGD⟩ := List.exists_cons_of_ne_nil hne
    have hom : o ∈ LP.waysL Ts.reverse := by rw [hGD]; exact List.mem_cons_self
    have ho6 := hol o hom
    have hpos : 0 < h + wd := by omega
    have hbn := bent_not W hT hom hpos
    have hbl := bent_len (o := o) (n := h + wd) (by omega)
    have hbs := bent_shape (o := o) (n := h + wd)
    obtain ⟨y0, ey0, hy0⟩ := all_get (i := 0) (x := o) B31.all (by rw [hGD]; rfl)
    obtain ⟨oa, rfl, hoa⟩ := is_nats hy0
    have onl : (o.map nV).length = o.length := List.length_map ..
    -- tuple(good[0])
    refine ⟨.ref ga, rfl, ga, gus, 0, .ref oa, rfl, rfl, B31.s.seq B31.sq, atI_nat ey0, oa, _, rfl, .inl ⟨B31.s.seq hoa, fun t1 nt1 => ?_⟩⟩
    have gr32 := Grow.new (M := M0) B31.s nt1 (.tup (o.map nV))
    have B32 := B31.grow gr32
    have b1 : Dp K (upd G31 t1 (.tup (o.map nV))) (.ref t1) (eTN.to o) := .tup (.of upd_same) (nats_all _)
    have hoa32 := gr32.g.seq hoa
    generalize upd G31 t1 (.tup (o.map nV)) = G32 at gr32 B32 b1 hoa32
    -- good[0] + [0]
    refine ⟨.ref ga, rfl, ga, gus, 0, .ref oa, rfl, rfl, B32.s.seq B32.sq, atI_nat ey0, (by show 1 ≤ _; exact small_line (by decide)), fun p33 np33 => ?_⟩
    have gr33 := Grow.new (M := M0) B32.s np33 (.lst [V.int 0])
    have hp33 : SqL K (upd G32 p33 (.lst [V.int 0])) p33 ([0].map nV) := .of upd_same
    have B33 := B32.grow gr33
    generalize upd G32 p33 (.lst [V.int 0]) = G33 at gr33 hp33 B33
    refine ⟨G33, oa, p33, _, _, rfl, rfl, B33.s, gr33.g.seq hoa32, hp33, (by rw [onl]; show _ + 1 ≤ _; omega), fun c34 G34 H34 gr34 h34 => ?_⟩
    rw [← List.map_append] at h34
    have B34 := B33.grow gr34
    have b2 : Is K G34 eLs (.ref c34) (o ++ [0]) := nats_is h34
    have s2 := gr33.g.trans gr34.g
    -- [None]
    refine ⟨(by show 1 ≤ _; exact small_line (by decide)), fun p35 np35 => ?_⟩
    have gr35 := Grow.new (M := M0) B34.s np35 (.lst [V.non])
    have B35 := B34.grow gr35
    have b3 : Dp K (upd G34 p35 (.lst [V.non])) (.ref p35) (.list [.none]) := .lst (.of upd_same) (.cons .non .nil)
    generalize upd G34 p35 (.lst [V.non]) = G35 at gr35 B35 b3
    -- [True]
    refine ⟨(by show 1 ≤ _; exact small_line (by decide)), fun p36 np36 => ?_⟩
    have gr36 := Grow.new (M := M0) B35.s np36 (.lst [V.bl true])
    have B36 := B35.grow gr36
    have b4 : Dp K (upd G35 p36 (.lst [V.bl true])) (.ref p36) (.list [.bool true]) := .lst (.of upd_same) (.cons (.bl true) .nil)
    generalize upd G35 p36 (.lst [V.bl true]) = G36 at gr36 B36 b4
    -- [-1]
    refine ⟨_, rfl, (by show 1 ≤ _; exact small_line (by decide)), fun p37 np37 => ?_⟩
    have gr37 := Grow.new (M := M0) B36.s np37 (.lst [V.int (-1)])
    have B37 := B36.grow gr37
    have b5 : Dp K (upd G36 p37 (.lst [V.int (-1)])) (.ref p37) (.list [.int (-1)]) := .lst (.of upd_same) (.cons (.int (-1)) .nil)
    generalize upd G36 p37 (.lst [V.int (-1)]) = G37 at gr37 B37 b5
    -- good[0] + [lines]
    have s37 := (((s2.trans gr35.g).trans gr36.g).trans gr37.g)
    have hoa37 := s37.seq hoa32
    obtain ⟨pga, rfl, hpga⟩ := is_pic B37.hg
    have hlen : (g.map rV).length = h := by rw [List.length_map, okg.wf.len]
    obtain ⟨r0, e0, l0⟩ := okg.row (i := 0) (by omega)
    have hpg := B37.s.tup hpga
    refine ⟨.ref ga, rfl, ga, gus, 0, .ref oa, rfl, rfl, B37.s.seq B37.sq, atI_nat ey0, .ref pga, rfl, pga, _, rfl, .inr hpg, .ref pga, rfl, pga, _, 0, rV r0, rfl, rfl, hpg, atI_nat (at_map e0), rowS r0, rfl, by rw [rowS_len, l0]; exact small_line (by omega), _, _, rfl, rfl, (by show 1 ≤ _; exact small_line (by decide)), fun p38 np38 => ?_⟩
    have elh : V.int (((g.map rV).length : Int) + ((rowS r0).length : Int)) = nV (h + wd) := by
      rw [hlen, rowS_len, l0]
      rfl
    have gr38 := Grow.new (M := M0) B37.s np38 (.lst [V.int (((g.map rV).length : Int) + ((rowS r0).length : Int))])
    have hp38 : SqL K (upd G37 p38 (.lst [V.int (((g.map rV).length : Int) + ((rowS r0).length : Int))])) p38 ([h + wd].map nV) := by
      rw [show [h + wd].map nV = [nV (h + wd)] from rfl, ← elh]
      exact .of upd_same
    have B38 := B37.grow gr38
    generalize upd G37 p38 (.lst [V.int (((g.map rV).length : Int) + ((rowS r0).length : Int))]) = G38 at gr38 hp38 B38
    refine ⟨G38, oa, p38, _, _, rfl, rfl, B38.s, gr38.g.seq hoa37, hp38, (by rw [onl]; show _ + 1 ≤ _; omega), fun c39 G39 H39 gr39 h39 => ?_⟩
    rw [← List.map_append] at h39
    have B39 := B38.grow gr39
    have b6 : Is K G39 eLs (.ref c39) (o ++ [h + wd]) := nats_is h39
    have s6 := gr38.g.trans gr39.g
    refine ⟨(by show 8 ≤ _; exact small_line (by decide)), fun b nb => ?_⟩
    have gr40 := Grow.new (M := M0) B39.s nb (.lst [V.non, .ref t1, .ref c34, .ref p35, .str (Str.ofString "0"), .ref p36, .ref p37, .ref c39])
    have B40 := B39.grow gr40
    have hb40 : SqL K (upd G39 b (.lst [V.non, .ref t1, .ref c34, .ref p35, .str (Str.ofString "0"), .ref p36, .ref p37, .ref c39])) b [V.non, .ref t1, .ref c34, .ref p35, .str (Str.ofString "0"), .ref p36, .ref p37, .ref c39] := .of upd_same
    generalize upd G39 b (.lst [V.non, .ref t1, .ref c34, .ref p35, .str (Str.ofString "0"), .ref p36, .ref p37, .ref c39]) = G40 at gr40 B40 hb40
    have t40 := s6.trans gr40.g
    have t37 := gr37.g.trans t40
    have t36 := gr36.g.trans t37
    have t35 := gr35.g.trans t36
    have hall : DpAll K G40 [V.non, .ref t1, .ref c34, .ref p35, .str (Str.ofString "0"), .ref p36, .ref p37, .ref c39] (bents o (h + wd)) :=
      .cons .non (.cons (b1.up (s2.trans t35)) (.cons (b2.up t35) (.cons (b3.up t36) (.cons (.str _) (.cons (b4.up t37) (.cons (b5.up t40) (.cons (b6.up gr40.g) .nil)))))))
    generalize hds : bents o (h + wd) = ds at hall hbn hbl hbs
    have hdl : ds.length = 8 := by rw [← hds]; rfl
    have hbul := hall.len
    refine ⟨.ref b, rfl, b, rfl, ⟨_, B40.s.seq hb40⟩, ?_⟩
    refine lc_pure (K := K) (fun i => (ds[i]?).bind fun d => if (!((LP.waysL Ts.reverse).map eLs.to).any fun z => PyData.eqv z d) = true then some d else none) (gw_list hb40) B40.s (by omega) (fun i y G41 H41 hi gr41 hy C1 C0 k1 k0 => ?_) fun D41 G41 H41 gr41 hD41 => ?_
    · have B41 := B40.grow gr41
      obtain ⟨d1, hd1, hyd⟩ := (hall.up gr41.g).at_ hy
      have hdm := List.mem_of_getElem? hd1
      refine ⟨rfl, y, rfl, .ref ga, rfl, d1, (LP.waysL Ts.reverse).map eLs.to, hyd.up B41.s, B41.gd.up B41.s, hbs d1 hdm, eLL.shaped (by decide) _, _, rfl, ?_⟩
      refine ite2 (fun c => ?_) (fun c => ?_)
      · exact ⟨y, rfl, k1 d1 _ _ _ (by rw [hd1]; exact if_pos c) (.here B41.s) hyd⟩
      · exact k0 (by rw [hd1]; exact if_neg c) _ _ (.here B41.s)
    have B41 := B40.grow gr41
    have hsub : ∀ d1 ∈ (List.range [V.non, V.ref t1, .ref c34, .ref p35, .str (Str.ofString "0"), .ref p36, .ref p37, .ref c39].length).filterMap (fun i => (ds[i]?).bind fun d => if (!((LP.waysL Ts.reverse).map eLs.to).any fun z => PyData.eqv z d) = true then some d else none), d1 ∈ ds := fun d1 hd1 => by
      obtain ⟨i, _, e⟩ := List.mem_filterMap.mp hd1
      obtain ⟨d2, hd2, e2⟩ := Option.bind_eq_some_iff.mp e
      split at e2
      · cases e2
        exact List.mem_of_getElem? hd2
      · cases e2
    have hsl : ((List.range [V.non, V.ref t1, .ref c34, .ref p35, .str (Str.ofString "0"), .ref p36, .ref p37, .ref c39].length).filterMap (fun i => (ds[i]?).bind fun d => if (!((LP.waysL Ts.reverse).map eLs.to).any fun z => PyData.eqv z d) = true then some d else none)).length ≤ 8 := by
      refine Nat.le_trans (List.length_filterMap_le _ _) ?_
      rw [List.length_range]
      omega
    generalize (List.range [V.non, V.ref t1, .ref c34, .ref p35, .str (Str.ofString "0"), .ref p36, .ref p37, .ref c39].length).filterMap (fun i => (ds[i]?).bind fun d => if (!((LP.waysL Ts.reverse).map eLs.to).any fun z => PyData.eqv z d) = true then some d else none) = ds2 at hD41 hsub hsl
    obtain ⟨D', us2, eD, hD2, hall2⟩ := hD41.list
    cases eD
    have hul2 := hall2.len
    refine ⟨.ref D41, rfl, D41, rfl, ⟨_, B41.s.seq hD2⟩, ?_⟩
    refine lc_pure (K := K) (fun _ => none) (gw_list hD2) B41.s (by omega) (fun i y G42 H42 hi gr42 hy C1 C0 k1 k0 => ?_) fun D42 G42 H42 gr42 hD42 => ?_
    · have B42 := B41.grow gr42
      obtain ⟨d1, hd1, hyd⟩ := (hall2.up gr42.g).at_ hy
      have hdm := hsub d1 (List.mem_of_getElem? hd1)
      refine ⟨rfl, vs, rfl, .ref pga, rfl, y, rfl, G42, vs, .ref pga, y, h, wd, s0, g, d1, rfl, B42.s, B42.hs, B42.hg, oks, okg, hyd, hbl d1 hdm, fun G43 H43 gr43 => ?_⟩
      rw [hbn d1 hdm]
      exact ⟨false, false, rfl, rfl, _, rfl, iteF (k0 rfl _ _ gr43)⟩
    have B42 := B41.grow gr42
    have e42 : (List.range us2.length).filterMap (fun _ => (none : Option PyData)) = [] := by simp
    rw [e42] at hD42
    have hD42 : Is K G42 eLs (.ref D42) [] := hD42
    refine ⟨small_line (by decide), fun e43 ne43 => ?_⟩
    have gr43 := Grow.new (M := M0) B42.s ne43 (.lst [])
    have B43 := B42.grow gr43
    refine ⟨eLs.to [], eLs.to [], (hD42.up gr43.g).up gr43.s, Dp.up (.lst (.of upd_same) .nil) gr43.s, eLs.shaped (by decide) _, eLs.shaped (by decide) _, ?_⟩
    rw [eLs.eqv]
    refine ⟨_, rfl, iteT ?_⟩
    obtain ⟨y4, ey4, hy4⟩ := all_get (i := 0) (x := o) B43.all (by rw [hGD]; rfl)
    obtain ⟨ob, rfl, hob⟩ := is_nats hy4
    refine ⟨vs, rfl, .ref pga, rfl, .ref ga, rfl, ga, gus, 0, .ref ob, rfl, rfl, B43.s.seq B43.sq, atI_nat ey4, ob, _, rfl, .inl ⟨B43.s.seq hob, fun l44 nl44 => ?_⟩⟩
    have gr44 := Grow.new (M := M0) B43.s nl44 (.tup (o.map nV))
    have B44 := B43.grow gr44
    refine ⟨_, vs, .ref pga, .ref l44, h, wd, s0, g, eTN.to o, rfl, B44.s, B44.hs, B44.hg, oks, okg, .tup (.of upd_same) (nats_all _), fun ds e => (by cases e), fun G45 H45 gr45 => ?_⟩
    exact ⟨makesD h wd s0 g (eTN.to o), false, rfl, rfl, q _⟩
end
end LW
/-! the end: the top's defs are the walked ones -/
namespace LW
open PySem PySem.Spec L2
open PyProof.Rows hiding St RelV
open C8 (Cal pe_c pe_gc)
theorem all_mk {l : PySem.W.OpenLaw} {w : World} {K : PySem.W.Frag} {h : Heap} {mg : Str → Option Value} {fa f_is_int f_is_in f_is_picture f_need_picture f_need_two f_lines_of f_are_deeds f_painted_line f_all_painted f_differing f_leads_to f_product_to f_meets f_layers_of f_trimmed f_ways_number f_need_number f_least_of f_need_way f_count_ways f_way f_shows_way f_shows_deeds f_orders_of f_ways f_first_deeds f_way_at f_way_number f_law_taken f_law_pick f_law_mixed f_law_any f_law_paint f_law_painted f_law_deeds f_law_picture f_law_layers f_law_core f_law_differ f_law_orders f_law_least f_law_start f_law_alike f_law : Addr} (X : K.In h) (G : h.Ns mainGlobals mg) (hfa : mg "law" = some (.ref fa))
    {od_is_int an_is_int : Option Addr} {sl_is_int : Array (Option Value)} {oc_is_int kV_is_int dc_is_int pm_is_int cd_is_int ct_is_int : Value}
    (a_is_int : PySem.W.nsIn K mainGlobals "is_int" = some (some (.ref f_is_int))) (l_is_int : K.lookup f_is_int = some ⟨oc_is_int, od_is_int, .func (PySem.W.fnOf "is_int" "is_int" (defArgs s_is_int) (defBody s_is_int) (defScope s_is_int) .none kV_is_int dc_is_int pm_is_int an_is_int cd_is_int ct_is_int), sl_is_int⟩) (c_is_int : PySem.W.codeIn K cd_is_int "is_int" = true) (k_is_int : PySem.W.keepIn K (.ref f_is_int) = true)
    {od_is_in an_is_in : Option Addr} {sl_is_in : Array (Option Value)} {oc_is_in kV_is_in dc_is_in pm_is_in cd_is_in ct_is_in : Value}
    (a_is_in : PySem.W.nsIn K mainGlobals "is_in" = some (some (.ref f_is_in))) (l_is_in : K.lookup f_is_in = some ⟨oc_is_in, od_is_in, .func (PySem.W.fnOf "is_in" "is_in" (defArgs s_is_in) (defBody s_is_in) (defScope s_is_in) .none kV_is_in dc_is_in pm_is_in an_is_in cd_is_in ct_is_in), sl_is_in⟩) (c_is_in : PySem.W.codeIn K cd_is_in "is_in" = true) (k_is_in : PySem.W.keepIn K (.ref f_is_in) = true)
    {od_is_picture an_is_picture : Option Addr} {sl_is_picture : Array (Option Value)} {oc_is_picture kV_is_picture dc_is_picture pm_is_picture cd_is_picture ct_is_picture : Value}
    (a_is_picture : PySem.W.nsIn K mainGlobals "is_picture" = some (some (.ref f_is_picture))) (l_is_picture : K.lookup f_is_picture = some ⟨oc_is_picture, od_is_picture, .func (PySem.W.fnOf "is_picture" "is_picture" (defArgs s_is_picture) (defBody s_is_picture) (defScope s_is_picture) .none kV_is_picture dc_is_picture pm_is_picture an_is_picture cd_is_picture ct_is_picture), sl_is_picture⟩) (c_is_picture : PySem.W.codeIn K cd_is_picture "is_picture" = true) (k_is_picture : PySem.W.keepIn K (.ref f_is_picture) = true)
    {od_need_picture an_need_picture : Option Addr} {sl_need_picture : Array (Option Value)} {oc_need_picture kV_need_picture dc_need_picture pm_need_picture cd_need_picture ct_need_picture : Value}
    (a_need_picture : PySem.W.nsIn K mainGlobals "need_picture" = some (some (.ref f_need_picture))) (l_need_picture : K.lookup f_need_picture = some ⟨oc_need_picture, od_need_picture, .func (PySem.W.fnOf "need_picture" "need_picture" (defArgs s_need_picture) (defBody s_need_picture) (defScope s_need_picture) .none kV_need_picture dc_need_picture pm_need_picture an_need_picture cd_need_picture ct_need_picture), sl_need_picture⟩) (c_need_picture : PySem.W.codeIn K cd_need_picture "need_picture" = true) (k_need_picture : PySem.W.keepIn K (.ref f_need_picture) = true)
    {od_need_two an_need_two : Option Addr} {sl_need_two : Array (Option Value)} {oc_need_two kV_need_two dc_need_two pm_need_two cd_need_two ct_need_two : Value}
    (a_need_two : PySem.W.nsIn K mainGlobals "need_two" = some (some (.ref f_need_two))) (l_need_two : K.lookup f_need_two = some ⟨oc_need_two, od_need_two, .func (PySem.W.fnOf "need_two" "need_two" (defArgs s_need_two) (defBody s_need_two) (defScope s_need_two) .none kV_need_two dc_need_two pm_need_two an_need_two cd_need_two ct_need_two), sl_need_two⟩) (c_need_two : PySem.W.codeIn K cd_need_two "need_two" = true) (k_need_two : PySem.W.keepIn K (.ref f_need_two) = true)
    {od_lines_of an_lines_of : Option Addr} {sl_lines_of : Array (Option Value)} {oc_lines_of kV_lines_of dc_lines_of pm_lines_of cd_lines_of ct_lines_of : Value}
    (a_lines_of : PySem.W.nsIn K mainGlobals "lines_of" = some (some (.ref f_lines_of))) (l_lines_of : K.lookup f_lines_of = some ⟨oc_lines_of, od_lines_of, .func (PySem.W.fnOf "lines_of" "lines_of" (defArgs s_lines_of) (defBody s_lines_of) (defScope s_lines_of) .none kV_lines_of dc_lines_of pm_lines_of an_lines_of cd_lines_of ct_lines_of), sl_lines_of⟩) (c_lines_of : PySem.W.codeIn K cd_lines_of "lines_of" = true) (k_lines_of : PySem.W.keepIn K (.ref f_lines_of) = true)
    {od_are_deeds an_are_deeds : Option Addr} {sl_are_deeds : Array (Option Value)} {oc_are_deeds kV_are_deeds dc_are_deeds pm_are_deeds cd_are_deeds ct_are_deeds : Value}
    (a_are_deeds : PySem.W.nsIn K mainGlobals "are_deeds" = some (some (.ref f_are_deeds))) (l_are_deeds : K.lookup f_are_deeds = some ⟨oc_are_deeds, od_are_deeds, .func (PySem.W.fnOf "are_deeds" "are_deeds" (defArgs s_are_deeds) (defBody s_are_deeds) (defScope s_are_deeds) .none kV_are_deeds dc_are_deeds pm_are_deeds an_are_deeds cd_are_deeds ct_are_deeds), sl_are_deeds⟩) (c_are_deeds : PySem.W.codeIn K cd_are_deeds "are_deeds" = true) (k_are_deeds : PySem.W.keepIn K (.ref f_are_deeds) = true)
    {od_painted_line an_painted_line : Option Addr} {sl_painted_line : Array (Option Value)} {oc_painted_line kV_painted_line dc_painted_line pm_painted_line cd_painted_line ct_painted_line : Value}
    (a_painted_line : PySem.W.nsIn K mainGlobals "painted_line" = some (some (.ref f_painted_line))) (l_painted_line : K.lookup f_painted_line = some ⟨oc_painted_line, od_painted_line, .func (PySem.W.fnOf "painted_line" "painted_line" (defArgs s_painted_line) (defBody s_painted_line) (defScope s_painted_line) .none kV_painted_line dc_painted_line pm_painted_line an_painted_line cd_painted_line ct_painted_line), sl_painted_line⟩) (c_painted_line : PySem.W.codeIn K cd_painted_line "painted_line" = true) (k_painted_line : PySem.W.keepIn K (.ref f_painted_line) = true)
    {od_all_painted an_all_painted : Option Addr} {sl_all_painted : Array (Option Value)} {oc_all_painted kV_all_painted dc_all_painted pm_all_painted cd_all_painted ct_all_painted : Value}
    (a_all_painted : PySem.W.nsIn K mainGlobals "all_painted" = some (some (.ref f_all_painted))) (l_all_painted : K.lookup f_all_painted = some ⟨oc_all_painted, od_all_painted, .func (PySem.W.fnOf "all_painted" "all_painted" (defArgs s_all_painted) (defBody s_all_painted) (defScope s_all_painted) .none kV_all_painted dc_all_painted pm_all_painted an_all_painted cd_all_painted ct_all_painted), sl_all_painted⟩) (c_all_painted : PySem.W.codeIn K cd_all_painted "all_painted" = true) (k_all_painted : PySem.W.keepIn K (.ref f_all_painted) = true)
    {od_differing an_differing : Option Addr} {sl_differing : Array (Option Value)} {oc_differing kV_differing dc_differing pm_differing cd_differing ct_differing : Value}
    (a_differing : PySem.W.nsIn K mainGlobals "differing" = some (some (.ref f_differing))) (l_differing : K.lookup f_differing = some ⟨oc_differing, od_differing, .func (PySem.W.fnOf "differing" "differing" (defArgs s_differing) (defBody s_differing) (defScope s_differing) .none kV_differing dc_differing pm_differing an_differing cd_differing ct_differing), sl_differing⟩) (c_differing : PySem.W.codeIn K cd_differing "differing" = true) (k_differing : PySem.W.keepIn K (.ref f_differing) = true)
    {od_leads_to an_leads_to : Option Addr} {sl_leads_to : Array (Option Value)} {oc_leads_to kV_leads_to dc_leads_to pm_leads_to cd_leads_to ct_leads_to : Value}
    (a_leads_to : PySem.W.nsIn K mainGlobals "leads_to" = some (some (.ref f_leads_to))) (l_leads_to : K.lookup f_leads_to = some ⟨oc_leads_to, od_leads_to, .func (PySem.W.fnOf "leads_to" "leads_to" (defArgs s_leads_to) (defBody s_leads_to) (defScope s_leads_to) .none kV_leads_to dc_leads_to pm_leads_to an_leads_to cd_leads_to ct_leads_to), sl_leads_to⟩) (c_leads_to : PySem.W.codeIn K cd_leads_to "leads_to" = true) (k_leads_to : PySem.W.keepIn K (.ref f_leads_to) = true)
    {od_product_to an_product_to : Option Addr} {sl_product_to : Array (Option Value)} {oc_product_to kV_product_to dc_product_to pm_product_to cd_product_to ct_product_to : Value}
    (a_product_to : PySem.W.nsIn K mainGlobals "product_to" = some (some (.ref f_product_to))) (l_product_to : K.lookup f_product_to = some ⟨oc_product_to, od_product_to, .func (PySem.W.fnOf "product_to" "product_to" (defArgs s_product_to) (defBody s_product_to) (defScope s_product_to) .none kV_product_to dc_product_to pm_product_to an_product_to cd_product_to ct_product_to), sl_product_to⟩) (c_product_to : PySem.W.codeIn K cd_product_to "product_to" = true) (k_product_to : PySem.W.keepIn K (.ref f_product_to) = true)
    {od_meets an_meets : Option Addr} {sl_meets : Array (Option Value)} {oc_meets kV_meets dc_meets pm_meets cd_meets ct_meets : Value}
    (a_meets : PySem.W.nsIn K mainGlobals "meets" = some (some (.ref f_meets))) (l_meets : K.lookup f_meets = some ⟨oc_meets, od_meets, .func (PySem.W.fnOf "meets" "meets" (defArgs s_meets) (defBody s_meets) (defScope s_meets) .none kV_meets dc_meets pm_meets an_meets cd_meets ct_meets), sl_meets⟩) (c_meets : PySem.W.codeIn K cd_meets "meets" = true) (k_meets : PySem.W.keepIn K (.ref f_meets) = true)
    {od_layers_of an_layers_of : Option Addr} {sl_layers_of : Array (Option Value)} {oc_layers_of kV_layers_of dc_layers_of pm_layers_of cd_layers_of ct_layers_of : Value}
    (a_layers_of : PySem.W.nsIn K mainGlobals "layers_of" = some (some (.ref f_layers_of))) (l_layers_of : K.lookup f_layers_of = some ⟨oc_layers_of, od_layers_of, .func (PySem.W.fnOf "layers_of" "layers_of" (defArgs s_layers_of) (defBody s_layers_of) (defScope s_layers_of) .none kV_layers_of dc_layers_of pm_layers_of an_layers_of cd_layers_of ct_layers_of), sl_layers_of⟩) (c_layers_of : PySem.W.codeIn K cd_layers_of "layers_of" = true) (k_layers_of : PySem.W.keepIn K (.ref f_layers_of) = true)
    {od_trimmed an_trimmed : Option Addr} {sl_trimmed : Array (Option Value)} {oc_trimmed kV_trimmed dc_trimmed pm_trimmed cd_trimmed ct_trimmed : Value}
    (a_trimmed : PySem.W.nsIn K mainGlobals "trimmed" = some (some (.ref f_trimmed))) (l_trimmed : K.lookup f_trimmed = some ⟨oc_trimmed, od_trimmed, .func (PySem.W.fnOf "trimmed" "trimmed" (defArgs s_trimmed) (defBody s_trimmed) (defScope s_trimmed) .none kV_trimmed dc_trimmed pm_trimmed an_trimmed cd_trimmed ct_trimmed), sl_trimmed⟩) (c_trimmed : PySem.W.codeIn K cd_trimmed "trimmed" = true) (k_trimmed : PySem.W.keepIn K (.ref f_trimmed) = true)
    {od_ways_number an_ways_number : Option Addr} {sl_ways_number : Array (Option Value)} {oc_ways_number kV_ways_number dc_ways_number pm_ways_number cd_ways_number ct_ways_number : Value}
    (a_ways_number : PySem.W.nsIn K mainGlobals "ways_number" = some (some (.ref f_ways_number))) (l_ways_number : K.lookup f_ways_number = some ⟨oc_ways_number, od_ways_number, .func (PySem.W.fnOf "ways_number" "ways_number" (defArgs s_ways_number) (defBody s_ways_number) (defScope s_ways_number) .none kV_ways_number dc_ways_number pm_ways_number an_ways_number cd_ways_number ct_ways_number), sl_ways_number⟩) (c_ways_number : PySem.W.codeIn K cd_ways_number "ways_number" = true) (k_ways_number : PySem.W.keepIn K (.ref f_ways_number) = true)
    {od_need_number an_need_number : Option Addr} {sl_need_number : Array (Option Value)} {oc_need_number kV_need_number dc_need_number pm_need_number cd_need_number ct_need_number : Value}
    (a_need_number : PySem.W.nsIn K mainGlobals "need_number" = some (some (.ref f_need_number))) (l_need_number : K.lookup f_need_number = some ⟨oc_need_number, od_need_number, .func (PySem.W.fnOf "need_number" "need_number" (defArgs s_need_number) (defBody s_need_number) (defScope s_need_number) .none kV_need_number dc_need_number pm_need_number an_need_number cd_need_number ct_need_number), sl_need_number⟩) (c_need_number : PySem.W.codeIn K cd_need_number "need_number" = true) (k_need_number : PySem.W.keepIn K (.ref f_need_number) = true)
    {od_least_of an_least_of : Option Addr} {sl_least_of : Array (Option Value)} {oc_least_of kV_least_of dc_least_of pm_least_of cd_least_of ct_least_of : Value}
    (a_least_of : PySem.W.nsIn K mainGlobals "least_of" = some (some (.ref f_least_of))) (l_least_of : K.lookup f_least_of = some ⟨oc_least_of, od_least_of, .func (PySem.W.fnOf "least_of" "least_of" (defArgs s_least_of) (defBody s_least_of) (defScope s_least_of) .none kV_least_of dc_least_of pm_least_of an_least_of cd_least_of ct_least_of), sl_least_of⟩) (c_least_of : PySem.W.codeIn K cd_least_of "least_of" = true) (k_least_of : PySem.W.keepIn K (.ref f_least_of) = true)
    {od_need_way an_need_way : Option Addr} {sl_need_way : Array (Option Value)} {oc_need_way kV_need_way dc_need_way pm_need_way cd_need_way ct_need_way : Value}
    (a_need_way : PySem.W.nsIn K mainGlobals "need_way" = some (some (.ref f_need_way))) (l_need_way : K.lookup f_need_way = some ⟨oc_need_way, od_need_way, .func (PySem.W.fnOf "need_way" "need_way" (defArgs s_need_way) (defBody s_need_way) (defScope s_need_way) .none kV_need_way dc_need_way pm_need_way an_need_way cd_need_way ct_need_way), sl_need_way⟩) (c_need_way : PySem.W.codeIn K cd_need_way "need_way" = true) (k_need_way : PySem.W.keepIn K (.ref f_need_way) = true)
    {od_count_ways an_count_ways : Option Addr} {sl_count_ways : Array (Option Value)} {oc_count_ways kV_count_ways dc_count_ways pm_count_ways cd_count_ways ct_count_ways : Value}
    (a_count_ways : PySem.W.nsIn K mainGlobals "count_ways" = some (some (.ref f_count_ways))) (l_count_ways : K.lookup f_count_ways = some ⟨oc_count_ways, od_count_ways, .func (PySem.W.fnOf "count_ways" "count_ways" (defArgs s_count_ways) (defBody s_count_ways) (defScope s_count_ways) .none kV_count_ways dc_count_ways pm_count_ways an_count_ways cd_count_ways ct_count_ways), sl_count_ways⟩) (c_count_ways : PySem.W.codeIn K cd_count_ways "count_ways" = true) (k_count_ways : PySem.W.keepIn K (.ref f_count_ways) = true)
    {od_way an_way : Option Addr} {sl_way : Array (Option Value)} {oc_way kV_way dc_way pm_way cd_way ct_way : Value}
    (a_way : PySem.W.nsIn K mainGlobals "way" = some (some (.ref f_way))) (l_way : K.lookup f_way = some ⟨oc_way, od_way, .func (PySem.W.fnOf "way" "way" (defArgs s_way) (defBody s_way) (defScope s_way) .none kV_way dc_way pm_way an_way cd_way ct_way), sl_way⟩) (c_way : PySem.W.codeIn K cd_way "way" = true) (k_way : PySem.W.keepIn K (.ref f_way) = true)
    {od_shows_way an_shows_way : Option Addr} {sl_shows_way : Array (Option Value)} {oc_shows_way kV_shows_way dc_shows_way pm_shows_way cd_shows_way ct_shows_way : Value}
    (a_shows_way : PySem.W.nsIn K mainGlobals "shows_way" = some (some (.ref f_shows_way))) (l_shows_way : K.lookup f_shows_way = some ⟨oc_shows_way, od_shows_way, .func (PySem.W.fnOf "shows_way" "shows_way" (defArgs s_shows_way) (defBody s_shows_way) (defScope s_shows_way) .none kV_shows_way dc_shows_way pm_shows_way an_shows_way cd_shows_way ct_shows_way), sl_shows_way⟩) (c_shows_way : PySem.W.codeIn K cd_shows_way "shows_way" = true) (k_shows_way : PySem.W.keepIn K (.ref f_shows_way) = true)
    {od_shows_deeds an_shows_deeds : Option Addr} {sl_shows_deeds : Array (Option Value)} {oc_shows_deeds kV_shows_deeds dc_shows_deeds pm_shows_deeds cd_shows_deeds ct_shows_deeds : Value}
    (a_shows_deeds : PySem.W.nsIn K mainGlobals "shows_deeds" = some (some (.ref f_shows_deeds))) (l_shows_deeds : K.lookup f_shows_deeds = some ⟨oc_shows_deeds, od_shows_deeds, .func (PySem.W.fnOf "shows_deeds" "shows_deeds" (defArgs s_shows_deeds) (defBody s_shows_deeds) (defScope s_shows_deeds) .none kV_shows_deeds dc_shows_deeds pm_shows_deeds an_shows_deeds cd_shows_deeds ct_shows_deeds), sl_shows_deeds⟩) (c_shows_deeds : PySem.W.codeIn K cd_shows_deeds "shows_deeds" = true) (k_shows_deeds : PySem.W.keepIn K (.ref f_shows_deeds) = true)
    {od_orders_of an_orders_of : Option Addr} {sl_orders_of : Array (Option Value)} {oc_orders_of kV_orders_of dc_orders_of pm_orders_of cd_orders_of ct_orders_of : Value}
    (a_orders_of : PySem.W.nsIn K mainGlobals "orders_of" = some (some (.ref f_orders_of))) (l_orders_of : K.lookup f_orders_of = some ⟨oc_orders_of, od_orders_of, .func (PySem.W.fnOf "orders_of" "orders_of" (defArgs s_orders_of) (defBody s_orders_of) (defScope s_orders_of) .none kV_orders_of dc_orders_of pm_orders_of an_orders_of cd_orders_of ct_orders_of), sl_orders_of⟩) (c_orders_of : PySem.W.codeIn K cd_orders_of "orders_of" = true) (k_orders_of : PySem.W.keepIn K (.ref f_orders_of) = true)
    {od_ways an_ways : Option Addr} {sl_ways : Array (Option Value)} {oc_ways kV_ways dc_ways pm_ways cd_ways ct_ways : Value}
    (a_ways : PySem.W.nsIn K mainGlobals "ways" = some (some (.ref f_ways))) (l_ways : K.lookup f_ways = some ⟨oc_ways, od_ways, .func (PySem.W.fnOf "ways" "ways" (defArgs s_ways) (defBody s_ways) (defScope s_ways) .none kV_ways dc_ways pm_ways an_ways cd_ways ct_ways), sl_ways⟩) (c_ways : PySem.W.codeIn K cd_ways "ways" = true) (k_ways : PySem.W.keepIn K (.ref f_ways) = true)
    {od_first_deeds an_first_deeds : Option Addr} {sl_first_deeds : Array (Option Value)} {oc_first_deeds kV_first_deeds dc_first_deeds pm_first_deeds cd_first_deeds ct_first_deeds : Value}
    (a_first_deeds : PySem.W.nsIn K mainGlobals "first_deeds" = some (some (.ref f_first_deeds))) (l_first_deeds : K.lookup f_first_deeds = some ⟨oc_first_deeds, od_first_deeds, .func (PySem.W.fnOf "first_deeds" "first_deeds" (defArgs s_first_deeds) (defBody s_first_deeds) (defScope s_first_deeds) .none kV_first_deeds dc_first_deeds pm_first_deeds an_first_deeds cd_first_deeds ct_first_deeds), sl_first_deeds⟩) (c_first_deeds : PySem.W.codeIn K cd_first_deeds "first_deeds" = true) (k_first_deeds : PySem.W.keepIn K (.ref f_first_deeds) = true)
    {od_way_at an_way_at : Option Addr} {sl_way_at : Array (Option Value)} {oc_way_at kV_way_at dc_way_at pm_way_at cd_way_at ct_way_at : Value}
    (a_way_at : PySem.W.nsIn K mainGlobals "way_at" = some (some (.ref f_way_at))) (l_way_at : K.lookup f_way_at = some ⟨oc_way_at, od_way_at, .func (PySem.W.fnOf "way_at" "way_at" (defArgs s_way_at) (defBody s_way_at) (defScope s_way_at) .none kV_way_at dc_way_at pm_way_at an_way_at cd_way_at ct_way_at), sl_way_at⟩) (c_way_at : PySem.W.codeIn K cd_way_at "way_at" = true) (k_way_at : PySem.W.keepIn K (.ref f_way_at) = true)
    {od_way_number an_way_number : Option Addr} {sl_way_number : Array (Option Value)} {oc_way_number kV_way_number dc_way_number pm_way_number cd_way_number ct_way_number : Value}
    (a_way_number : PySem.W.nsIn K mainGlobals "way_number" = some (some (.ref f_way_number))) (l_way_number : K.lookup f_way_number = some ⟨oc_way_number, od_way_number, .func (PySem.W.fnOf "way_number" "way_number" (defArgs s_way_number) (defBody s_way_number) (defScope s_way_number) .none kV_way_number dc_way_number pm_way_number an_way_number cd_way_number ct_way_number), sl_way_number⟩) (c_way_number : PySem.W.codeIn K cd_way_number "way_number" = true) (k_way_number : PySem.W.keepIn K (.ref f_way_number) = true)
    {od_law_taken an_law_taken : Option Addr} {sl_law_taken : Array (Option Value)} {oc_law_taken kV_law_taken dc_law_taken pm_law_taken cd_law_taken ct_law_taken : Value}
    (a_law_taken : PySem.W.nsIn K mainGlobals "_law_taken" = some (some (.ref f_law_taken))) (l_law_taken : K.lookup f_law_taken = some ⟨oc_law_taken, od_law_taken, .func (PySem.W.fnOf "_law_taken" "_law_taken" (defArgs s_law_taken) (defBody s_law_taken) (defScope s_law_taken) .none kV_law_taken dc_law_taken pm_law_taken an_law_taken cd_law_taken ct_law_taken), sl_law_taken⟩) (c_law_taken : PySem.W.codeIn K cd_law_taken "_law_taken" = true) (k_law_taken : PySem.W.keepIn K (.ref f_law_taken) = true)
    {od_law_pick an_law_pick : Option Addr} {sl_law_pick : Array (Option Value)} {oc_law_pick kV_law_pick dc_law_pick pm_law_pick cd_law_pick ct_law_pick : Value}
    (a_law_pick : PySem.W.nsIn K mainGlobals "_law_pick" = some (some (.ref f_law_pick))) (l_law_pick : K.lookup f_law_pick = some ⟨oc_law_pick, od_law_pick, .func (PySem.W.fnOf "_law_pick" "_law_pick" (defArgs s_law_pick) (defBody s_law_pick) (defScope s_law_pick) .none kV_law_pick dc_law_pick pm_law_pick an_law_pick cd_law_pick ct_law_pick), sl_law_pick⟩) (c_law_pick : PySem.W.codeIn K cd_law_pick "_law_pick" = true) (k_law_pick : PySem.W.keepIn K (.ref f_law_pick) = true)
    {od_law_mixed an_law_mixed : Option Addr} {sl_law_mixed : Array (Option Value)} {oc_law_mixed kV_law_mixed dc_law_mixed pm_law_mixed cd_law_mixed ct_law_mixed : Value}
    (a_law_mixed : PySem.W.nsIn K mainGlobals "_law_mixed" = some (some (.ref f_law_mixed))) (l_law_mixed : K.lookup f_law_mixed = some ⟨oc_law_mixed, od_law_mixed, .func (PySem.W.fnOf "_law_mixed" "_law_mixed" (defArgs s_law_mixed) (defBody s_law_mixed) (defScope s_law_mixed) .none kV_law_mixed dc_law_mixed pm_law_mixed an_law_mixed cd_law_mixed ct_law_mixed), sl_law_mixed⟩) (c_law_mixed : PySem.W.codeIn K cd_law_mixed "_law_mixed" = true) (k_law_mixed : PySem.W.keepIn K (.ref f_law_mixed) = true)
    {od_law_any an_law_any : Option Addr} {sl_law_any : Array (Option Value)} {oc_law_any kV_law_any dc_law_any pm_law_any cd_law_any ct_law_any : Value}
    (a_law_any : PySem.W.nsIn K mainGlobals "_law_any" = some (some (.ref f_law_any))) (l_law_any : K.lookup f_law_any = some ⟨oc_law_any, od_law_any, .func (PySem.W.fnOf "_law_any" "_law_any" (defArgs s_law_any) (defBody s_law_any) (defScope s_law_any) .none kV_law_any dc_law_any pm_law_any an_law_any cd_law_any ct_law_any), sl_law_any⟩) (c_law_any : PySem.W.codeIn K cd_law_any "_law_any" = true) (k_law_any : PySem.W.keepIn K (.ref f_law_any) = true)
    {od_law_paint an_law_paint : Option Addr} {sl_law_paint : Array (Option Value)} {oc_law_paint kV_law_paint dc_law_paint pm_law_paint cd_law_paint ct_law_paint : Value}
    (a_law_paint : PySem.W.nsIn K mainGlobals "_law_paint" = some (some (.ref f_law_paint))) (l_law_paint : K.lookup f_law_paint = some ⟨oc_law_paint, od_law_paint, .func (PySem.W.fnOf "_law_paint" "_law_paint" (defArgs s_law_paint) (defBody s_law_paint) (defScope s_law_paint) .none kV_law_paint dc_law_paint pm_law_paint an_law_paint cd_law_paint ct_law_paint), sl_law_paint⟩) (c_law_paint : PySem.W.codeIn K cd_law_paint "_law_paint" = true) (k_law_paint : PySem.W.keepIn K (.ref f_law_paint) = true)
    {od_law_painted an_law_painted : Option Addr} {sl_law_painted : Array (Option Value)} {oc_law_painted kV_law_painted dc_law_painted pm_law_painted cd_law_painted ct_law_painted : Value}
    (a_law_painted : PySem.W.nsIn K mainGlobals "_law_painted" = some (some (.ref f_law_painted))) (l_law_painted : K.lookup f_law_painted = some ⟨oc_law_painted, od_law_painted, .func (PySem.W.fnOf "_law_painted" "_law_painted" (defArgs s_law_painted) (defBody s_law_painted) (defScope s_law_painted) .none kV_law_painted dc_law_painted pm_law_painted an_law_painted cd_law_painted ct_law_painted), sl_law_painted⟩) (c_law_painted : PySem.W.codeIn K cd_law_painted "_law_painted" = true) (k_law_painted : PySem.W.keepIn K (.ref f_law_painted) = true)
    {od_law_deeds an_law_deeds : Option Addr} {sl_law_deeds : Array (Option Value)} {oc_law_deeds kV_law_deeds dc_law_deeds pm_law_deeds cd_law_deeds ct_law_deeds : Value}
    (a_law_deeds : PySem.W.nsIn K mainGlobals "_law_deeds" = some (some (.ref f_law_deeds))) (l_law_deeds : K.lookup f_law_deeds = some ⟨oc_law_deeds, od_law_deeds, .func (PySem.W.fnOf "_law_deeds" "_law_deeds" (defArgs s_law_deeds) (defBody s_law_deeds) (defScope s_law_deeds) .none kV_law_deeds dc_law_deeds pm_law_deeds an_law_deeds cd_law_deeds ct_law_deeds), sl_law_deeds⟩) (c_law_deeds : PySem.W.codeIn K cd_law_deeds "_law_deeds" = true) (k_law_deeds : PySem.W.keepIn K (.ref f_law_deeds) = true)
    {od_law_picture an_law_picture : Option Addr} {sl_law_picture : Array (Option Value)} {oc_law_picture kV_law_picture dc_law_picture pm_law_picture cd_law_picture ct_law_picture : Value}
    (a_law_picture : PySem.W.nsIn K mainGlobals "_law_picture" = some (some (.ref f_law_picture))) (l_law_picture : K.lookup f_law_picture = some ⟨oc_law_picture, od_law_picture, .func (PySem.W.fnOf "_law_picture" "_law_picture" (defArgs s_law_picture) (defBody s_law_picture) (defScope s_law_picture) .none kV_law_picture dc_law_picture pm_law_picture an_law_picture cd_law_picture ct_law_picture), sl_law_picture⟩) (c_law_picture : PySem.W.codeIn K cd_law_picture "_law_picture" = true) (k_law_picture : PySem.W.keepIn K (.ref f_law_picture) = true)
    {od_law_layers an_law_layers : Option Addr} {sl_law_layers : Array (Option Value)} {oc_law_layers kV_law_layers dc_law_layers pm_law_layers cd_law_layers ct_law_layers : Value}
    (a_law_layers : PySem.W.nsIn K mainGlobals "_law_layers" = some (some (.ref f_law_layers))) (l_law_layers : K.lookup f_law_layers = some ⟨oc_law_layers, od_law_layers, .func (PySem.W.fnOf "_law_layers" "_law_layers" (defArgs s_law_layers) (defBody s_law_layers) (defScope s_law_layers) .none kV_law_layers dc_law_layers pm_law_layers an_law_layers cd_law_layers ct_law_layers), sl_law_layers⟩) (c_law_layers : PySem.W.codeIn K cd_law_layers "_law_layers" = true) (k_law_layers : PySem.W.keepIn K (.ref f_law_layers) = true)
    {od_law_core an_law_core : Option Addr} {sl_law_core : Array (Option Value)} {oc_law_core kV_law_core dc_law_core pm_law_core cd_law_core ct_law_core : Value}
    (a_law_core : PySem.W.nsIn K mainGlobals "_law_core" = some (some (.ref f_law_core))) (l_law_core : K.lookup f_law_core = some ⟨oc_law_core, od_law_core, .func (PySem.W.fnOf "_law_core" "_law_core" (defArgs s_law_core) (defBody s_law_core) (defScope s_law_core) .none kV_law_core dc_law_core pm_law_core an_law_core cd_law_core ct_law_core), sl_law_core⟩) (c_law_core : PySem.W.codeIn K cd_law_core "_law_core" = true) (k_law_core : PySem.W.keepIn K (.ref f_law_core) = true)
    {od_law_differ an_law_differ : Option Addr} {sl_law_differ : Array (Option Value)} {oc_law_differ kV_law_differ dc_law_differ pm_law_differ cd_law_differ ct_law_differ : Value}
    (a_law_differ : PySem.W.nsIn K mainGlobals "_law_differ" = some (some (.ref f_law_differ))) (l_law_differ : K.lookup f_law_differ = some ⟨oc_law_differ, od_law_differ, .func (PySem.W.fnOf "_law_differ" "_law_differ" (defArgs s_law_differ) (defBody s_law_differ) (defScope s_law_differ) .none kV_law_differ dc_law_differ pm_law_differ an_law_differ cd_law_differ ct_law_differ), sl_law_differ⟩) (c_law_differ : PySem.W.codeIn K cd_law_differ "_law_differ" = true) (k_law_differ : PySem.W.keepIn K (.ref f_law_differ) = true)
    {od_law_orders an_law_orders : Option Addr} {sl_law_orders : Array (Option Value)} {oc_law_orders kV_law_orders dc_law_orders pm_law_orders cd_law_orders ct_law_orders : Value}
    (a_law_orders : PySem.W.nsIn K mainGlobals "_law_orders" = some (some (.ref f_law_orders))) (l_law_orders : K.lookup f_law_orders = some ⟨oc_law_orders, od_law_orders, .func (PySem.W.fnOf "_law_orders" "_law_orders" (defArgs s_law_orders) (defBody s_law_orders) (defScope s_law_orders) .none kV_law_orders dc_law_orders pm_law_orders an_law_orders cd_law_orders ct_law_orders), sl_law_orders⟩) (c_law_orders : PySem.W.codeIn K cd_law_orders "_law_orders" = true) (k_law_orders : PySem.W.keepIn K (.ref f_law_orders) = true)
    {od_law_least an_law_least : Option Addr} {sl_law_least : Array (Option Value)} {oc_law_least kV_law_least dc_law_least pm_law_least cd_law_least ct_law_least : Value}
    (a_law_least : PySem.W.nsIn K mainGlobals "_law_least" = some (some (.ref f_law_least))) (l_law_least : K.lookup f_law_least = some ⟨oc_law_least, od_law_least, .func (PySem.W.fnOf "_law_least" "_law_least" (defArgs s_law_least) (defBody s_law_least) (defScope s_law_least) .none kV_law_least dc_law_least pm_law_least an_law_least cd_law_least ct_law_least), sl_law_least⟩) (c_law_least : PySem.W.codeIn K cd_law_least "_law_least" = true) (k_law_least : PySem.W.keepIn K (.ref f_law_least) = true)
    {od_law_start an_law_start : Option Addr} {sl_law_start : Array (Option Value)} {oc_law_start kV_law_start dc_law_start pm_law_start cd_law_start ct_law_start : Value}
    (a_law_start : PySem.W.nsIn K mainGlobals "_law_start" = some (some (.ref f_law_start))) (l_law_start : K.lookup f_law_start = some ⟨oc_law_start, od_law_start, .func (PySem.W.fnOf "_law_start" "_law_start" (defArgs s_law_start) (defBody s_law_start) (defScope s_law_start) .none kV_law_start dc_law_start pm_law_start an_law_start cd_law_start ct_law_start), sl_law_start⟩) (c_law_start : PySem.W.codeIn K cd_law_start "_law_start" = true) (k_law_start : PySem.W.keepIn K (.ref f_law_start) = true)
    {od_law_alike an_law_alike : Option Addr} {sl_law_alike : Array (Option Value)} {oc_law_alike kV_law_alike dc_law_alike pm_law_alike cd_law_alike ct_law_alike : Value}
    (a_law_alike : PySem.W.nsIn K mainGlobals "_law_alike" = some (some (.ref f_law_alike))) (l_law_alike : K.lookup f_law_alike = some ⟨oc_law_alike, od_law_alike, .func (PySem.W.fnOf "_law_alike" "_law_alike" (defArgs s_law_alike) (defBody s_law_alike) (defScope s_law_alike) .none kV_law_alike dc_law_alike pm_law_alike an_law_alike cd_law_alike ct_law_alike), sl_law_alike⟩) (c_law_alike : PySem.W.codeIn K cd_law_alike "_law_alike" = true) (k_law_alike : PySem.W.keepIn K (.ref f_law_alike) = true)
    {od_law an_law : Option Addr} {sl_law : Array (Option Value)} {oc_law kV_law dc_law pm_law cd_law ct_law : Value}
    (a_law : PySem.W.nsIn K mainGlobals "law" = some (some (.ref f_law))) (l_law : K.lookup f_law = some ⟨oc_law, od_law, .func (PySem.W.fnOf "law" "law" (defArgs s_law) (defBody s_law) (defScope s_law) .none kV_law dc_law pm_law an_law cd_law ct_law), sl_law⟩) (c_law : PySem.W.codeIn K cd_law "law" = true) (k_law : PySem.W.keepIn K (.ref f_law) = true)
    (z_isinstance : PySem.W.nsIn K mainGlobals "isinstance" = some none)
    (z_len : PySem.W.nsIn K mainGlobals "len" = some none)
    (z_all : PySem.W.nsIn K mainGlobals "all" = some none)
    (z_any : PySem.W.nsIn K mainGlobals "any" = some none)
    (z_sum : PySem.W.nsIn K mainGlobals "sum" = some none)
    (z_sorted : PySem.W.nsIn K mainGlobals "sorted" = some none)
    (z_int : PySem.W.nsIn K mainGlobals "int" = some none)
    (z_bool : PySem.W.nsIn K mainGlobals "bool" = some none)
    (z_tuple : PySem.W.nsIn K mainGlobals "tuple" = some none)
    (z_list : PySem.W.nsIn K mainGlobals "list" = some none)
    (z_str : PySem.W.nsIn K mainGlobals "str" = some none)
    (z_set : PySem.W.nsIn K mainGlobals "set" = some none)
    (z_range : PySem.W.nsIn K mainGlobals "range" = some none)
    (z_enumerate : PySem.W.nsIn K mainGlobals "enumerate" = some none)
    {t_MOST_SIDE : Tok} {t_BLACK : Tok} {t_WHITE : Tok} {t_MOST_LISTED : Tok}
    (q_MOST_SIDE : PySem.W.nsIn K mainGlobals "MOST_SIDE" = some (some (.int 30 t_MOST_SIDE)))
    (q_BLACK : PySem.W.nsIn K mainGlobals "BLACK" = some (some (.str ⟨#[35]⟩ t_BLACK)))
    (q_WHITE : PySem.W.nsIn K mainGlobals "WHITE" = some (some (.str ⟨#[46]⟩ t_WHITE)))
    (q_MOST_LISTED : PySem.W.nsIn K mainGlobals "MOST_LISTED" = some (some (.int 500 t_MOST_LISTED)))
    : ∃ fd : FuncData, (∀ (s : Shared) (v : Value), BindsTo s fd ⟨[v], []⟩ [("_law_script", v)]) ∧ ∀ base : Heap, K.In base → base.Ns mainGlobals mg → FnOk l.prog w K mg base CX0 65 fa fd ["_law_script"] (sp_law K) := by
  have e := hfa.symm.trans (PySem.W.mg_of X G a_law)
  cases e
  have F_is_int := fun_mk (st := s_is_int) l_is_int c_is_int k_is_int
  have b_is_int := F_is_int.binds (ps := ["value"]) fun _ _ _ _ _ _ us hl => match us, hl with | [_], _ => rfl
  have F_is_in := fun_mk (st := s_is_in) l_is_in c_is_in k_is_in
  have b_is_in := F_is_in.binds (ps := ["value", "least", "most"]) fun _ _ _ _ _ _ us hl => match us, hl with | [_, _, _], _ => rfl
  have F_is_picture := fun_mk (st := s_is_picture) l_is_picture c_is_picture k_is_picture
  have b_is_picture := F_is_picture.binds (ps := ["value"]) fun _ _ _ _ _ _ us hl => match us, hl with | [_], _ => rfl
  have F_need_picture := fun_mk (st := s_need_picture) l_need_picture c_need_picture k_need_picture
  have b_need_picture := F_need_picture.binds (ps := ["value"]) fun _ _ _ _ _ _ us hl => match us, hl with | [_], _ => rfl
  have F_need_two := fun_mk (st := s_need_two) l_need_two c_need_two k_need_two
  have b_need_two := F_need_two.binds (ps := ["start", "goal"]) fun _ _ _ _ _ _ us hl => match us, hl with | [_, _], _ => rfl
  have F_lines_of := fun_mk (st := s_lines_of) l_lines_of c_lines_of k_lines_of
  have b_lines_of := F_lines_of.binds (ps := ["picture"]) fun _ _ _ _ _ _ us hl => match us, hl with | [_], _ => rfl
  have F_are_deeds := fun_mk (st := s_are_deeds) l_are_deeds c_are_deeds k_are_deeds
  have b_are_deeds := F_are_deeds.binds (ps := ["picture", "value"]) fun _ _ _ _ _ _ us hl => match us, hl with | [_, _], _ => rfl
  have F_painted_line := fun_mk (st := s_painted_line) l_painted_line c_painted_line k_painted_line
  have b_painted_line := F_painted_line.binds (ps := ["picture", "line"]) fun _ _ _ _ _ _ us hl => match us, hl with | [_, _], _ => rfl
  have F_all_painted := fun_mk (st := s_all_painted) l_all_painted c_all_painted k_all_painted
  have b_all_painted := F_all_painted.binds (ps := ["picture", "deeds"]) fun _ _ _ _ _ _ us hl => match us, hl with | [_, _], _ => rfl
  have F_differing := fun_mk (st := s_differing) l_differing c_differing k_differing
  have b_differing := F_differing.binds (ps := ["start", "goal"]) fun _ _ _ _ _ _ us hl => match us, hl with | [_, _], _ => rfl
  have F_leads_to := fun_mk (st := s_leads_to) l_leads_to c_leads_to k_leads_to
  have b_leads_to := F_leads_to.binds (ps := ["picture", "line"]) fun _ _ _ _ _ _ us hl => match us, hl with | [_, _], _ => rfl
  have F_product_to := fun_mk (st := s_product_to) l_product_to c_product_to k_product_to
  have b_product_to := F_product_to.binds (ps := ["number"]) fun _ _ _ _ _ _ us hl => match us, hl with | [_], _ => rfl
  have F_meets := fun_mk (st := s_meets) l_meets c_meets k_meets
  have b_meets := F_meets.binds (ps := ["picture", "cell", "lines"]) fun _ _ _ _ _ _ us hl => match us, hl with | [_, _, _], _ => rfl
  have F_layers_of := fun_mk (st := s_layers_of) l_layers_of c_layers_of k_layers_of
  have b_layers_of := F_layers_of.binds (ps := ["picture"]) fun _ _ _ _ _ _ us hl => match us, hl with | [_], _ => rfl
  have F_trimmed := fun_mk (st := s_trimmed) l_trimmed c_trimmed k_trimmed
  have b_trimmed := F_trimmed.binds (ps := ["found"]) fun _ _ _ _ _ _ us hl => match us, hl with | [_], _ => rfl
  have F_ways_number := fun_mk (st := s_ways_number) l_ways_number c_ways_number k_ways_number
  have b_ways_number := F_ways_number.binds (ps := ["told"]) fun _ _ _ _ _ _ us hl => match us, hl with | [_], _ => rfl
  have F_need_number := fun_mk (st := s_need_number) l_need_number c_need_number k_need_number
  have b_need_number := F_need_number.binds (ps := ["value", "least", "most"]) fun _ _ _ _ _ _ us hl => match us, hl with | [_, _, _], _ => rfl
  have F_least_of := fun_mk (st := s_least_of) l_least_of c_least_of k_least_of
  have b_least_of := F_least_of.binds (ps := ["start", "goal"]) fun _ _ _ _ _ _ us hl => match us, hl with | [_, _], _ => rfl
  have F_need_way := fun_mk (st := s_need_way) l_need_way c_need_way k_need_way
  have b_need_way := F_need_way.binds (ps := ["start", "goal"]) fun _ _ _ _ _ _ us hl => match us, hl with | [_, _], _ => rfl
  have F_count_ways := fun_mk (st := s_count_ways) l_count_ways c_count_ways k_count_ways
  have b_count_ways := F_count_ways.binds (ps := ["start", "goal"]) fun _ _ _ _ _ _ us hl => match us, hl with | [_, _], _ => rfl
  have F_way := fun_mk (st := s_way) l_way c_way k_way
  have b_way := F_way.binds (ps := ["start", "goal"]) fun _ _ _ _ _ _ us hl => match us, hl with | [_, _], _ => rfl
  have F_shows_way := fun_mk (st := s_shows_way) l_shows_way c_shows_way k_shows_way
  have b_shows_way := F_shows_way.binds (ps := ["start", "goal", "value"]) fun _ _ _ _ _ _ us hl => match us, hl with | [_, _, _], _ => rfl
  have F_shows_deeds := fun_mk (st := s_shows_deeds) l_shows_deeds c_shows_deeds k_shows_deeds
  have b_shows_deeds := F_shows_deeds.binds (ps := ["start", "goal", "value"]) fun _ _ _ _ _ _ us hl => match us, hl with | [_, _, _], _ => rfl
  have F_orders_of := fun_mk (st := s_orders_of) l_orders_of c_orders_of k_orders_of
  have b_orders_of := F_orders_of.binds (ps := ["some"]) fun _ _ _ _ _ _ us hl => match us, hl with | [_], _ => rfl
  have F_ways := fun_mk (st := s_ways) l_ways c_ways k_ways
  have b_ways := F_ways.binds (ps := ["start", "goal"]) fun _ _ _ _ _ _ us hl => match us, hl with | [_, _], _ => rfl
  have F_first_deeds := fun_mk (st := s_first_deeds) l_first_deeds c_first_deeds k_first_deeds
  have b_first_deeds := F_first_deeds.binds (ps := ["start", "goal"]) fun _ _ _ _ _ _ us hl => match us, hl with | [_, _], _ => rfl
  have F_way_at := fun_mk (st := s_way_at) l_way_at c_way_at k_way_at
  have b_way_at := F_way_at.binds (ps := ["start", "goal", "index"]) fun _ _ _ _ _ _ us hl => match us, hl with | [_, _, _], _ => rfl
  have F_way_number := fun_mk (st := s_way_number) l_way_number c_way_number k_way_number
  have b_way_number := F_way_number.binds (ps := ["start", "goal", "value"]) fun _ _ _ _ _ _ us hl => match us, hl with | [_, _, _], _ => rfl
  have F_law_taken := fun_mk (st := s_law_taken) l_law_taken c_law_taken k_law_taken
  have b_law_taken := F_law_taken.binds (ps := ["_law_row", "_law_many"]) fun _ _ _ _ _ _ us hl => match us, hl with | [_, _], _ => rfl
  have F_law_pick := fun_mk (st := s_law_pick) l_law_pick c_law_pick k_law_pick
  have b_law_pick := F_law_pick.binds (ps := ["_law_row", "_law_things"]) fun _ _ _ _ _ _ us hl => match us, hl with | [_, _], _ => rfl
  have F_law_mixed := fun_mk (st := s_law_mixed) l_law_mixed c_law_mixed k_law_mixed
  have b_law_mixed := F_law_mixed.binds (ps := ["_law_row", "_law_some"]) fun _ _ _ _ _ _ us hl => match us, hl with | [_, _], _ => rfl
  have F_law_any := fun_mk (st := s_law_any) l_law_any c_law_any k_law_any
  have b_law_any := F_law_any.binds (ps := ["_law_row", "_law_high", "_law_wide"]) fun _ _ _ _ _ _ us hl => match us, hl with | [_, _, _], _ => rfl
  have F_law_paint := fun_mk (st := s_law_paint) l_law_paint c_law_paint k_law_paint
  have b_law_paint := F_law_paint.binds (ps := ["_law_picture_here", "_law_line"]) fun _ _ _ _ _ _ us hl => match us, hl with | [_, _], _ => rfl
  have F_law_painted := fun_mk (st := s_law_painted) l_law_painted c_law_painted k_law_painted
  have b_law_painted := F_law_painted.binds (ps := ["_law_picture_here", "_law_deeds_here"]) fun _ _ _ _ _ _ us hl => match us, hl with | [_, _], _ => rfl
  have F_law_deeds := fun_mk (st := s_law_deeds) l_law_deeds c_law_deeds k_law_deeds
  have b_law_deeds := F_law_deeds.binds (ps := ["_law_row", "_law_picture_here", "_law_most"]) fun _ _ _ _ _ _ us hl => match us, hl with | [_, _, _], _ => rfl
  have F_law_picture := fun_mk (st := s_law_picture) l_law_picture c_law_picture k_law_picture
  have b_law_picture := F_law_picture.binds (ps := ["_law_row", "_law_most"]) fun _ _ _ _ _ _ us hl => match us, hl with | [_, _], _ => rfl
  have F_law_layers := fun_mk (st := s_law_layers) l_law_layers c_law_layers k_law_layers
  have b_law_layers := F_law_layers.binds (ps := ["_law_picture_here"]) fun _ _ _ _ _ _ us hl => match us, hl with | [_], _ => rfl
  have F_law_core := fun_mk (st := s_law_core) l_law_core c_law_core k_law_core
  have b_law_core := F_law_core.binds (ps := ["_law_picture_here"]) fun _ _ _ _ _ _ us hl => match us, hl with | [_], _ => rfl
  have F_law_differ := fun_mk (st := s_law_differ) l_law_differ c_law_differ k_law_differ
  have b_law_differ := F_law_differ.binds (ps := ["_law_start_here", "_law_goal"]) fun _ _ _ _ _ _ us hl => match us, hl with | [_, _], _ => rfl
  have F_law_orders := fun_mk (st := s_law_orders) l_law_orders c_law_orders k_law_orders
  have b_law_orders := F_law_orders.binds (ps := ["_law_some"]) fun _ _ _ _ _ _ us hl => match us, hl with | [_], _ => rfl
  have F_law_least := fun_mk (st := s_law_least) l_law_least c_law_least k_law_least
  have b_law_least := F_law_least.binds (ps := ["_law_start_here", "_law_goal"]) fun _ _ _ _ _ _ us hl => match us, hl with | [_, _], _ => rfl
  have F_law_start := fun_mk (st := s_law_start) l_law_start c_law_start k_law_start
  have b_law_start := F_law_start.binds (ps := ["_law_row", "_law_goal"]) fun _ _ _ _ _ _ us hl => match us, hl with | [_, _], _ => rfl
  have F_law_alike := fun_mk (st := s_law_alike) l_law_alike c_law_alike k_law_alike
  have b_law_alike := F_law_alike.binds (ps := ["_law_found", "_law_due"]) fun _ _ _ _ _ _ us hl => match us, hl with | [_, _], _ => rfl
  have F_law := fun_mk (st := s_law) l_law c_law k_law
  have b_law := F_law.binds (ps := ["_law_script"]) fun _ _ _ _ _ _ us hl => match us, hl with | [_], _ => rfl
  have TT : Txt mg := ⟨PySem.W.mg_none_of X G z_isinstance, PySem.W.mg_none_of X G z_len, PySem.W.mg_none_of X G z_all, PySem.W.mg_none_of X G z_any, PySem.W.mg_none_of X G z_sum, PySem.W.mg_none_of X G z_sorted, PySem.W.mg_none_of X G z_int, PySem.W.mg_none_of X G z_bool, PySem.W.mg_none_of X G z_tuple, PySem.W.mg_none_of X G z_list, PySem.W.mg_none_of X G z_str, PySem.W.mg_none_of X G z_set, PySem.W.mg_none_of X G z_range, PySem.W.mg_none_of X G z_enumerate, ⟨_, PySem.W.mg_of X G q_MOST_SIDE, ⟨_, rfl⟩⟩, ⟨_, PySem.W.mg_of X G q_BLACK, ⟨_, rfl⟩⟩, ⟨_, PySem.W.mg_of X G q_WHITE, ⟨_, rfl⟩⟩, ⟨_, PySem.W.mg_of X G q_MOST_LISTED, ⟨_, rfl⟩⟩⟩
  refine ⟨PySem.W.fnOf "law" "law" (defArgs s_law) (defBody s_law) (defScope s_law) .none kV_law dc_law pm_law an_law cd_law ct_law, fun s v => .of_eq rfl, fun base _ _ => ?_⟩
  have o_is_int := ok_is_int (P := l.prog) (w := w) (base := base) TT F_is_int 
  have r_is_int := cal_of F_is_int o_is_int (PySem.W.mg_of X G a_is_int) b_is_int
  have o_is_in := ok_is_in (P := l.prog) (w := w) (base := base) TT F_is_in r_is_int
  have r_is_in := cal_of F_is_in o_is_in (PySem.W.mg_of X G a_is_in) b_is_in
  have o_is_picture := ok_is_picture (P := l.prog) (w := w) (base := base) TT F_is_picture 
  have r_is_picture := cal_of F_is_picture o_is_picture (PySem.W.mg_of X G a_is_picture) b_is_picture
  have o_need_picture := ok_need_picture (P := l.prog) (w := w) (base := base) TT F_need_picture r_is_picture
  have r_need_picture := cal_of F_need_picture o_need_picture (PySem.W.mg_of X G a_need_picture) b_need_picture
  have o_need_two := ok_need_two (P := l.prog) (w := w) (base := base) TT F_need_two r_need_picture
  have r_need_two := cal_of F_need_two o_need_two (PySem.W.mg_of X G a_need_two) b_need_two
  have o_lines_of := ok_lines_of (P := l.prog) (w := w) (base := base) TT F_lines_of 
  have r_lines_of := cal_of F_lines_of o_lines_of (PySem.W.mg_of X G a_lines_of) b_lines_of
  have o_are_deeds := ok_are_deeds (P := l.prog) (w := w) (base := base) TT F_are_deeds r_is_in r_lines_of
  have r_are_deeds := cal_of F_are_deeds o_are_deeds (PySem.W.mg_of X G a_are_deeds) b_are_deeds
  have o_painted_line := ok_painted_line (P := l.prog) (w := w) (base := base) TT F_painted_line 
  have r_painted_line := cal_of F_painted_line o_painted_line (PySem.W.mg_of X G a_painted_line) b_painted_line
  have o_all_painted := ok_all_painted (P := l.prog) (w := w) (base := base) TT F_all_painted r_painted_line
  have r_all_painted := cal_of F_all_painted o_all_painted (PySem.W.mg_of X G a_all_painted) b_all_painted
  have o_differing := ok_differing (P := l.prog) (w := w) (base := base) TT F_differing 
  have r_differing := cal_of F_differing o_differing (PySem.W.mg_of X G a_differing) b_differing
  have o_leads_to := ok_leads_to (P := l.prog) (w := w) (base := base) TT F_leads_to 
  have r_leads_to := cal_of F_leads_to o_leads_to (PySem.W.mg_of X G a_leads_to) b_leads_to
  have o_product_to := ok_product_to (P := l.prog) (w := w) (base := base) TT F_product_to 
  have r_product_to := cal_of F_product_to o_product_to (PySem.W.mg_of X G a_product_to) b_product_to
  have o_meets := ok_meets (P := l.prog) (w := w) (base := base) TT F_meets 
  have r_meets := cal_of F_meets o_meets (PySem.W.mg_of X G a_meets) b_meets
  have o_layers_of := ok_layers_of (P := l.prog) (w := w) (base := base) TT F_layers_of r_lines_of r_leads_to
  have r_layers_of := cal_of F_layers_of o_layers_of (PySem.W.mg_of X G a_layers_of) b_layers_of
  have o_trimmed := ok_trimmed (P := l.prog) (w := w) (base := base) TT F_trimmed 
  have r_trimmed := cal_of F_trimmed o_trimmed (PySem.W.mg_of X G a_trimmed) b_trimmed
  have o_ways_number := ok_ways_number (P := l.prog) (w := w) (base := base) TT F_ways_number r_product_to
  have r_ways_number := cal_of F_ways_number o_ways_number (PySem.W.mg_of X G a_ways_number) b_ways_number
  have o_need_number := ok_need_number (P := l.prog) (w := w) (base := base) TT F_need_number r_is_in
  have r_need_number := cal_of F_need_number o_need_number (PySem.W.mg_of X G a_need_number) b_need_number
  have o_least_of := ok_least_of (P := l.prog) (w := w) (base := base) TT F_least_of r_differing r_layers_of r_meets r_trimmed
  have r_least_of := cal_of F_least_of o_least_of (PySem.W.mg_of X G a_least_of) b_least_of
  have o_need_way := ok_need_way (P := l.prog) (w := w) (base := base) TT F_need_way r_need_two r_least_of
  have r_need_way := cal_of F_need_way o_need_way (PySem.W.mg_of X G a_need_way) b_need_way
  have o_count_ways := ok_count_ways (P := l.prog) (w := w) (base := base) TT F_count_ways r_need_two r_least_of r_ways_number
  have r_count_ways := cal_of F_count_ways o_count_ways (PySem.W.mg_of X G a_count_ways) b_count_ways
  have o_way := ok_way (P := l.prog) (w := w) (base := base) TT F_way r_need_way
  have r_way := cal_of F_way o_way (PySem.W.mg_of X G a_way) b_way
  have o_shows_way := ok_shows_way (P := l.prog) (w := w) (base := base) TT F_shows_way r_need_two r_least_of r_are_deeds r_all_painted
  have r_shows_way := cal_of F_shows_way o_shows_way (PySem.W.mg_of X G a_shows_way) b_shows_way
  have o_shows_deeds := ok_shows_deeds (P := l.prog) (w := w) (base := base) TT F_shows_deeds r_need_two r_are_deeds r_all_painted
  have r_shows_deeds := cal_of F_shows_deeds o_shows_deeds (PySem.W.mg_of X G a_shows_deeds) b_shows_deeds
  have o_orders_of := ok_orders_of (P := l.prog) (w := w) (base := base) TT F_orders_of (PySem.W.mg_of X G a_orders_of) b_orders_of 4
  have r_orders_of := cal_of F_orders_of o_orders_of (PySem.W.mg_of X G a_orders_of) b_orders_of
  have o_ways := ok_ways (P := l.prog) (w := w) (base := base) TT F_ways r_need_two r_least_of r_ways_number r_orders_of
  have r_ways := cal_of F_ways o_ways (PySem.W.mg_of X G a_ways) b_ways
  have o_first_deeds := ok_first_deeds (P := l.prog) (w := w) (base := base) TT F_first_deeds r_need_way
  have r_first_deeds := cal_of F_first_deeds o_first_deeds (PySem.W.mg_of X G a_first_deeds) b_first_deeds
  have o_way_at := ok_way_at (P := l.prog) (w := w) (base := base) TT F_way_at r_need_two r_least_of r_ways_number r_need_number
  have r_way_at := cal_of F_way_at o_way_at (PySem.W.mg_of X G a_way_at) b_way_at
  have o_way_number := ok_way_number (P := l.prog) (w := w) (base := base) TT F_way_number r_shows_way r_least_of
  have r_way_number := cal_of F_way_number o_way_number (PySem.W.mg_of X G a_way_number) b_way_number
  have o_law_taken := ok_law_taken (P := l.prog) (w := w) (base := base) TT F_law_taken 
  have r_law_taken := cal_of F_law_taken o_law_taken (PySem.W.mg_of X G a_law_taken) b_law_taken
  have o_law_pick := ok_law_pick (P := l.prog) (w := w) (base := base) TT F_law_pick r_law_taken
  have r_law_pick := cal_of F_law_pick o_law_pick (PySem.W.mg_of X G a_law_pick) b_law_pick
  have o_law_mixed := ok_law_mixed (P := l.prog) (w := w) (base := base) TT F_law_mixed r_law_taken
  have r_law_mixed := cal_of F_law_mixed o_law_mixed (PySem.W.mg_of X G a_law_mixed) b_law_mixed
  have o_law_any := ok_law_any (P := l.prog) (w := w) (base := base) TT F_law_any r_law_taken r_law_pick
  have r_law_any := cal_of F_law_any o_law_any (PySem.W.mg_of X G a_law_any) b_law_any
  have o_law_paint := ok_law_paint (P := l.prog) (w := w) (base := base) TT F_law_paint 
  have r_law_paint := cal_of F_law_paint o_law_paint (PySem.W.mg_of X G a_law_paint) b_law_paint
  have o_law_painted := ok_law_painted (P := l.prog) (w := w) (base := base) TT F_law_painted r_law_paint
  have r_law_painted := cal_of F_law_painted o_law_painted (PySem.W.mg_of X G a_law_painted) b_law_painted
  have o_law_deeds := ok_law_deeds (P := l.prog) (w := w) (base := base) TT F_law_deeds r_law_taken
  have r_law_deeds := cal_of F_law_deeds o_law_deeds (PySem.W.mg_of X G a_law_deeds) b_law_deeds
  have o_law_picture := ok_law_picture (P := l.prog) (w := w) (base := base) TT F_law_picture r_law_taken r_law_any r_law_painted r_law_deeds r_law_mixed
  have r_law_picture := cal_of F_law_picture o_law_picture (PySem.W.mg_of X G a_law_picture) b_law_picture
  have o_law_layers := ok_law_layers (P := l.prog) (w := w) (base := base) TT F_law_layers 
  have r_law_layers := cal_of F_law_layers o_law_layers (PySem.W.mg_of X G a_law_layers) b_law_layers
  have o_law_core := ok_law_core (P := l.prog) (w := w) (base := base) TT F_law_core r_law_layers
  have r_law_core := cal_of F_law_core o_law_core (PySem.W.mg_of X G a_law_core) b_law_core
  have o_law_differ := ok_law_differ (P := l.prog) (w := w) (base := base) TT F_law_differ 
  have r_law_differ := cal_of F_law_differ o_law_differ (PySem.W.mg_of X G a_law_differ) b_law_differ
  have o_law_orders := ok_law_orders (P := l.prog) (w := w) (base := base) TT F_law_orders 
  have r_law_orders := cal_of F_law_orders o_law_orders (PySem.W.mg_of X G a_law_orders) b_law_orders
  have o_law_least := ok_law_least (P := l.prog) (w := w) (base := base) TT F_law_least r_law_differ r_law_layers
  have r_law_least := cal_of F_law_least o_law_least (PySem.W.mg_of X G a_law_least) b_law_least
  have o_law_start := ok_law_start (P := l.prog) (w := w) (base := base) TT F_law_start r_law_taken r_law_pick r_law_any r_law_painted r_law_deeds r_law_core
  have r_law_start := cal_of F_law_start o_law_start (PySem.W.mg_of X G a_law_start) b_law_start
  have o_law_alike := ok_law_alike (P := l.prog) (w := w) (base := base) TT F_law_alike (PySem.W.mg_of X G a_law_alike) b_law_alike 3
  have r_law_alike := cal_of F_law_alike o_law_alike (PySem.W.mg_of X G a_law_alike) b_law_alike
  exact ok_law TT F_law r_law_picture r_law_start r_law_least r_count_ways r_ways r_shows_way r_law_orders r_law_painted r_law_alike r_way r_way_at r_way_number r_first_deeds r_law_mixed r_law_deeds r_shows_deeds
theorem walk {l : PySem.W.OpenLaw} {q : Program} {loose : List Str} {XP : (Str → Option Value) → Heap → Prop} {YP : World → Heap → Prop} {d : DefRec} {K : Params → PySem.W.Frag} (hn : l.most = some 63) (hdf : d.params.defaults = [])
    (hY : ∀ (w : World) (h : Heap), YP w h → (K w.params).In h)
    (F : ∀ (w : World) (mg : Str → Option Value) (fa : Addr) (h : Heap), (K w.params).In h → h.Ns mainGlobals mg → mg d.name = some (.ref fa) →
      ∃ fd : FuncData, (∀ (s : Shared) (u : Value), BindsTo s fd ⟨[u], []⟩ [("_law_script", u)]) ∧ ∀ base : Heap, (K w.params).In base → base.Ns mainGlobals mg → FnOk l.prog w (K w.params) mg base CX0 65 fa fd ["_law_script"] (sp_law (K w.params))) :
    PySem.W.WalkO q loose XP YP l.row.toRowW d [] (fun f vs => PySem.call f vs) :=
  L2.walk_of (n := 63) (k := 65) (x := "_law_script") (CX := fun _ => CX0) (sp := fun w => sp_law (K w.params)) hn (by decide) hdf ⟨rfl, by decide, by decide⟩ hY F (fun _ _ a ns hl _ hS => ⟨a, ns, rfl, hS, hl, fun _ => rfl⟩) fun _ _ _ _ _ z => z
end LW
open PySem PySem.W PyProof.Rows
set_option maxRecDepth 100000 in
set_option maxHeartbeats 0 in
theorem PySem.Challenge.cw_linepainters_k10_whole_ways_holds : PySem.Challenge.rw_linepainters_k10_whole_ways.Holds := by
  w_on; o_law; k_head; (case hw => w_witness2)
  k_fill
  refine LW.walk (l := PySem.Challenge.rw_linepainters_k10_whole_ways) rfl rfl (fun w h Y => PySem.W.kIn_of Y) ?F
  case F =>
    intro w mg fa h KX G hmg
    refine' LW.all_mk KX G hmg ?a_is_int ?l_is_int ?c_is_int ?k_is_int ?a_is_in ?l_is_in ?c_is_in ?k_is_in ?a_is_picture ?l_is_picture ?c_is_picture ?k_is_picture ?a_need_picture ?l_need_picture ?c_need_picture ?k_need_picture ?a_need_two ?l_need_two ?c_need_two ?k_need_two ?a_lines_of ?l_lines_of ?c_lines_of ?k_lines_of ?a_are_deeds ?l_are_deeds ?c_are_deeds ?k_are_deeds ?a_painted_line ?l_painted_line ?c_painted_line ?k_painted_line ?a_all_painted ?l_all_painted ?c_all_painted ?k_all_painted ?a_differing ?l_differing ?c_differing ?k_differing ?a_leads_to ?l_leads_to ?c_leads_to ?k_leads_to ?a_product_to ?l_product_to ?c_product_to ?k_product_to ?a_meets ?l_meets ?c_meets ?k_meets ?a_layers_of ?l_layers_of ?c_layers_of ?k_layers_of ?a_trimmed ?l_trimmed ?c_trimmed ?k_trimmed ?a_ways_number ?l_ways_number ?c_ways_number ?k_ways_number ?a_need_number ?l_need_number ?c_need_number ?k_need_number ?a_least_of ?l_least_of ?c_least_of ?k_least_of ?a_need_way ?l_need_way ?c_need_way ?k_need_way ?a_count_ways ?l_count_ways ?c_count_ways ?k_count_ways ?a_way ?l_way ?c_way ?k_way ?a_shows_way ?l_shows_way ?c_shows_way ?k_shows_way ?a_shows_deeds ?l_shows_deeds ?c_shows_deeds ?k_shows_deeds ?a_orders_of ?l_orders_of ?c_orders_of ?k_orders_of ?a_ways ?l_ways ?c_ways ?k_ways ?a_first_deeds ?l_first_deeds ?c_first_deeds ?k_first_deeds ?a_way_at ?l_way_at ?c_way_at ?k_way_at ?a_way_number ?l_way_number ?c_way_number ?k_way_number ?a_law_taken ?l_law_taken ?c_law_taken ?k_law_taken ?a_law_pick ?l_law_pick ?c_law_pick ?k_law_pick ?a_law_mixed ?l_law_mixed ?c_law_mixed ?k_law_mixed ?a_law_any ?l_law_any ?c_law_any ?k_law_any ?a_law_paint ?l_law_paint ?c_law_paint ?k_law_paint ?a_law_painted ?l_law_painted ?c_law_painted ?k_law_painted ?a_law_deeds ?l_law_deeds ?c_law_deeds ?k_law_deeds ?a_law_picture ?l_law_picture ?c_law_picture ?k_law_picture ?a_law_layers ?l_law_layers ?c_law_layers ?k_law_layers ?a_law_core ?l_law_core ?c_law_core ?k_law_core ?a_law_differ ?l_law_differ ?c_law_differ ?k_law_differ ?a_law_orders ?l_law_orders ?c_law_orders ?k_law_orders ?a_law_least ?l_law_least ?c_law_least ?k_law_least ?a_law_start ?l_law_start ?c_law_start ?k_law_start ?a_law_alike ?l_law_alike ?c_law_alike ?k_law_alike ?a_law ?l_law ?c_law ?k_law ?z_isinstance ?z_len ?z_all ?z_any ?z_sum ?z_sorted ?z_int ?z_bool ?z_tuple ?z_list ?z_str ?z_set ?z_range ?z_enumerate ?q_MOST_SIDE ?q_BLACK ?q_WHITE ?q_MOST_LISTED
    (case a_is_int => k_is); (case l_is_int => k_is); (case c_is_int => k_is); (case k_is_int => k_is)
    (case a_is_in => k_is); (case l_is_in => k_is); (case c_is_in => k_is); (case k_is_in => k_is)
    (case a_is_picture => k_is); (case l_is_picture => k_is); (case c_is_picture => k_is); (case k_is_picture => k_is)
    (case a_need_picture => k_is); (case l_need_picture => k_is); (case c_need_picture => k_is); (case k_need_picture => k_is)
    (case a_need_two => k_is); (case l_need_two => k_is); (case c_need_two => k_is); (case k_need_two => k_is)
    (case a_lines_of => k_is); (case l_lines_of => k_is); (case c_lines_of => k_is); (case k_lines_of => k_is)
    (case a_are_deeds => k_is); (case l_are_deeds => k_is); (case c_are_deeds => k_is); (case k_are_deeds => k_is)
    (case a_painted_line => k_is); (case l_painted_line => k_is); (case c_painted_line => k_is); (case k_painted_line => k_is)
    (case a_all_painted => k_is); (case l_all_painted => k_is); (case c_all_painted => k_is); (case k_all_painted => k_is)
    (case a_differing => k_is); (case l_differing => k_is); (case c_differing => k_is); (case k_differing => k_is)
    (case a_leads_to => k_is); (case l_leads_to => k_is); (case c_leads_to => k_is); (case k_leads_to => k_is)
    (case a_product_to => k_is); (case l_product_to => k_is); (case c_product_to => k_is); (case k_product_to => k_is)
    (case a_meets => k_is); (case l_meets => k_is); (case c_meets => k_is); (case k_meets => k_is)
    (case a_layers_of => k_is); (case l_layers_of => k_is); (case c_layers_of => k_is); (case k_layers_of => k_is)
    (case a_trimmed => k_is); (case l_trimmed => k_is); (case c_trimmed => k_is); (case k_trimmed => k_is)
    (case a_ways_number => k_is); (case l_ways_number => k_is); (case c_ways_number => k_is); (case k_ways_number => k_is)
    (case a_need_number => k_is); (case l_need_number => k_is); (case c_need_number => k_is); (case k_need_number => k_is)
    (case a_least_of => k_is); (case l_least_of => k_is); (case c_least_of => k_is); (case k_least_of => k_is)
    (case a_need_way => k_is); (case l_need_way => k_is); (case c_need_way => k_is); (case k_need_way => k_is)
    (case a_count_ways => k_is); (case l_count_ways => k_is); (case c_count_ways => k_is); (case k_count_ways => k_is)
    (case a_way => k_is); (case l_way => k_is); (case c_way => k_is); (case k_way => k_is)
    (case a_shows_way => k_is); (case l_shows_way => k_is); (case c_shows_way => k_is); (case k_shows_way => k_is)
    (case a_shows_deeds => k_is); (case l_shows_deeds => k_is); (case c_shows_deeds => k_is); (case k_shows_deeds => k_is)
    (case a_orders_of => k_is); (case l_orders_of => k_is); (case c_orders_of => k_is); (case k_orders_of => k_is)
    (case a_ways => k_is); (case l_ways => k_is); (case c_ways => k_is); (case k_ways => k_is)
    (case a_first_deeds => k_is); (case l_first_deeds => k_is); (case c_first_deeds => k_is); (case k_first_deeds => k_is)
    (case a_way_at => k_is); (case l_way_at => k_is); (case c_way_at => k_is); (case k_way_at => k_is)
    (case a_way_number => k_is); (case l_way_number => k_is); (case c_way_number => k_is); (case k_way_number => k_is)
    (case a_law_taken => k_is); (case l_law_taken => k_is); (case c_law_taken => k_is); (case k_law_taken => k_is)
    (case a_law_pick => k_is); (case l_law_pick => k_is); (case c_law_pick => k_is); (case k_law_pick => k_is)
    (case a_law_mixed => k_is); (case l_law_mixed => k_is); (case c_law_mixed => k_is); (case k_law_mixed => k_is)
    (case a_law_any => k_is); (case l_law_any => k_is); (case c_law_any => k_is); (case k_law_any => k_is)
    (case a_law_paint => k_is); (case l_law_paint => k_is); (case c_law_paint => k_is); (case k_law_paint => k_is)
    (case a_law_painted => k_is); (case l_law_painted => k_is); (case c_law_painted => k_is); (case k_law_painted => k_is)
    (case a_law_deeds => k_is); (case l_law_deeds => k_is); (case c_law_deeds => k_is); (case k_law_deeds => k_is)
    (case a_law_picture => k_is); (case l_law_picture => k_is); (case c_law_picture => k_is); (case k_law_picture => k_is)
    (case a_law_layers => k_is); (case l_law_layers => k_is); (case c_law_layers => k_is); (case k_law_layers => k_is)
    (case a_law_core => k_is); (case l_law_core => k_is); (case c_law_core => k_is); (case k_law_core => k_is)
    (case a_law_differ => k_is); (case l_law_differ => k_is); (case c_law_differ => k_is); (case k_law_differ => k_is)
    (case a_law_orders => k_is); (case l_law_orders => k_is); (case c_law_orders => k_is); (case k_law_orders => k_is)
    (case a_law_least => k_is); (case l_law_least => k_is); (case c_law_least => k_is); (case k_law_least => k_is)
    (case a_law_start => k_is); (case l_law_start => k_is); (case c_law_start => k_is); (case k_law_start => k_is)
    (case a_law_alike => k_is); (case l_law_alike => k_is); (case c_law_alike => k_is); (case k_law_alike => k_is)
    (case a_law => k_is); (case l_law => k_is); (case c_law => k_is); (case k_law => k_is)
    (case z_isinstance => k_is); (case z_len => k_is); (case z_all => k_is); (case z_any => k_is)
    (case z_sum => k_is); (case z_sorted => k_is); (case z_int => k_is); (case z_bool => k_is)
    (case z_tuple => k_is); (case z_list => k_is); (case z_str => k_is); (case z_set => k_is)
    (case z_range => k_is); (case z_enumerate => k_is); (case q_MOST_SIDE => k_is); (case q_BLACK => k_is)
    (case q_WHITE => k_is); (case q_MOST_LISTED => k_is)
#print axioms PySem.Challenge.cw_linepainters_k10_whole_ways_holds
