import PyProof.Rows.All
import Wide.All
import OpenK.AllK
import Wide.FinOn
import HandS.ForMost
import HandS.Defaults
import HandS.HeadHook4
import PySem.Challenge.RW_footpath_k76_whole_least_costs_and_their
import KE.DataMinMax
import KE.SortData
import KE.SortKeyHeap
import KE.KDictItemsList
import HandS.Conv
import HandS.SortKw
import HandS.Keys
import HandS.TupLen
import HandS.DictTup
import HandS.Lambda
import HandS.DictComp
import PyProof.Rows.TupDisplay
import HandS.EndTab
import HandS.Deep
import HandS.TupAny
import HandS.Style
import HandS.IsInst
import HandS.Walk
import HandS.MakeKwOnly
import HandS.TryOnly
import HandS.TupLe
import KE.KStateDown
import Lean
import HandS.Head0
import HandS.Head1
import HandS.Head2
import HandS.HeadWalk
set_option Elab.async false
set_option linter.all false
set_option maxRecDepth 100000
set_option maxHeartbeats 0
/-! the text by places -/
namespace K76
open PySem PySem.Spec PyProof.Rows L2
def top (i : Nat) : Stmt := PySem.Challenge.pw_footpath_k76_whole_least_costs_and_their.main.body.getD i (.Pass ⟨0, 0, 0, 0⟩)
abbrev sPartner : Stmt := top 2
abbrev sMeets : Stmt := top 5
abbrev sFloorCost : Stmt := top 6
abbrev sGInit : Stmt := inClass (top 7) 0
abbrev sGHas : Stmt := inClass (top 7) 1
abbrev sGStepCost : Stmt := inClass (top 7) 2
abbrev sGSteps : Stmt := inClass (top 7) 3
abbrev sGJoined : Stmt := inClass (top 7) 4
abbrev sLeast : Stmt := top 8
abbrev sSearch : Stmt := top 9
abbrev sCheapest : Stmt := top 10
abbrev sWayCost : Stmt := top 11
abbrev sMarksHold : Stmt := top 12
abbrev sCheckPrice : Stmt := top 13
abbrev sRequire : Stmt := top 20
abbrev sCeiled : Stmt := top 21
abbrev sSInit : Stmt := inClass (top 22) 0
abbrev sLState : Stmt := top 24
abbrev sLDraw : Stmt := top 25
abbrev sLGround : Stmt := top 26
abbrev sLHalf : Stmt := top 27
abbrev sLPlaces : Stmt := top 28
abbrev sLStep : Stmt := top 29
abbrev sLSteps : Stmt := top 30
abbrev sLCosts : Stmt := top 31
abbrev sLWayCost : Stmt := top 32
abbrev sLTaken : Stmt := top 33
abbrev sLChanged : Stmt := top 34
abbrev sLMadeUp : Stmt := top 35
abbrev sLaw : Stmt := top 36
abbrev FnP (K : PySem.W.Frag) (x q : Str) (st : Stmt) (f : Addr) (fd : FuncData) : Prop := FunD K x q (defArgs st) (defBody st) (defScope st) [] [] f fd
end K76
/-! the mathematics: walks over a graph with positive costs, dicts as lists of pairs, the two searches, papers -/
namespace K76
/-! ### lists of pairs -/
section
variable {α β : Type} [DecidableEq α]
def lk (l : List (α × β)) (k : α) : Option β := (l.find? fun q => decide (q.1 = k)).map (·.2)
def pt (l : List (α × β)) (k : α) (v : β) : List (α × β) :=
  if (l.any fun q => decide (q.1 = k)) = true then l.map (fun q => if q.1 = k then (k, v) else q) else l ++ [(k, v)]
def dp (l : List (α × β)) (k : α) : List (α × β) := l.filter fun q => decide (q.1 ≠ k)
theorem lk_nil {k : α} : lk ([] : List (α × β)) k = none := rfl
theorem lk_pos {p : α × β} {r : List (α × β)} {k : α} (e : p.1 = k) : lk (p :: r) k = some p.2 := by simp [lk, List.find?_cons, e]
theorem lk_neg {p : α × β} {r : List (α × β)} {k : α} (e : ¬ p.1 = k) : lk (p :: r) k = lk r k := by simp [lk, List.find?_cons, e]
theorem lk_any (k : α) : ∀ l : List (α × β), (l.any fun q => decide (q.1 = k)) = (lk l k).isSome
  | [] => rfl
  | p :: r => by
    rw [List.any_cons, lk_any k r]
    by_cases e : p.1 = k
    · rw [lk_pos e]; simp [e]
    · rw [lk_neg e]; simp [e]
theorem lk_mem : ∀ {l : List (α × β)} {k : α} {v : β}, lk l k = some v → (k, v) ∈ l
  | [], _, _, h => by cases h
  | p :: r, k, v, h => by
    by_cases e : p.1 = k
    · rw [lk_pos e] at h
      obtain ⟨a, b⟩ := p
      cases h; cases e
      exact List.mem_cons_self
    · rw [lk_neg e] at h
      exact List.mem_cons_of_mem _ (lk_mem h)
theorem lk_of_mem : ∀ {l : List (α × β)} {k : α} {v : β}, (l.map (·.1)).Nodup → (k, v) ∈ l → lk l k = some v
  | [], _, _, _, h => by cases h
  | p :: r, k, v, hn, h => by
    rw [List.map_cons, List.nodup_cons] at hn
    rcases List.mem_cons.mp h with h | h
    · cases h
      exact lk_pos rfl
    · have : ¬ p.1 = k := fun e => hn.1 (List.mem_map.mpr ⟨(k, v), h, e.symm⟩)
      rw [lk_neg this]
      exact lk_of_mem hn.2 h
theorem lk_none {l : List (α × β)} {k : α} : lk l k = none ↔ ∀ v, (k, v) ∉ l := by
  constructor
  · intro h v hm
    induction l with
    | nil => cases hm
    | cons p r ih =>
      by_cases e : p.1 = k
      · rw [lk_pos e] at h; cases h
      · rw [lk_neg e] at h
        rcases List.mem_cons.mp hm with hm | hm
        · cases hm; exact e rfl
        · exact ih h hm
  · intro h
    cases e : lk l k with
    | none => rfl
    | some v => exact absurd (lk_mem e) (h v)
theorem lk_keys {l : List (α × β)} {k : α} {v : β} (h : lk l k = some v) : k ∈ l.map (·.1) := List.mem_map.mpr ⟨(k, v), lk_mem h, rfl⟩
theorem lk_keys_iff {l : List (α × β)} {k : α} : k ∈ l.map (·.1) ↔ lk l k ≠ none := by
  constructor
  · intro h e
    obtain ⟨⟨a, b⟩, hm, rfl⟩ := List.mem_map.mp h
    exact lk_none.mp e b hm
  · intro h
    cases e : lk l k with
    | none => exact absurd e h
    | some v => exact lk_keys e
theorem lk_map (k j : α) (y : β) : ∀ l : List (α × β), lk (l.map fun q => if q.1 = k then (k, y) else q) j = (lk l j).map fun x => if j = k then y else x
  | [] => rfl
  | p :: r => by
    rw [List.map_cons]
    by_cases e : p.1 = k
    · rw [if_pos e]
      by_cases ej : k = j
      · rw [lk_pos (p := (k, y)) ej, lk_pos (e.trans ej)]; simp [ej]
      · rw [lk_neg (p := (k, y)) ej, lk_neg (fun z => ej (e.symm.trans z)), lk_map k j y r]
    · rw [if_neg e]
      by_cases ej : p.1 = j
      · have : ¬ j = k := fun z => e (ej.trans z)
        rw [lk_pos ej, lk_pos ej]; simp [this]
      · rw [lk_neg ej, lk_neg ej, lk_map k j y r]
theorem lk_snoc (k j : α) (y : β) : ∀ l : List (α × β), lk l k = none → lk (l ++ [(k, y)]) j = if j = k then some y else lk l j
  | [], _ => by
    show lk [(k, y)] j = _
    by_cases e : k = j
    · rw [lk_pos (p := (k, y)) e, if_pos e.symm]
    · rw [lk_neg (p := (k, y)) e, if_neg fun z => e z.symm]
  | p :: r, h => by
    have hp : ¬ p.1 = k := fun e => by rw [lk_pos e] at h; cases h
    rw [lk_neg hp] at h
    rw [List.cons_append]
    by_cases ej : p.1 = j
    · rw [lk_pos ej, lk_pos ej, if_neg fun z => hp (ej.trans z)]
    · rw [lk_neg ej, lk_neg ej, lk_snoc k j y r h]
theorem lk_pt (l : List (α × β)) (k j : α) (y : β) : lk (pt l k y) j = if j = k then some y else lk l j := by
  unfold pt
  rw [lk_any]
  cases e : lk l k with
  | none =>
    simp only [Option.isSome_none, Bool.false_eq_true, if_false]
    exact lk_snoc k j y l e
  | some v =>
    simp only [Option.isSome_some, if_true]
    rw [lk_map]
    by_cases ej : j = k
    · subst ej; rw [e]; simp
    · rw [if_neg ej]
      cases lk l j with
      | none => rfl
      | some x => simp [ej]
theorem pt_new {l : List (α × β)} {k : α} (v : β) (h : lk l k = none) : pt l k v = l ++ [(k, v)] := by
  unfold pt
  rw [lk_any, h]
  simp
theorem pt_keys_old {l : List (α × β)} {k : α} {x : β} (v : β) (h : lk l k = some x) : (pt l k v).map (·.1) = l.map (·.1) := by
  unfold pt
  rw [lk_any, h]
  simp only [Option.isSome_some, if_true, List.map_map]
  apply List.map_congr_left
  intro q _
  show (if q.1 = k then (k, v) else q).1 = q.1
  by_cases e : q.1 = k
  · rw [if_pos e, e]
  · rw [if_neg e]
theorem pt_len (l : List (α × β)) (k : α) (v : β) : (pt l k v).length ≤ l.length + 1 := by
  unfold pt
  split <;> simp
theorem pt_nodup {l : List (α × β)} {k : α} (v : β) (h : (l.map (·.1)).Nodup) : ((pt l k v).map (·.1)).Nodup := by
  cases e : lk l k with
  | none =>
    rw [pt_new v e, List.map_append]
    refine List.nodup_append.mpr ⟨h, by simp, fun a ha b hb => ?_⟩
    rw [List.map_cons, List.map_nil, List.mem_singleton] at hb
    rw [hb]
    rintro rfl
    exact lk_keys_iff.mp ha e
  | some x =>
    rw [pt_keys_old v e]
    exact h
theorem lk_dp (k j : α) : ∀ l : List (α × β), lk (dp l k) j = if j = k then none else lk l j
  | [] => by simp [dp, lk]
  | p :: r => by
    unfold dp
    rw [List.filter_cons]
    have ih := lk_dp k j r
    unfold dp at ih
    by_cases e : p.1 = k
    · rw [if_neg (by simp [e]), ih]
      by_cases ej : j = k
      · rw [if_pos ej, if_pos ej]
      · rw [if_neg ej, if_neg ej, lk_neg fun z => ej (z.symm.trans e)]
    · rw [if_pos (by simp [e])]
      by_cases ej : p.1 = j
      · rw [lk_pos ej, lk_pos ej, if_neg fun z => e (ej.trans z)]
      · rw [lk_neg ej, lk_neg ej, ih]
theorem dp_sub {l : List (α × β)} {k : α} {q : α × β} (h : q ∈ dp l k) : q ∈ l := (List.mem_filter.mp h).1
theorem dp_nodup {l : List (α × β)} {k : α} (h : (l.map (·.1)).Nodup) : ((dp l k).map (·.1)).Nodup :=
  h.sublist (List.Sublist.map _ List.filter_sublist)
theorem dp_len {l : List (α × β)} {k : α} : (dp l k).length ≤ l.length := List.length_filter_le _ _
end
/-- a list without repetitions is no longer than a list that holds it -/
theorem len_le_of_sub {α : Type} [DecidableEq α] : ∀ {l m : List α}, l.Nodup → (∀ x ∈ l, x ∈ m) → l.length ≤ m.length
  | [], _, _, _ => Nat.zero_le _
  | a :: r, m, hn, hs => by
    rw [List.nodup_cons] at hn
    have ha : a ∈ m := hs a List.mem_cons_self
    have : r.length ≤ (m.erase a).length := len_le_of_sub hn.2 fun x hx => by
      have hxa : x ≠ a := fun e => hn.1 (e ▸ hx)
      exact (List.mem_erase_of_ne hxa).mpr (hs x (List.mem_cons_of_mem _ hx))
    rw [List.length_erase_of_mem ha] at this
    have hpos : 0 < m.length := List.length_pos_of_mem ha
    rw [List.length_cons]
    omega
/-! ### walks -/
section
variable {α : Type} [DecidableEq α]
inductive Wk (E : α → α → Int → Prop) (s : α) : α → Int → Prop
  | nil : Wk E s s 0
  | snoc {p q : α} {d c : Int} : Wk E s p d → E p q c → Wk E s q (d + c)
def IsD (E : α → α → Int → Prop) (s g : α) (d : Int) : Prop := Wk E s g d ∧ ∀ d', Wk E s g d' → d ≤ d'
theorem IsD.uniq {E : α → α → Int → Prop} {s g : α} {d d' : Int} (h : IsD E s g d) (h' : IsD E s g d') : d = d' := by
  have := h.2 _ h'.1
  have := h'.2 _ h.1
  omega
/-- a table that is closed under steps bounds every walk -/
theorem closed_bounds {E : α → α → Int → Prop} {s : α} {f : α → Option Int} (hs : ∃ d, f s = some d ∧ d ≤ 0) (hc : ∀ p d, f p = some d → ∀ q c, E p q c → ∃ d', f q = some d' ∧ d' ≤ d + c) :
    ∀ {g : α} {d : Int}, Wk E s g d → ∃ d', f g = some d' ∧ d' ≤ d := by
  intro g d w
  induction w with
  | nil => exact hs
  | snoc _ e ih =>
    obtain ⟨d1, h1, h2⟩ := ih
    obtain ⟨d2, h3, h4⟩ := hc _ _ h1 _ _ e
    exact ⟨d2, h3, by omega⟩
/-! ### the lowering of costs -/
structure CI (E : α → α → Int → Prop) (V : List α) (C : Int) (s : α) (best : List (α × Int)) : Prop where
  nd : (best.map (·.1)).Nodup
  sub : ∀ p d, lk best p = some d → p ∈ V
  wk : ∀ p d, lk best p = some d → Wk E s p d
  st : ∃ d, lk best s = some d ∧ d ≤ 0
  lo : ∀ p d, lk best p = some d → 0 ≤ d
  hi : ∀ p d, lk best p = some d → d + C ≤ (best.length : Int) * C
/-- how much is left to lower -/
def mu (V : List α) (C : Int) (best : List (α × Int)) : Nat :=
  (V.map fun v => match lk best v with
    | some d => d.toNat
    | none => ((V.length : Int) * C + 1).toNat).sum
theorem CI.len {E : α → α → Int → Prop} {V : List α} {C : Int} {s : α} {best : List (α × Int)} (h : CI E V C s best) : best.length ≤ V.length := by
  have := len_le_of_sub (l := best.map (·.1)) (m := V) h.nd fun x hx => by
    cases e : lk best x with
    | none => exact absurd e (lk_keys_iff.mp hx)
    | some d => exact h.sub x d e
  rwa [List.length_map] at this
theorem CI.start {E : α → α → Int → Prop} {V : List α} {C : Int} {s : α} (hs : s ∈ V) : CI E V C s [(s, 0)] where
  nd := by simp
  sub := fun p d h => by
    have := lk_mem h
    rw [List.mem_singleton] at this
    cases this
    exact hs
  wk := fun p d h => by
    have := lk_mem h
    rw [List.mem_singleton] at this
    cases this
    exact .nil
  st := ⟨0, lk_pos rfl, Int.le_refl 0⟩
  lo := fun p d h => by
    have := lk_mem h
    rw [List.mem_singleton] at this
    cases this
    exact Int.le_refl 0
  hi := fun p d h => by
    have := lk_mem h
    rw [List.mem_singleton] at this
    cases this
    show 0 + C ≤ 1 * C
    omega
theorem sum_lt {α : Type} {f g : α → Nat} : ∀ {V : List α} {q : α}, q ∈ V → (∀ v ∈ V, f v ≤ g v) → f q < g q → (V.map f).sum < (V.map g).sum
  | a :: r, q, hq, hle, hlt => by
    rw [List.map_cons, List.map_cons, List.sum_cons, List.sum_cons]
    have ha := hle a List.mem_cons_self
    have hr : (r.map f).sum ≤ (r.map g).sum := by
      clear hq hlt ha
      induction r with
      | nil => exact Nat.le_refl _
      | cons b t ih =>
        rw [List.map_cons, List.map_cons, List.sum_cons, List.sum_cons]
        have h1 := hle b (by simp)
        have h2 := ih fun v hv => hle v (by
          rcases List.mem_cons.mp hv with h | h
          · rw [h]; exact List.mem_cons_self
          · exact List.mem_cons_of_mem _ (List.mem_cons_of_mem _ h))
        omega
    rcases List.mem_cons.mp hq with h | h
    · subst h
      omega
    · have := sum_lt h (fun v hv => hle v (List.mem_cons_of_mem _ hv)) hlt
      omega
/-- one lowering -/
theorem CI.lower {E : α → α → Int → Prop} {V : List α} {C : Int} {s : α} {best : List (α × Int)} (h : CI E V C s best) {p q : α} {d c : Int} (hC : 0 ≤ C) (hp : lk best p = some d) (he : E p q c) (hq : q ∈ V) (hc : 0 < c ∧ c ≤ C)
    (hl : ∀ d', lk best q = some d' → d + c < d') : CI E V C s (pt best q (d + c)) ∧ mu V C (pt best q (d + c)) < mu V C best := by
  have hd0 := h.lo p d hp
  have hdC := h.hi p d hp
  have hlen := h.len
  have hbV : (best.length : Int) * C ≤ (V.length : Int) * C := Int.mul_le_mul_of_nonneg_right (by omega) hC
  have hlenGe : best.length ≤ (pt best q (d + c)).length := by
    cases e : lk best q with
    | none => rw [pt_new _ e]; simp
    | some x =>
      have := congrArg List.length (pt_keys_old (d + c) e)
      rw [List.length_map, List.length_map] at this
      omega
  have hmulGe : (best.length : Int) * C ≤ ((pt best q (d + c)).length : Int) * C := Int.mul_le_mul_of_nonneg_right (by omega) hC
  refine ⟨⟨pt_nodup _ h.nd, fun r e hr => ?_, fun r e hr => ?_, ?_, fun r e hr => ?_, fun r e hr => ?_⟩, ?_⟩
  · rw [lk_pt] at hr
    split at hr
    · rename_i z; rw [z]; exact hq
    · exact h.sub r e hr
  · rw [lk_pt] at hr
    split at hr
    · rename_i z
      cases hr
      rw [z]
      exact .snoc (h.wk p d hp) he
    · exact h.wk r e hr
  · obtain ⟨d0, h1, h2⟩ := h.st
    by_cases z : s = q
    · have := hl d0 (by rw [← z]; exact h1)
      omega
    · exact ⟨d0, by rw [lk_pt, if_neg z]; exact h1, h2⟩
  · rw [lk_pt] at hr
    split at hr
    · cases hr
      omega
    · exact h.lo r e hr
  · rw [lk_pt] at hr
    split at hr
    · cases hr
      cases e : lk best q with
      | none =>
        rw [pt_new _ e, List.length_append, List.length_singleton]
        have : ((best.length + 1 : Nat) : Int) * C = (best.length : Int) * C + C := by
          rw [Int.natCast_add, Int.add_mul]
          show _ + 1 * C = _
          omega
        omega
      | some x =>
        have := hl x e
        have := h.hi q x e
        omega
    · have := h.hi r e hr
      omega
  · unfold mu
    refine sum_lt (q := q) hq (fun v _ => ?_) ?_
    · by_cases z : v = q
      · subst z
        rw [lk_pt, if_pos rfl]
        cases e : lk best v with
        | none =>
          show (d + c).toNat ≤ ((V.length : Int) * C + 1).toNat
          omega
        | some x =>
          have := hl x e
          show (d + c).toNat ≤ x.toNat
          omega
      · rw [lk_pt, if_neg z]
        exact Nat.le_refl _
    · rw [lk_pt, if_pos rfl]
      cases e : lk best q with
      | none =>
        show (d + c).toNat < ((V.length : Int) * C + 1).toNat
        omega
      | some x =>
        have := hl x e
        show (d + c).toNat < x.toNat
        omega
/-- nothing left to lower: the table tells the least costs -/
theorem CI.dist {E : α → α → Int → Prop} {V : List α} {C : Int} {s : α} {best : List (α × Int)} (h : CI E V C s best) (hc : ∀ p d, lk best p = some d → ∀ q c, E p q c → ∃ d', lk best q = some d' ∧ d' ≤ d + c) (g : α) :
    (∀ d, lk best g = some d → IsD E s g d) ∧ (lk best g = none → ∀ d, ¬ Wk E s g d) := by
  refine ⟨fun d hd => ⟨h.wk g d hd, fun d' w => ?_⟩, fun hn d w => ?_⟩
  · obtain ⟨d2, h1, h2⟩ := closed_bounds h.st hc w
    rw [hd] at h1
    cases h1
    exact h2
  · obtain ⟨d2, h1, _⟩ := closed_bounds h.st hc w
    rw [hn] at h1
    cases h1
end
/-! ### ways and papers -/
section
variable {α : Type} [DecidableEq α]
/-- what a way costs from p on (J: the cost of a step, if it is one) -/
def wl (J : α → α → Option Int) : α → List α → Option Int
  | _, [] => some 0
  | p, q :: r => match J p q with
    | none => none
    | some c => (wl J q r).map fun x => c + x
/-- the whole way: it is not empty, of floors -/
def wcost (J : α → α → Option Int) (fl : α → Prop) (way : List α) (paid : Int) : Prop :=
  (∀ p ∈ way, fl p) ∧ ∃ p r, way = p :: r ∧ wl J p r = some paid
theorem wl_wk {J : α → α → Option Int} {E : α → α → Int → Prop} (hE : ∀ p q c, J p q = some c → E p q c) {s : α} : ∀ {r : List α} {p : α} {d x : Int}, Wk E s p d → wl J p r = some x → Wk E s ((p :: r).getLast (List.cons_ne_nil _ _)) (d + x)
  | [], p, d, x, w, h => by
    cases h
    show Wk E s p (d + 0)
    rw [Int.add_zero]
    exact w
  | q :: r, p, d, x, w, h => by
    unfold wl at h
    cases e : J p q with
    | none => rw [e] at h; cases h
    | some c =>
      rw [e] at h
      cases e2 : wl J q r with
      | none => rw [e2] at h; cases h
      | some y =>
        rw [e2] at h
        cases h
        have := wl_wk hE (.snoc w (hE _ _ _ e)) e2
        rw [List.getLast_cons (List.cons_ne_nil _ _)]
        rw [Int.add_assoc] at this
        exact this
structure Taken (J : α → α → Option Int) (fl : α → Prop) (s g : α) (paid : Int) (way : List α) (marks : List (α × Int)) : Prop where
  wy : wcost J fl way paid
  hd : way.head? = some s
  lst : way.getLast? = some g
  nd : (marks.map (·.1)).Nodup
  fls : ∀ m ∈ marks, fl m.1
  le : ∀ m ∈ marks, m.2 ≤ paid
  st : (lk marks s).getD paid ≤ 0
  step : ∀ m ∈ marks, ∀ q c, J m.1 q = some c → (lk marks q).getD paid ≤ m.2 + c
  gl : ∀ n, lk marks g = some n → n = paid
/-- a paper that is taken has the least cost -/
theorem Taken.dist {J : α → α → Option Int} {fl : α → Prop} {E : α → α → Int → Prop} (hE : ∀ p q c, J p q = some c ↔ E p q c) (hpos : ∀ p q c, E p q c → 0 ≤ c) {s g : α} {paid : Int} {way : List α} {marks : List (α × Int)} (h : Taken J fl s g paid way marks) : IsD E s g paid := by
  obtain ⟨_, p, r, hw, hl⟩ := h.wy
  have hp : p = s := by
    have := h.hd
    rw [hw] at this
    exact Option.some.inj this
  have hg : (p :: r).getLast (List.cons_ne_nil _ _) = g := by
    have := h.lst
    rw [hw, List.getLast?_eq_some_getLast (List.cons_ne_nil _ _)] at this
    exact Option.some.inj this
  refine ⟨?_, fun d w => ?_⟩
  · have := wl_wk (fun p q c e => (hE p q c).mp e) (Wk.nil (E := E) (s := p)) hl
    rw [hg, Int.zero_add] at this
    rw [← hp]
    exact this
  · have key : ∀ {q : α} {d : Int}, Wk E s q d → (lk marks q).getD paid ≤ d := by
      intro q d w
      induction w with
      | nil => exact h.st
      | @snoc p q d c w e ih =>
        cases em : lk marks p with
        | some n =>
          rw [em] at ih
          have ih : n ≤ d := ih
          have := h.step (p, n) (lk_mem em) q c ((hE _ _ _).mpr e)
          have : (lk marks q).getD paid ≤ n + c := this
          omega
        | none =>
          rw [em] at ih
          have ih : paid ≤ d := ih
          have hc := hpos _ _ _ e
          have hq : (lk marks q).getD paid ≤ paid := by
            cases eq : lk marks q with
            | none => exact Int.le_refl _
            | some n => exact h.le (q, n) (lk_mem eq)
          omega
    have := key w
    cases e : lk marks g with
    | none =>
      rw [e] at this
      exact this
    | some n =>
      rw [e] at this
      have e2 := h.gl n e
      have : n ≤ d := this
      omega
end
end K76
/-! the search by least costs: its state between two turns, and what it tells -/
namespace K76
section
variable {α : Type} [DecidableEq α]
theorem Wk.nonneg {E : α → α → Int → Prop} (hpos : ∀ p q c, E p q c → 0 < c) {s q : α} {d : Int} (w : Wk E s q d) : 0 ≤ d := by
  induction w with
  | nil => exact Int.le_refl 0
  | snoc _ e ih =>
    have := hpos _ _ _ e
    omega
structure DJ (E : α → α → Int → Prop) (V : List α) (s : α) (B : α → Option α) (S W : List (α × Int)) (opn : α → α → Int → Prop) : Prop where
  ndS : (S.map (·.1)).Nodup
  ndW : (W.map (·.1)).Nodup
  subS : ∀ p d, lk S p = some d → p ∈ V
  subW : ∀ p d, lk W p = some d → p ∈ V
  dis : ∀ p d, lk W p = some d → lk S p = none
  wkS : ∀ p d, lk S p = some d → Wk E s p d
  wkW : ∀ p d, lk W p = some d → Wk E s p d
  le : ∀ p d q d', lk S p = some d → lk W q = some d' → d ≤ d'
  st : lk S s = some 0 ∨ (S = [] ∧ lk W s = some 0 ∧ ∀ q d, lk W q = some d → q = s)
  cl : ∀ p d, lk S p = some d → ∀ q c, E p q c → ¬ opn p q c → ∃ d', (lk S q = some d' ∨ lk W q = some d') ∧ d' ≤ d + c
  bk : ∀ q d, (lk S q = some d ∨ lk W q = some d) → q ≠ s → ∃ p d0 c, B q = some p ∧ lk S p = some d0 ∧ E p q c ∧ d = d0 + c
def noOpn : α → α → Int → Prop := fun _ _ _ => False
variable {E : α → α → Int → Prop} {V : List α} {s : α} {B : α → Option α} {S W : List (α × Int)} {opn : α → α → Int → Prop}
theorem DJ.start (hs : s ∈ V) : DJ E V s (fun _ => none) [] [(s, 0)] noOpn := by
  have one : ∀ p d, lk [(s, (0 : Int))] p = some d → p = s ∧ d = 0 := fun p d h => by
    have := lk_mem h
    rw [List.mem_singleton] at this
    cases this
    exact ⟨rfl, rfl⟩
  refine ⟨by simp, by simp, fun p d h => by (cases h), fun p d h => ?_, fun p d _ => rfl, fun p d h => by (cases h), fun p d h => ?_, fun p d q d' h => by (cases h), .inr ⟨rfl, lk_pos rfl, fun q d h => (one q d h).1⟩, fun p d h => by (cases h), fun q d h hne => ?_⟩
  · rw [(one p d h).1]; exact hs
  · obtain ⟨rfl, rfl⟩ := one p d h
    exact .nil
  · rcases h with h | h
    · cases h
    · exact absurd (one q d h).1 hne
theorem DJ.lenS (h : DJ E V s B S W opn) : S.length ≤ V.length := by
  have := len_le_of_sub (l := S.map (·.1)) (m := V) h.ndS fun x hx => by
    cases e : lk S x with
    | none => exact absurd e (lk_keys_iff.mp hx)
    | some d => exact h.subS x d e
  rwa [List.length_map] at this
theorem DJ.lenW (h : DJ E V s B S W opn) : W.length ≤ V.length := by
  have := len_le_of_sub (l := W.map (·.1)) (m := V) h.ndW fun x hx => by
    cases e : lk W x with
    | none => exact absurd e (lk_keys_iff.mp hx)
    | some d => exact h.subW x d e
  rwa [List.length_map] at this
theorem DJ.weak {opn' : α → α → Int → Prop} (h : DJ E V s B S W opn) (hh : ∀ p q c, lk S p ≠ none → E p q c → opn p q c → opn' p q c) : DJ E V s B S W opn' :=
  { h with cl := fun p d hp q c he hn => h.cl p d hp q c he fun z => hn (hh p q c (by rw [hp]; simp) he z) }
/-- the least one is settled -/
theorem DJ.pop (h : DJ E V s B S W noOpn) {p : α} {d : Int} (hp : lk W p = some d) (hmin : ∀ q d', lk W q = some d' → d ≤ d') (hlt : True := trivial) : DJ E V s B (pt S p d) (dp W p) (fun p' _ _ => p' = p) ∧ (pt S p d).length = S.length + 1 ∧ S.length + 1 ≤ V.length ∧ lk (pt S p d) p = some d ∧
    (∀ q d', lk (pt S p d) q = some d' → d' ≤ d) ∧ (∀ q d', lk (dp W p) q = some d' → d ≤ d') := by
  have hnS := h.dis p d hp
  have hS' : ∀ q x, lk (pt S p d) q = some x → (q = p ∧ x = d) ∨ lk S q = some x := fun q x hq => by
    rw [lk_pt] at hq
    split at hq
    · cases hq; exact .inl ⟨‹_›, rfl⟩
    · exact .inr hq
  have hW' : ∀ q x, lk (dp W p) q = some x → q ≠ p ∧ lk W q = some x := fun q x hq => by
    rw [lk_dp] at hq
    split at hq
    · cases hq
    · exact ⟨‹_›, hq⟩
  have hlen : (pt S p d).length = S.length + 1 := by rw [pt_new _ hnS]; simp
  have D : DJ E V s B (pt S p d) (dp W p) (fun p' _ _ => p' = p) := by
    refine ⟨pt_nodup _ h.ndS, dp_nodup h.ndW, fun q x hq => ?_, fun q x hq => h.subW q x (hW' q x hq).2, fun q x hq => ?_, fun q x hq => ?_, fun q x hq => h.wkW q x (hW' q x hq).2, fun q x r y hq hr => ?_, .inl ?_, fun q x hq r c he hn => ?_, fun q x hq hne => ?_⟩
    · rcases hS' q x hq with ⟨rfl, rfl⟩ | z
      · exact h.subW q x hp
      · exact h.subS q x z
    · obtain ⟨h1, h2⟩ := hW' q x hq
      rw [lk_pt, if_neg h1]
      exact h.dis q x h2
    · rcases hS' q x hq with ⟨rfl, rfl⟩ | z
      · exact h.wkW q x hp
      · exact h.wkS q x z
    · obtain ⟨h1, h2⟩ := hW' r y hr
      rcases hS' q x hq with ⟨rfl, rfl⟩ | z
      · exact hmin r y h2
      · exact h.le q x r y z h2
    · rcases h.st with z | ⟨z1, z2, z3⟩
      · rw [lk_pt]
        split
        · rename_i e
          rw [← e, z] at hnS
          cases hnS
        · exact z
      · have e := z3 p d hp
        rw [lk_pt, if_pos e.symm]
        rw [← e, hp] at z2
        exact z2
    · rcases hS' q x hq with ⟨rfl, rfl⟩ | z
      · exact absurd rfl hn
      · obtain ⟨d', h1, h2⟩ := h.cl q x z r c he (fun f => f)
        by_cases e : r = p
        · subst e
          rcases h1 with h1 | h1
          · rw [hnS] at h1; cases h1
          · rw [hp] at h1
            cases h1
            exact ⟨d, .inl (by rw [lk_pt, if_pos rfl]), h2⟩
        · refine ⟨d', ?_, h2⟩
          rw [lk_pt, if_neg e, lk_dp, if_neg e]
          exact h1
    · have hold : lk S q = some x ∨ lk W q = some x := by
        rcases hq with hq | hq
        · rcases hS' q x hq with ⟨rfl, rfl⟩ | z
          · exact .inr hp
          · exact .inl z
        · exact .inr (hW' q x hq).2
      obtain ⟨r, d0, c, h1, h2, h3, h4⟩ := h.bk q x hold hne
      refine ⟨r, d0, c, h1, ?_, h3, h4⟩
      rw [lk_pt, if_neg]
      · exact h2
      · rintro rfl
        rw [hnS] at h2; cases h2
  refine ⟨D, hlen, by rw [← hlen]; exact D.lenS, by rw [lk_pt, if_pos rfl], fun q d' hq => ?_, fun q d' hq => hmin q d' (hW' q d' hq).2⟩
  rcases hS' q d' hq with ⟨rfl, rfl⟩ | z
  · exact Int.le_refl _
  · exact h.le q d' p d z hp
/-- a step that lowers -/
theorem DJ.relax (h : DJ E V s B S W opn) (hpos : ∀ p q c, E p q c → 0 < c) {p q : α} {d c : Int} (hp : lk S p = some d) (hall : ∀ r d', lk S r = some d' → d' ≤ d) (he : E p q c) (hq : q ∈ V) (hs : lk S q = none) (hl : ∀ d', lk W q = some d' → d + c < d') (hs0 : lk S s ≠ none) :
    DJ E V s (fun x => if x = q then some p else B x) S (pt W q (d + c)) (fun p' q' c' => opn p' q' c' ∧ ¬ (p' = p ∧ q' = q ∧ c' = c)) := by
  have hc := hpos _ _ _ he
  have hW' : ∀ r x, lk (pt W q (d + c)) r = some x → (r = q ∧ x = d + c) ∨ (r ≠ q ∧ lk W r = some x) := fun r x hr => by
    rw [lk_pt] at hr
    split at hr
    · cases hr; exact .inl ⟨‹_›, rfl⟩
    · exact .inr ⟨‹_›, hr⟩
  refine ⟨h.ndS, pt_nodup _ h.ndW, h.subS, fun r x hr => ?_, fun r x hr => ?_, h.wkS, fun r x hr => ?_, fun r x t y hr ht => ?_, ?_, fun r x hr t c' he' hn => ?_, fun r x hr hne => ?_⟩
  · rcases hW' r x hr with ⟨rfl, rfl⟩ | ⟨_, z⟩
    · exact hq
    · exact h.subW r x z
  · rcases hW' r x hr with ⟨rfl, rfl⟩ | ⟨_, z⟩
    · exact hs
    · exact h.dis r x z
  · rcases hW' r x hr with ⟨rfl, rfl⟩ | ⟨_, z⟩
    · exact .snoc (h.wkS p d hp) he
    · exact h.wkW r x z
  · rcases hW' t y ht with ⟨rfl, rfl⟩ | ⟨_, z⟩
    · have := hall r x hr
      omega
    · exact h.le r x t y hr z
  · rcases h.st with z | ⟨z1, z2, z3⟩
    · exact .inl z
    · rw [z1] at hp
      cases hp
  · have old : ∀ d', (lk S t = some d' ∨ lk W t = some d') → d' ≤ x + c' → ∃ d', (lk S t = some d' ∨ lk (pt W q (d + c)) t = some d') ∧ d' ≤ x + c' := fun d' h1 h2 => by
      by_cases e : t = q
      · subst e
        rcases h1 with h1 | h1
        · rw [hs] at h1; cases h1
        · have := hl d' h1
          exact ⟨d + c, .inr (by rw [lk_pt, if_pos rfl]), by omega⟩
      · exact ⟨d', by rw [lk_pt, if_neg e]; exact h1, h2⟩
    by_cases ho : opn r t c'
    · have : r = p ∧ t = q ∧ c' = c := Classical.byContradiction fun z => hn ⟨ho, z⟩
      obtain ⟨rfl, rfl, rfl⟩ := this
      rw [hp] at hr
      cases hr
      exact ⟨d + c', .inr (by rw [lk_pt, if_pos rfl]), Int.le_refl _⟩
    · obtain ⟨d', h1, h2⟩ := h.cl r x hr t c' he' ho
      exact old d' h1 h2
  · by_cases e : r = q
    · subst e
      rcases hr with hr | hr
      · rw [hs] at hr; cases hr
      · rw [lk_pt, if_pos rfl] at hr
        cases hr
        exact ⟨p, d, c, by rw [if_pos rfl], hp, he, rfl⟩
    · rw [lk_pt, if_neg e] at hr
      obtain ⟨p', d0, c', h1, h2, h3, h4⟩ := h.bk r x hr hne
      exact ⟨p', d0, c', by rw [if_neg e]; exact h1, h2, h3, h4⟩
/-- a step that does not -/
theorem DJ.skip (h : DJ E V s B S W opn) (hpos : ∀ p q c, E p q c → 0 < c) {p q : α} {d c : Int} (hp : lk S p = some d) (hall : ∀ r d', lk S r = some d' → d' ≤ d) (he : E p q c) (hn : lk S q ≠ none ∨ ∃ d', lk W q = some d' ∧ d' ≤ d + c) :
    DJ E V s B S W (fun p' q' c' => opn p' q' c' ∧ ¬ (p' = p ∧ q' = q ∧ c' = c)) :=
  have cl : ∀ r x, lk S r = some x → ∀ t c', E r t c' → ¬ (opn r t c' ∧ ¬ (r = p ∧ t = q ∧ c' = c)) → ∃ d', (lk S t = some d' ∨ lk W t = some d') ∧ d' ≤ x + c' := by
    intro r x hr t c' he' hno
    by_cases ho : opn r t c'
    · have hh : r = p ∧ t = q ∧ c' = c := Classical.byContradiction fun z => hno ⟨ho, z⟩
      obtain ⟨rfl, rfl, rfl⟩ := hh
      rw [hp] at hr
      cases hr
      rcases hn with hn | ⟨d', h1, h2⟩
      · cases e : lk S t with
        | none => exact absurd e hn
        | some y =>
          have h3 := hall t y e
          have h4 := hpos _ _ _ he'
          exact ⟨y, .inl rfl, by omega⟩
      · exact ⟨d', .inr h1, h2⟩
    · exact h.cl r x hr t c' he' ho
  ⟨h.ndS, h.ndW, h.subS, h.subW, h.dis, h.wkS, h.wkW, h.le, h.st, cl, h.bk⟩
/-- nothing waits, the goal was never settled -/
theorem DJ.none (h : DJ E V s B S [] noOpn) {g : α} (hg : lk S g = none) (d : Int) : ¬ Wk E s g d := fun w => by
  have hs : ∃ d, lk S s = some d ∧ d ≤ 0 := by
    rcases h.st with z | ⟨_, z, _⟩
    · exact ⟨0, z, Int.le_refl 0⟩
    · cases z
  obtain ⟨d2, h1, _⟩ := closed_bounds hs (fun p d hp q c he => by
    obtain ⟨d', h1, h2⟩ := h.cl p d hp q c he (fun f => f)
    rcases h1 with h1 | h1
    · exact ⟨d', h1, h2⟩
    · cases h1) w
  rw [hg] at h1
  cases h1
theorem lk_perm {β : Type} {l m : List (α × β)} (hn : (l.map (·.1)).Nodup) (hp : m.Perm l) (k : α) : lk m k = lk l k := by
  have hm : (m.map (·.1)).Nodup := (hp.map _).nodup_iff.mpr hn
  cases e : lk l k with
  | none =>
    rw [lk_none] at e ⊢
    exact fun v hv => e v (hp.mem_iff.mp hv)
  | some v => exact lk_of_mem hm (hp.mem_iff.mpr (lk_mem e))
/-- the way back, so far: from x to the goal -/
def Way (J : α → α → Option Int) (V : List α) (S W : List (α × Int)) (g : α) (paid : Int) (x : α) (r : List α) : Prop :=
  (∀ p ∈ x :: r, p ∈ V) ∧ (x :: r).getLast? = some g ∧ ∃ d, (lk S x = some d ∨ lk W x = some d) ∧ wl J x r = some (paid - d)
theorem Way.start {J : α → α → Option Int} {g : α} {paid : Int} (h : DJ E V s B S W noOpn) (hg : lk W g = some paid) : Way J V S W g paid g [] :=
  ⟨fun p hp => by
    rw [List.mem_singleton] at hp
    rw [hp]
    exact h.subW g paid hg, rfl, paid, .inr hg, by simp [wl]⟩
theorem Way.back {J : α → α → Option Int} (hE : ∀ p q c, J p q = some c ↔ E p q c) (hpos : ∀ p q c, E p q c → 0 < c) {g x : α} {paid : Int} {r : List α} (h : DJ E V s B S W noOpn) (w : Way J V S W g paid x r) (hx : x ≠ s) :
    ∃ p d0 d1, B x = some p ∧ Way J V S W g paid p (x :: r) ∧ lk S p = some d0 ∧ (lk S x = some d1 ∨ lk W x = some d1) ∧ 0 ≤ d0 ∧ d0 < d1 := by
  obtain ⟨h1, h2, d, h3, h4⟩ := w
  obtain ⟨p, d0, c, b1, b2, b3, b4⟩ := h.bk x d h3 hx
  have hc := hpos _ _ _ b3
  refine ⟨p, d0, d, b1, ⟨fun q hq => ?_, ?_, d0, .inl b2, ?_⟩, b2, h3, (h.wkS p d0 b2).nonneg hpos, by omega⟩
  · rcases List.mem_cons.mp hq with z | z
    · rw [z]; exact h.subS p d0 b2
    · exact h1 q z
  · rw [List.getLast?_cons_cons]
    exact h2
  · unfold wl
    rw [(hE _ _ _).mpr b3]
    show (wl J x r).map (fun x => c + x) = _
    rw [h4]
    show some (c + (paid - d)) = some (paid - d0)
    congr 1
    omega
/-- the paper of a search that comes to the goal is taken -/
theorem DJ.taken {J : α → α → Option Int} {fl : α → Prop} (hE : ∀ p q c, J p q = some c ↔ E p q c) (hfl : ∀ p, p ∈ V → fl p) {g : α} {paid : Int} {r : List α} {marks : List (α × Int)} (h : DJ E V s B S W noOpn) (hg : lk W g = some paid) (hmin : ∀ q d', lk W q = some d' → paid ≤ d')
    (w : Way J V S W g paid s r) (hm : marks.Perm S) : Taken J fl s g paid (s :: r) marks := by
  have el := lk_perm h.ndS hm
  obtain ⟨w1, w2, d, w3, w4⟩ := w
  have d0 : d = 0 := by
    rcases h.st with z | ⟨z1, z2, z3⟩
    · rcases w3 with w3 | w3
      · rw [z] at w3; exact (Option.some.inj w3).symm
      · have := h.dis s d w3
        rw [z] at this
        cases this
    · rcases w3 with w3 | w3
      · rw [z1] at w3; cases w3
      · rw [z2] at w3; exact (Option.some.inj w3).symm
  subst d0
  have mem : ∀ m ∈ marks, lk S m.1 = some m.2 := fun m hm' => lk_of_mem h.ndS (hm.mem_iff.mp hm')
  refine ⟨⟨fun p hp => hfl p (w1 p hp), s, r, rfl, by rw [w4, Int.sub_zero]⟩, rfl, w2, (hm.map _).nodup_iff.mpr h.ndS, fun m hm' => hfl _ (h.subS _ _ (mem m hm')), fun m hm' => h.le _ _ _ _ (mem m hm') hg, ?_, fun m hm' q c hj => ?_, fun n hn => ?_⟩
  · rw [el]
    rcases h.st with z | ⟨z1, z2, z3⟩
    · rw [z]; exact Int.le_refl 0
    · rw [z1]
      show paid ≤ 0
      have := z3 g paid hg
      rw [this, z2] at hg
      cases hg
      exact Int.le_refl 0
  · rw [el]
    obtain ⟨d', h1, h2⟩ := h.cl _ _ (mem m hm') q c ((hE _ _ _).mp hj) (fun f => f)
    rcases h1 with h1 | h1
    · rw [h1]; exact h2
    · rw [h.dis q d' h1]
      show paid ≤ m.2 + c
      have := hmin q d' h1
      omega
  · rw [el, h.dis g paid hg] at hn
    cases hn
end
end K76
/-! own rules: what a dict hands to sorted; min of tuples; max with default= -/
namespace K76
open PySem PySem.W PySem.Calls PySem.Spec PyProof.Rows
section
variable {prog : Program} {w : World} {A : Around} {E : Value → Shared → Prop} {s : Shared} {T : String} {r d : Addr} {n : Nat} {P : Nat → Value → Prop} {OK : Heap → Prop}
/-- a new list of all that a source hands out -/
theorem collect_src {R : List Value → Shared → Prop} (K : KdlSrc prog w T r d n P OK) (hh : A.handled = none) (hok : OK s.heap) (hn : n ≤ sizeLine)
    (h : ∀ (h' : Heap) (tk : Nat) (acc : Array Value), (∀ b o, s.heap.get? b = some o → h'.get? b = some o) → ItemsOf P acc n → R acc.toList { s with heap := h', toks := tk }) :
    wpAny (model prog w) A (collect (.ref r)) R E s := by
  have hlt := K.there _ hok
  unfold collect
  refine wpAny_bind (wpAny_runValue (codeAny_builtin entry_proto_collect' ?_))
  rw [Around.under_plainId PySem.F.plain_proto_collect _]
  show wpAny _ A.in1 (newList [] >>= fun l => again (.builtin "list.__iadd__" ⟨[l, .ref r], []⟩)) _ _ s
  refine wpAny_bind (wpAny_newObj_type ?_)
  refine wpAny_pure ⟨plainId_quiet PySem.F.plain_list_iadd _, codeAny_builtin entry_list_iadd' ?_⟩
  rw [Around.under_plainId PySem.F.plain_list_iadd _]
  have hS₁ : (s.heap.push { cls := .type "list", data := .seq ([] : List Value).toArray }).get? s.heap.objs.size = some { cls := .type "list", data := .seq #[] } := Heap.get?_push_size _ rfl
  show wpAny _ A.in1 (Builtin.List.listExtendWith (.ref s.heap.objs.size) (.ref r) (.ref s.heap.objs.size)) _ _ _
  have key := kdl_extend (prog := prog) (w := w) (A := A) (s := { s with heap := s.heap.push { cls := .type "list", data := .seq ([] : List Value).toArray } })
    (R := fun (q : Result) (s' : Shared) => ∃ (h' : Heap) (tk : Nat) (acc' : Array Value) (c' : Nat), q = .ok (.ret (.ref s.heap.objs.size)) ∧ s' = { s with heap := h', toks := tk } ∧
      (∀ b o, s.heap.get? b = some o → h'.get? b = some o) ∧ h'.get? s.heap.objs.size = some { cls := .type "list", dict := none, data := .seq acc' c', slots := #[] } ∧ ItemsOf P acc' n)
    K hh (K.keep _ _ hok fun b _ o e => Heap.get?_push_of_some _ e) s.heap.objs.size (Nat.ne_of_gt hlt.1) (Nat.ne_of_gt hlt.2) (.ref s.heap.objs.size) 0 hS₁
    (fun h' tk acc' c' hk hS' hacc => ⟨h', tk, acc', c', rfl, rfl, fun b o e => hk b o (Nat.ne_of_lt (Heap.lt_size e)) (Heap.get?_push_of_some _ e), hS', hacc⟩) hn
  refine wpAny_mono key (fun fin s' x => ?_) fun e s' x => ?_
  · cases fin with
    | done f =>
      obtain ⟨h', tk, acc', c', e, rfl, hk, hS', hacc⟩ := x
      cases e
      show wpAny _ A (load s.heap.objs.size >>= _) _ _ _
      refine wpAny_bind (wpAny_load hS' ?_)
      refine wpAny_pure ?_
      exact h h' tk acc' hk hacc
    | again c₁ =>
      refine ⟨x.1, codeAny_mono x.2 fun q s₂ y => ?_⟩
      obtain ⟨h', tk, acc', c', rfl, rfl, hk, hS', hacc⟩ := y
      show wpAny _ A (load s.heap.objs.size >>= _) _ _ _
      refine wpAny_bind (wpAny_load hS' ?_)
      refine wpAny_pure ?_
      exact h h' tk acc' hk hacc
  · obtain ⟨h', tk, acc', c', e, _⟩ := x
    cases e
/-- sorted(x, ..) is list.sort(..) of a new list of what x hands out -/
theorem sorted_src {kw : List (Str × Value)} {Q : Value → Shared → Prop} (K : KdlSrc prog w T r d n P OK) (hh : A.handled = none) (hok : OK s.heap) (hn : n ≤ sizeLine) (ha1 : argsOk "sorted" ⟨[.ref r], kw⟩)
    (body : ∀ (h' : Heap) (tk : Nat) (acc : Array Value), (∀ b o, s.heap.get? b = some o → h'.get? b = some o) → ItemsOf P acc n → ∀ E' : Value → Shared → Prop,
      wpAny (model prog w) A.in1 (call (.builtin "list.sort") [.ref h'.objs.size] kw) (fun _ s' => Q (.ref h'.objs.size) s') E' { s with heap := h'.push (seqObj "list" acc 0), toks := tk }) :
    wpAny (model prog w) A (call (.builtin "sorted") [.ref r] kw) Q E s := by
  refine call_function_entry_kw kind_sorted plain_sorted entry_sorted ha1 ?_
  unfold Builtin.«sorted»
  refine wpAny_bind (m := checkCount "sorted" 1 1 _) (wpAny_pure ?_)
  refine wpAny_bind (collect_src (A := A.in1) K hh hok hn fun h' tk acc kp it => ?_)
  have hz : acc.toList.length ≤ sizeLine := by rw [Array.length_toList, it.1]; exact hn
  refine wpAny_bind (wpAny_newList ?_ hz)
  refine wpAny_bind (wpAny_holding (wpAny_mono (body h' tk acc kp it _) (fun f s' hf => wpAny_pure ⟨_, rfl, hf⟩) fun _ _ e => e))
end
end K76
namespace K76
open PySem PySem.W PySem.Spec PyProof.Rows L2
/-- an address and the tuple of ints that stands there -/
abbrev TL := List (Addr × List Int)
def encT (q : Addr × List Int) : PyData := .tuple (q.2.map .int)
theorem ints_keys (m : List Int) : (m.map (Sum.inl : Int → Key)).map kV = m.map V.int := by
  rw [List.map_map]
  rfl
theorem vals_int_vals : ∀ {m : List Int} {its : List Value}, Vals (m.map V.int) its → ∀ h, ∃ as, ReadsAll h its (m.map .int) as ∧ as = []
  | [], _, .nil, h => ⟨[], .nil, rfl⟩
  | i :: m, _, .cons r t, h => by
    obtain ⟨u, rfl⟩ := r
    obtain ⟨as, ra, e⟩ := vals_int_vals t h
    exact ⟨[] ++ as, .cons (.int i u) ra, by rw [e]; rfl⟩
theorem reads_tup {P : Program} {w : World} {H : Hp} {h : Heap} (ok : HOk P w H h) {b : Addr} {m : List Int} (e : H b = some (.tup (m.map V.int))) : Reads h (.ref b) (.tuple (m.map .int)) [] := by
  obtain ⟨_, its, r, o, h1, h2, n, h3⟩ := (show ObjOk P w H h b (.tup (m.map V.int)) from ok b _ e)
  obtain ⟨as, ra, ea⟩ := vals_int_vals r h
  rw [ea] at ra
  exact .tuple h1 h2 h3 (by simpa using ra)
theorem encT_alike (p q : Addr × List Int) : alike (encT p) (encT q) = true := by
  unfold encT
  rw [alike]
  exact alike_ints _ _
theorem encT_depth (p : Addr × List Int) : (encT p).depth = 1 := by
  unfold encT
  simp only [PyData.depth, depth_ints]
theorem encT_all (L : TL) : AllAlike (L.map encT) := fun d hd d' hd' => by
  obtain ⟨p, _, rfl⟩ := List.mem_map.mp hd
  obtain ⟨q, _, rfl⟩ := List.mem_map.mp hd'
  exact encT_alike p q
theorem encT_sortable {L : TL} {n : Nat} (h : ∀ q ∈ L, q.2.length = n + 1) : Sortable (L.map encT) := .inl fun d hd => by
  obtain ⟨p, hp, rfl⟩ := List.mem_map.mp hd
  have hl := h p hp
  obtain ⟨a, m⟩ := p
  cases m with
  | nil => simp at hl
  | cons i m => exact ⟨.int i, m.map .int, rfl⟩
theorem each_refs : ∀ L : TL, EachIs (fun (v : Value) (q : Addr × List Int) => v = .ref q.1) (L.map fun q => Value.ref q.1) L
  | [] => .nil
  | _ :: r => .cons rfl (each_refs r)
theorem of_each_refs : ∀ {out : List Value} {L : TL}, EachIs (fun (v : Value) (q : Addr × List Int) => v = .ref q.1) out L → out = L.map fun q => Value.ref q.1
  | _, _, .nil => rfl
  | _, _, .cons h t => by rw [h, of_each_refs t]; rfl
theorem each_reads {h : Heap} {n : Addr} : ∀ {L : TL}, (∀ q ∈ L, Reads h (.ref q.1) (encT q) []) → EachIs (fun (v : Value) (q : Addr × List Int) => ∃ as, Reads h v (encT q) as ∧ n ∉ as) (L.map fun q => Value.ref q.1) L
  | [], _ => .nil
  | q :: r, k => .cons ⟨[], k q List.mem_cons_self, by simp⟩ (each_reads fun p hp => k p (List.mem_cons_of_mem _ hp))
theorem vals_refsL : ∀ L : TL, Vals (L.map fun q => V.ref q.1) (L.map fun q => Value.ref q.1)
  | [] => .nil
  | _ :: r => .cons rfl (vals_refsL r)
/-- the keys of a dict with tuples of ints as keys, with their tuples -/
theorem keysL {H : Hp} : ∀ {kvs : List (List Key × V)} {ks : List (List Key × Addr × Value)} {ms : List (List Int)}, KT H kvs ks → kvs.map (·.1) = ms.map (fun m => m.map Sum.inl) →
    ∃ L : TL, L.map (fun q => q.1) = ks.map (fun x => x.2.1) ∧ L.map (·.2) = ms ∧ ∀ q ∈ L, H q.1 = some (.tup (q.2.map V.int))
  | _, _, [], .nil, _ => ⟨[], rfl, rfl, fun q hq => nomatch hq⟩
  | _, _, m :: ms, .nil, e => by simp at e
  | _, _, [], .cons _ _, e => by simp at e
  | _, _, m :: ms, .cons (a := p) (b := x) h t, e => by
    simp only [List.map_cons, List.cons.injEq] at e
    obtain ⟨e1, e2⟩ := e
    obtain ⟨L, h1, h2, h3⟩ := keysL t e2
    refine ⟨(x.2.1, m) :: L, by simp [h1], by simp [h2], fun q hq => ?_⟩
    rcases List.mem_cons.mp hq with z | z
    · rw [z]
      have := h.2.1
      rw [e1, ints_keys] at this
      exact this
    · exact h3 q z
def rSortDT (n : Nat) : List V → Hp → VK → Prop := fun vs H Q => ∃ (d : Addr) (kvs : List (List Key × V)) (ms : List (List Int)), vs = [.ref d] ∧ Rd H d (.dT kvs) ∧ kvs.map (·.1) = ms.map (fun m => m.map Sum.inl) ∧ (∀ m ∈ ms, m.length = n + 1) ∧
  ∀ (p : Addr) (L : TL), H p = none → (L.map (·.2)).Perm ms → (∀ q ∈ L, H q.1 = some (.tup (q.2.map V.int))) → Q (.ref p) (upd H p (.lst (L.map fun q => V.ref q.1)))
section
variable {X : Cx}
/-- what the collecting of a dict's keys leaves -/
theorem acc_keys {P : Program} {w : World} {es : Array DictEntry} {ks : List (List Key × Addr × Value)} {acc : Array Value} (he : es.toList = ks.map (entryOfKey (tupleKind (mixKind P w)))) (it : ItemsOf (fun i v => ∃ en : DictEntry, es[i]? = some en ∧ v = en.key) acc es.size) :
    acc.toList = ks.map fun x => Value.ref x.2.1 := by
  have l1 : es.size = ks.length := size_of_entries he
  have hl : acc.toList.length = ks.length := by rw [Array.length_toList, it.1]; exact l1
  apply List.ext_getElem?
  intro j
  rw [List.getElem?_map]
  cases hj : acc.toList[j]? with
  | none =>
    have h1 := List.getElem?_eq_none_iff.mp hj
    rw [List.getElem?_eq_none (by omega)]
    all_goals rfl
  | some v =>
    obtain ⟨en, hen, hv⟩ := it.2 j v (by rw [← Array.getElem?_toList]; exact hj)
    have qe := entry_at he j
    rw [hen] at qe
    cases hb : ks[j]? with
    | none =>
      rw [hb] at qe
      exact nomatch (show some en = none from qe)
    | some b =>
      rw [hb] at qe
      have e2 : en = entryOfKey (tupleKind (mixKind P w)) b := Option.some.inj qe
      rw [hv, e2]
      all_goals rfl
theorem cr_sortedDT {n : Nat} (hc : X.calm = true) (hu : X.A.units + 64 < cLine) : CallR X (.builtin "sorted") (rSortDT n) := by
  intro pins s σ H xs us Q I r h
  obtain ⟨d, kvs, ms, rfl, hd, hk, hn, q⟩ := h
  obtain ⟨u, rfl, rx⟩ := vals1 r
  cases rx
  obtain ⟨z, hs, ks, pr, o, es, ep, ho, hx, hdt, he, hnd⟩ := (show ObjOk X.prog X.w H s.heap d (.dT kvs) from hd.ok I.hok)
  have l1 : es.size = ks.length := size_of_entries he
  have l2 : kvs.length = ks.length := Paired.length pr
  obtain ⟨L, e1, e2, e3⟩ := keysL pr hk
  have hLn : ∀ q ∈ L, q.2.length = n + 1 := fun q hq => hn _ (by rw [← e2]; exact List.mem_map.mpr ⟨q, hq, rfl⟩)
  have hLl : L.length = ks.length := by have := congrArg List.length e1; simpa using this
  refine sorted_src (kw := []) (kdl_raw hs hx hdt) (I.ok.hd hc) ho (by omega) (args_sorted1 _) fun h' tk acc kp it E' => ?_
  have ea : acc.toList = L.map fun q => Value.ref q.1 := by
    rw [acc_keys he it]
    have := congrArg (List.map Value.ref) e1
    rw [List.map_map, List.map_map] at this
    exact this.symm
  have eacc : acc = (L.map fun q => Value.ref q.1).toArray := by rw [← ea, Array.toArray_toList]
  subst eacc
  have I1 : Inv X pins σ H { s with heap := h', toks := tk } := I.kept kp
  have hob : (h'.push (seqObj "list" (L.map fun q => Value.ref q.1).toArray 0)).get? h'.objs.size = some (seqObj "list" (L.map fun q => Value.ref q.1).toArray 0) := Heap.get?_push_size _ rfl
  have ok2 : HOk X.prog X.w H (h'.push (seqObj "list" (L.map fun q => Value.ref q.1).toArray 0)) := I1.hok.kept fun b u e => Heap.get?_push_of_some _ e
  refine list_sort_data (s := { s with heap := h'.push (seqObj "list" (L.map fun q => Value.ref q.1).toArray 0), toks := tk }) (enc := encT) (R := fun v q => v = .ref q.1) (bs := L) hob (each_refs L) (each_reads fun q hq => reads_tup ok2 (e3 q hq)) (encT_all L) (encT_sortable hLn) (by omega)
    (fun b _ => by rw [encT_depth]; show X.A.units + 1 + 1 + 1 < cLine; omega) fun out ol oe => ?_
  have eo := of_each_refs oe
  subst eo
  have hp := List.mergeSort_perm L (dataLe false encT)
  obtain ⟨ep', he'⟩ := PyProof.Rows.sortedHeap_at (vs := L.map fun q => Value.ref q.1) (out := ((L.mergeSort (dataLe false encT)).map fun q => Value.ref q.1).toArray) hob
  have hz : ((L.mergeSort (dataLe false encT)).map fun q => V.ref q.1).length ≤ sizeLine := by
    rw [List.length_map, hp.length_eq]
    omega
  refine ⟨.ref h'.objs.size, upd H h'.objs.size (.lst ((L.mergeSort (dataLe false encT)).map fun q => V.ref q.1)), I1.laid (t' := tk) (fun b u e => ?_) (Nat.le_refl _) ⟨hz, _, ep', vals_refsL _, he'⟩, rfl, q _ _ (I1.hok.fresh (Nat.le_refl _)) (by rw [← e2]; exact hp.map _) fun p hpm => e3 p (hp.mem_iff.mp hpm)⟩
  have hb : b ≠ h'.objs.size := Nat.ne_of_lt (Heap.lt_size e)
  rw [PyProof.Rows.sortedHeap_old hb (by rw [Heap.size_push]; exact Nat.lt_succ_of_lt (Heap.lt_size e))]
  exact Heap.get?_push_of_some _ e
/-! ### min of tuples of ints -/
theorem min_fold : ∀ (xs : List (List Int)) (x : List Int), ∃ m, m ∈ x :: xs ∧ minD (.tuple (x.map .int)) (xs.map fun m => PyData.tuple (m.map .int)) = .tuple (m.map .int) ∧ (x ≠ [] → (∀ y ∈ xs, y ≠ []) → ∀ y ∈ x :: xs, m.headD 0 ≤ y.headD 0)
  | [], x => ⟨x, List.mem_cons_self, rfl, fun _ _ y hy => by
    rw [List.mem_singleton] at hy
    rw [hy]
    exact Int.le_refl _⟩
  | y :: xs, x => by
    have step : minD (.tuple (x.map .int)) ((y :: xs).map fun m => PyData.tuple (m.map .int)) = minD (if dataLt (.tuple (y.map .int)) (.tuple (x.map .int)) then .tuple (y.map .int) else .tuple (x.map .int)) (xs.map fun m => PyData.tuple (m.map .int)) := rfl
    have hlt : dataLt (.tuple (y.map .int)) (.tuple (x.map .int)) = decide (y < x) := by
      rw [dataLt_tuple]
      exact dataLt_ints y x
    rw [hlt] at step
    have cmp : ∀ {a b : List Int}, a ≠ [] → b ≠ [] → (a < b → a.headD 0 ≤ b.headD 0) ∧ (¬ a < b → b.headD 0 ≤ a.headD 0) := by
      intro a b ha hb
      cases a with
      | nil => exact absurd rfl ha
      | cons i a =>
        cases b with
        | nil => exact absurd rfl hb
        | cons j b =>
          show (_ → i ≤ j) ∧ (_ → j ≤ i)
          rw [List.cons_lt_cons_iff]
          constructor <;> intro h <;> omega
    by_cases hyx : y < x
    · rw [decide_eq_true hyx, if_pos rfl] at step
      obtain ⟨m, m1, m2, m3⟩ := min_fold xs y
      refine ⟨m, List.mem_cons_of_mem _ m1, step.trans m2, fun hx hall z hz => ?_⟩
      have hy0 := hall y List.mem_cons_self
      have k := m3 hy0 fun w hw => hall w (List.mem_cons_of_mem _ hw)
      rcases List.mem_cons.mp hz with e | e
      · rw [e]
        have := k y List.mem_cons_self
        have := (cmp hy0 hx).1 hyx
        omega
      · exact k z e
    · rw [decide_eq_false hyx, if_neg Bool.false_ne_true] at step
      obtain ⟨m, m1, m2, m3⟩ := min_fold xs x
      refine ⟨m, ?_, step.trans m2, fun hx hall z hz => ?_⟩
      · rcases List.mem_cons.mp m1 with e | e
        · rw [e]; exact List.mem_cons_self
        · exact List.mem_cons_of_mem _ (List.mem_cons_of_mem _ e)
      have hy0 := hall y List.mem_cons_self
      have k := m3 hx fun w hw => hall w (List.mem_cons_of_mem _ hw)
      rcases List.mem_cons.mp hz with e | e
      · rw [e]
        exact k x List.mem_cons_self
      rcases List.mem_cons.mp e with e | e
      · rw [e]
        have := k x List.mem_cons_self
        have := (cmp hy0 hx).2 hyx
        omega
      · exact k z (List.mem_cons_of_mem _ e)
theorem reads_allL {h : Heap} : ∀ {L : TL}, (∀ q ∈ L, Reads h (.ref q.1) (encT q) []) → ∃ as, ReadsAll h (L.map fun q => Value.ref q.1) (L.map encT) as
  | [], _ => ⟨[], .nil⟩
  | q :: r, k => by
    obtain ⟨as, ra⟩ := reads_allL fun p hp => k p (List.mem_cons_of_mem _ hp)
    exact ⟨_, .cons (k q List.mem_cons_self) ra⟩
theorem depth_allL : ∀ L : TL, PyData.depthAll (L.map encT) ≤ 1
  | [] => by simp [PyData.depthAll]
  | q :: r => by
    have h1 := depth_allL r
    have h2 := encT_depth q
    simp only [List.map_cons, PyData.depthAll]
    omega
def rMinT (K : PySem.W.Frag) : List V → Hp → VK → Prop := fun vs H Q => ∃ (a : Addr) (L : TL), vs = [.ref a] ∧ SqL K H a (L.map fun q => V.ref q.1) ∧ L ≠ [] ∧ (∀ q ∈ L, q.2 ≠ [] ∧ H q.1 = some (.tup (q.2.map V.int))) ∧
  ∀ q ∈ L, (∀ q' ∈ L, q.2.headD 0 ≤ q'.2.headD 0) → Q (.ref q.1) H
theorem vals_refs_inv : ∀ {L : TL} {its : List Value}, Vals (L.map fun q => V.ref q.1) its → its = L.map fun q => Value.ref q.1
  | [], _, .nil => rfl
  | q :: r, _, .cons h t => by
    cases h
    rw [vals_refs_inv t]
    rfl
theorem call_minT (hc : X.calm = true) (hu : X.A.units + 64 < cLine) : CallR X (.builtin "min") (rMinT X.K) := by
  intro pins s σ H xs us Q I r h
  obtain ⟨a, L, rfl, hL, hne, hT, q⟩ := h
  obtain ⟨u, rfl, rx⟩ := vals1 r
  cases rx
  obtain ⟨its, rv, hl, hz⟩ := I.list hL
  have ei := vals_refs_inv rv
  subst ei
  cases L with
  | nil => exact absurd rfl hne
  | cons p L =>
    have hR : ∀ q ∈ p :: L, Reads s.heap (.ref q.1) (encT q) [] := fun q hq => reads_tup I.hok (hT q hq).2
    obtain ⟨as, ra⟩ := reads_allL hR
    refine min_list_data (x := encT p) (xs := L.map encT) (I.ok.hd hc) hl.isList (by simpa using ra) ⟨fun d hd d' hd' => encT_all (p :: L) d (by simpa using hd) d' (by simpa using hd'), fun d hd => ?_⟩ (by have := depth_allL (p :: L); rw [List.map_cons] at this; omega) fun i v h' tk bs hi hr hk => ?_
    · obtain ⟨q0, _, rfl⟩ := List.mem_map.mp (show d ∈ (p :: L).map encT by simpa using hd)
      exact fun z => by cases z
    · have hi' : ((p :: L).map fun q => Value.ref q.1)[i]? = some v := by simpa using hi
      rw [List.getElem?_map] at hi'
      cases e : (p :: L)[i]? with
      | none => rw [e] at hi'; cases hi'
      | some w =>
        rw [e] at hi'
        have ev : Value.ref w.1 = v := Option.some.inj hi'
        subst ev
        have hw : w ∈ p :: L := List.mem_of_getElem? e
        obtain ⟨m, m1, m2, m3⟩ := min_fold (L.map (·.2)) p.2
        have m2' : minD (encT p) (L.map encT) = .tuple (m.map .int) := by
          rw [List.map_map] at m2
          exact m2
        rw [m2'] at hr
        have hw2 : Reads h' (.ref w.1) (encT w) [] := PyProof.Rows.Reads.keeps hk (hR w hw)
        have eq := alike_unique (.tuple (m.map .int)) (encT w) _ _ _ (show alike (.tuple (m.map .int)) (.tuple (w.2.map .int)) = true by rw [alike]; exact alike_ints _ _) hr hw2
        have em : m = w.2 := by
          have e1 : m.map PyData.int = w.2.map PyData.int := by
            unfold encT at eq
            injection eq
          exact (List.map_inj_right (fun a b hab => by injection hab)).mp e1
        have I1 : Inv X pins σ H { s with heap := h', toks := tk } := I.kept hk
        refine ⟨.ref w.1, H, I1, rfl, q w hw fun q' hq' => ?_⟩
        rw [← em]
        refine m3 (hT p List.mem_cons_self).1 (fun y hy => ?_) q'.2 ?_
        · obtain ⟨q2, hq2, rfl⟩ := List.mem_map.mp hy
          exact (hT q2 (List.mem_cons_of_mem _ hq2)).1
        · rcases List.mem_cons.mp hq' with z | z
          · rw [z]; exact List.mem_cons_self
          · exact List.mem_cons_of_mem _ (List.mem_map.mpr ⟨q', z, rfl⟩)
/-! ### max of ints with default= -/
theorem reads_ints {h : Heap} : ∀ {ns : List Int} {its : List Value}, Vals (ns.map V.int) its → ∃ as, ReadsAll h its (ns.map .int) as
  | [], _, .nil => ⟨[], .nil⟩
  | i :: m, _, .cons r t => by
    obtain ⟨u, rfl⟩ := r
    obtain ⟨as, ra⟩ := reads_ints t
    exact ⟨_, .cons (.int i u) ra⟩
theorem fold_max : ∀ (ns : List Int) (n : Int), ns.foldl max n ∈ n :: ns ∧ ∀ y ∈ n :: ns, y ≤ ns.foldl max n
  | [], n => ⟨List.mem_cons_self, fun y hy => by
    rw [List.mem_singleton] at hy
    rw [hy]
    exact Int.le_refl _⟩
  | m :: ns, n => by
    obtain ⟨h1, h2⟩ := fold_max ns (max n m)
    show ns.foldl max (max n m) ∈ n :: m :: ns ∧ ∀ y ∈ n :: m :: ns, y ≤ ns.foldl max (max n m)
    have k := h2 (max n m) List.mem_cons_self
    refine ⟨?_, fun y hy => ?_⟩
    · rcases List.mem_cons.mp h1 with e | e
      · rw [e]
        rcases Int.le_total n m with z | z
        · rw [Int.max_eq_right z]; simp
        · rw [Int.max_eq_left z]; simp
      · exact List.mem_cons_of_mem _ (List.mem_cons_of_mem _ e)
    · rcases List.mem_cons.mp hy with e | e
      · rw [e]; exact Int.le_trans (Int.le_max_left n m) k
      rcases List.mem_cons.mp e with e | e
      · rw [e]; exact Int.le_trans (Int.le_max_right n m) k
      · exact h2 y (List.mem_cons_of_mem _ e)
def rMaxD (K : PySem.W.Frag) : List V → List V → Hp → VK → Prop := fun vs zs H Q => ∃ (a : Addr) (ns : List Int) (d : Int), vs = [.ref a] ∧ zs = [.int d] ∧ SqL K H a (ns.map V.int) ∧
  ∀ m : Int, (ns = [] → m = d) → (ns ≠ [] → m ∈ ns ∧ ∀ y ∈ ns, y ≤ m) → Q (.int m) H
theorem depth_int_all : ∀ ns : List Int, PyData.depthAll (ns.map .int) = 0 := depth_ints
theorem call_maxD (hc : X.calm = true) (hu : X.A.units + 64 < cLine) : CallRK X (.builtin "max") [Str.ofString "default"] (rMaxD X.K) := by
  intro pins s σ H xs zs us ws Q I r rz h
  obtain ⟨a, ns, d, rfl, rfl, hL, q⟩ := h
  obtain ⟨u, rfl, rx⟩ := vals1 r
  cases rx
  obtain ⟨w1, rfl, ⟨t, rfl⟩⟩ := vals1 rz
  obtain ⟨its, rv, hl, hz⟩ := I.list hL
  obtain ⟨as, ra⟩ := reads_ints (h := s.heap) rv
  refine max_list_default (xs := ns.map .int) (I.ok.hd hc) hl.isList (by simpa using ra) ⟨fun x hx y hy => ?_, fun x hx => ?_⟩ (by rw [depth_int_all]; omega) (fun h0 h' tk hk => ?_) (fun y ys i v h' tk bs hxs hi hr hk => ?_)
  · obtain ⟨i, _, rfl⟩ := List.mem_map.mp hx
    obtain ⟨j, _, rfl⟩ := List.mem_map.mp hy
    rfl
  · obtain ⟨i, _, rfl⟩ := List.mem_map.mp hx
    exact fun z => by cases z
  · have e0 : ns = [] := List.map_eq_nil_iff.mp h0
    exact ⟨.int d, H, I.kept hk, ⟨t, rfl⟩, q d (fun _ => rfl) fun z => absurd e0 z⟩
  · cases ns with
    | nil => cases hxs
    | cons n ns =>
      simp only [List.map_cons, List.cons.injEq] at hxs
      obtain ⟨e1, e2⟩ := hxs
      rw [← e1, ← e2, maxD_ints] at hr
      obtain ⟨h1, h2⟩ := fold_max ns n
      cases hr with
      | int _ t' => exact ⟨.int (ns.foldl max n), H, I.kept hk, ⟨t', rfl⟩, q _ (fun z => by cases z) fun _ => ⟨h1, h2⟩⟩
/-! ### the truth of a dict with tuples as keys -/
theorem truthy_dictH {prog : Program} {w : World} {K : Type} [DecidableEq K] {knd : HeapKind prog w K} {A : Around} {E : Value → Shared → Prop} {s : Shared} {d : Addr} {kvs : List (K × Addr × Value)} {Q : Bool → Shared → Prop} (hd : (d == sysModules) = false) (hm : s.heap.DictOfH knd d kvs) (hfit : (kvs.length : Int) < 2 ^ 63)
    (h : Q (!kvs.isEmpty) { s with toks := s.toks + 1 + 1 }) : wpAny (model prog w) A (truthy (.ref d)) Q E s := by
  have hne : ((kvs.length : Int) != 0) = !kvs.isEmpty := by cases kvs <;> simp <;> omega
  have key : wpAny (model prog w) A (runValue (.builtin "len" ⟨[.ref d], []⟩)) (fun r s' => r = .int kvs.length (s.toks + 1) ∧ Q (!kvs.isEmpty) s') E s := by
    refine wpAny_runValue (codeAny_builtin entry_len ?_)
    rw [Around.under_plainId plain_len _]
    exact wpAny_mono (wpAny_len_body_dictH (Q := fun r s' => r = .int kvs.length (s.toks + 1) ∧ Q (!kvs.isEmpty) s') hd hm hfit ⟨rfl, h⟩)
      (fun fin s' h' => by obtain ⟨r, rfl, hq⟩ := h'; exact hq) fun _ _ e => e
  unfold truthy
  first
    | refine wpAny_bind (wpAny_callSpecial?_none (name := Str.ofString "__bool__") hm.typeIs noBool_dict ?_)
    | refine wpAny_bind (wpAny_pure (wpAny_bind (wpAny_callSpecial?_none (name := Str.ofString "__bool__") hm.typeIs noBool_dict ?_)))
  first
    | refine wpAny_bind (wpAny_specialOf (name := Str.ofString "__len__") hm.typeIs F.slot_dict_len.lookup ?_)
    | refine wpAny_bind (wpAny_pure (wpAny_bind (wpAny_specialOf (name := Str.ofString "__len__") hm.typeIs F.slot_dict_len.lookup ?_)))
  first
    | exact wpAny_bind (wpAny_mono key (fun r s' h' => by obtain ⟨rfl, hq⟩ := h'; exact wpAny_pure (hne ▸ hq)) fun _ _ e => e)
    | exact wpAny_bind (wpAny_pure (wpAny_bind (wpAny_mono key (fun r s' h' => by obtain ⟨rfl, hq⟩ := h'; exact wpAny_pure (hne ▸ hq)) fun _ _ e => e)))
def tTruT (ta : TE) : TT := fun σ H Q => ta σ H fun x H' => ∃ (p : Addr) (kvs : List (List Key × V)), x = .ref p ∧ H' p = some (.dT kvs) ∧ Q (!kvs.isEmpty) H'
theorem pt_truthT {a : Expr} {ta : TE} (ha : PE X a ta) (he : ∀ whole, isTrue a X.env whole = (do let v ← whole; standAt a.pos; holding [v] (truthy v)) := by intro _; rfl) : PT X a (tTruT ta) := by
  refine ⟨fun pins s σ H Q I h => ?_⟩
  refine isTrue_plain (thn (ha.run pins s σ H _ I h) fun v s1 ⟨x, H1, I1, r1, p, kvs, ex, hp, q1⟩ => ?_) (he _)
  subst ex
  cases r1
  obtain ⟨z, hd, ys, rel, dd⟩ := dt_of I1.hok hp
  have hl : kvs.length = ys.length := Paired.length rel
  have he : (!ys.isEmpty) = !kvs.isEmpty := by
    cases kvs <;> cases ys <;> first | rfl | (simp at hl)
  exact truthy_dictH hd dd (by rw [← hl]; rw [sizeLine_eq] at z; omega) ⟨H1, I1.tok _, by rw [he]; exact q1⟩
/-! ### d.pop(k) -/
section
variable {prog : Program} {w : World} {K : Type} [DecidableEq K] {knd : HeapKind prog w K}
theorem meetsPop1 {d b : Addr} {k : K} (hd : (d == sysModules) = false) :
    MeetsIn prog w (Builtin.«dict.pop» ⟨[.ref d, .ref b], []⟩) (fun A R s => ∃ xs, knd.room A.in1 ∧ knd.is s.heap k b ∧ s.heap.DictOfH knd d xs ∧ xs.length ≤ sizeLine ∧ atKey xs k ≠ none ∧
      ∀ p, atKey xs k = some p → ∀ h' tk, h'.DictOfH knd d (DT.dropH xs k) → Heap.SameBut d s.heap h' → R (.ok (.ret p.2)) { s with heap := h', toks := tk }) :=
  .of_wp fun A R s ⟨xs, hu, hkey, hm, hsz, hnone, hsome⟩ => by
    obtain ⟨o, es, ep, ho, hc, hdat, he, his, hn⟩ := id hm
    have hes : es.size = xs.length := size_of_entries he
    have hpart : (keyPart (Value.ref b)).isSome = false := rfl
    unfold Builtin.«dict.pop»
    refine wpAny_bind ?_
    unfold Builtin.Dict.keyAndDefault
    refine wpAny_bind (wpAny_notOrdered_dict hm.typeIs ?_)
    show wpAny _ _ (pure (d, Value.ref b, none)) _ _ s
    refine wpAny_pure ?_
    simp only [hpart, Bool.false_eq_true, if_false]
    refine wpAny_bind (wpAny_dictEntries ho hdat (wpAny_bind (wpAny_pure ?_)))
    cases hem : es.isEmpty with
    | true =>
      have h0 : xs = [] := by
        have z : es.size = 0 := by simpa using hem
        exact List.length_eq_zero_iff.mp (by omega)
      exact absurd (by rw [h0]; rfl) hnone
    | false =>
      simp only [Bool.false_eq_true, if_false]
      refine wpAny_bind (DT.takeH hu hkey hm hsz (fun hno => absurd hno hnone) fun p e hp hev h' hm' hs' => ?_)
      simp only [Option.isNone_some, Bool.false_eq_true, if_false]
      exact wpAny_bind (wpAny_letGo (wpAny_pure ⟨e.val, rfl, by rw [hev]; exact hsome p hp h' _ hm' hs'⟩))
end
def rPop1 : V → List V → Hp → VK → Prop := fun x xs H Q => ∃ (a : Addr) (kvs : List (List Key × V)) (k : List Key) (b : Addr) (v : V), x = .ref a ∧ xs = [.ref b] ∧ H a = some (.dT kvs) ∧ H b = some (.tup (k.map kV)) ∧
  valV kvs k = some v ∧ Q v (upd H a (.dT (dropK kvs k)))
theorem mt_pop1 (hu : X.A.units + 1 < cLine) : MtR X "dict.pop" rPop1 := by
  intro pins s σ H x xs v us Q I rx rxs h
  obtain ⟨a, kvs, k, b, v1, rfl, rfl, ha, hb, hv, q1⟩ := h
  cases rx
  obtain ⟨u1, rfl, r1⟩ := vals1 rxs
  cases r1
  obtain ⟨z, hd, xs', rel, dd⟩ := dt_of I.hok ha
  have hz : xs'.length ≤ sizeLine := by rw [← Paired.length rel]; exact z
  have hr := rel.val k
  rw [hv] at hr
  have hne : atKey xs' k ≠ none := fun e => by
    rw [e] at hr
    exact (show False from hr).elim
  refine call_meetsIn PySem.F.slot_dict_pop dd.typeIs PySem.F.entry_dict_pop (PySem.F.args_dict_pop_2 _ _) (meetsPop1 (knd := tupleKind (mixKind X.prog X.w)) (k := k) hd)
    ⟨xs', tupleKind_room_in1 hu, key_of I.hok hb, dd, hz, hne, fun p hp h' tk dd' hs => ?_⟩
  rw [hp] at hr
  have rv : RelV v1 p.2 := hr
  obtain ⟨o, es, ep, hq, h2, h3, h4, _, h5⟩ := dd'
  have I2 : Inv X pins σ (upd H a (.dT (dropK kvs k))) { s with heap := h', toks := tk } :=
    d_write I (by rw [ha]; exact True.intro) hs ⟨o, hq⟩ ⟨Nat.le_trans (dropK_le kvs k) z, hd, _, (L2.DX.KT_drop k rel).keeps (fun c ys ec => (by rw [upd_ne (ne_of ec ha (fun z => nomatch z))]; exact ec)), o, es, ep, hq, h2, h3, h4, h5⟩
  show EP X pins σ Q p.2 _
  exact ⟨v1, _, I2, rv, q1⟩
end
end K76
/-! sorted(x, key=lambda p: (p[i], p[j], ..)): x a list of tuples of ints, or a dict with such keys -/
namespace K76
open PySem PySem.W PySem.Spec PyProof.Rows L2 LamX
/-- [a[i], a[j], ..] -/
inductive Picks (a : Str) : List Expr → List Nat → Prop
  | nil : Picks a [] []
  | cons {es : List Expr} {ns : List Nat} {i : Nat} {p1 p2 p3 : Pos} {j} : Picks a es ns → Picks a (.Subscript (.Name a p1) (.Constant (.int (i : Int)) j p2) p3 :: es) (i :: ns)
section
variable {prog : Program} {w : World} {A : Around} {E : Value → Shared → Prop}
theorem pick_one {env : Env} {a : Str} {p1 p2 p3 : Pos} {j} {i : Nat} {s : Shared} {m : Str → Option Value} {t : Addr} {its : List Value} {u : Value} {Q : Value → Shared → Prop}
    (hk : env.scope.kind = .function) (hl : env.kindOf a = some .local) (hn : s.heap.Ns env.locals m) (hm : m a = some (.ref t)) (ht : IsTup s.heap t its.toArray) (hi : its[i]? = some u) (h63 : (i : Int) < 2 ^ 63) (hd : (a == ("__debug__" : Str)) = false)
    (h : Q u { s with toks := s.toks + 1 }) : wpAny (model prog w) A (eval (.Subscript (.Name a p1) (.Constant (.int (i : Int)) j p2) p3) env) Q E s := by
  have hlt : i < its.length := (List.getElem?_eq_some_iff.mp hi).1
  refine Subscript_ (wpAny_Name (wpAny_loadName_local hk hl hn hm (wpAny_Constant_int ?_)) hd)
  have e1 : seqIndex? (i : Int) its.toArray.size = some i := by
    rw [List.size_toArray]
    unfold seqIndex?
    simp only [Int.natCast_nonneg, Int.not_lt.mpr (Int.natCast_nonneg i), if_false]
    first
      | (rw [if_pos (by omega)]; rfl)
      | simp [hlt]
      | (split <;> first | rfl | omega | (simp; omega))
  exact subscriptTail_builtinR (x := u) ht.typeIs slot_tuple_getitem.lookup (PyProof.Rows.getItem_tuple (j := i) (Q := fun r s' => r = u ∧ Q r s') ht (by omega) h63 e1 (by simpa using hi) ⟨rfl, h⟩) rfl
theorem picks_run {env : Env} {a : Str} {m : Str → Option Value} {t : Addr} {its : List Value} {pos : Pos} (hk : env.scope.kind = .function) (hl : env.kindOf a = some .local) (hm : m a = some (.ref t)) (hd : (a == ("__debug__" : Str)) = false) (hz : its.length ≤ sizeLine) :
    ∀ {es : List Expr} {ns : List Nat}, Picks a es ns → (∀ i ∈ ns, i < its.length) → ∀ (s : Shared) (Q : List Value → Shared → Prop), s.heap.Ns env.locals m → IsTup s.heap t its.toArray → (∀ tk, Q (ns.map fun i => its.getD i .none) { s with toks := tk }) →
      wpAny (model prog w) A (spliced (backTo pos (starEach es env))) Q E s
  | _, _, .nil, _, s, Q, _, _, h => Calls.spliced_nil (h s.toks)
  | _, _, .cons (es := es) (ns := ns) (i := i) hp, hi, s, Q, hn, ht, h => by
    have hlt := hi i List.mem_cons_self
    have h63 : (i : Int) < 2 ^ 63 := by
      have := line63
      omega
    refine Calls.spliced_cons (pick_one (i := i) hk hl hn hm ht (List.getElem?_eq_getElem hlt) h63 hd ?_)
    refine picks_run hk hl hm hd hz hp (fun k hk => hi k (List.mem_cons_of_mem _ hk)) { s with toks := s.toks + 1 } _ hn ht fun tk => ?_
    have := h tk
    rw [List.map_cons] at this
    have e : its.getD i .none = its[i] := by rw [List.getD_eq_getElem?_getD, List.getElem?_eq_getElem hlt]; rfl
    rw [e] at this
    exact this
end
/-- the key that the lambda makes of a tuple -/
def pickT (ns : List Nat) (q : Addr × List Int) : PyData := .tuple ((ns.map fun i => q.2.getD i 0).map .int)
theorem reads_pick {h : Heap} {its : List Value} {m : List Int} (r : Vals (m.map V.int) its) : ∀ (ns : List Nat), (∀ i ∈ ns, i < m.length) → ReadsAll h (ns.map fun i => its.getD i .none) ((ns.map fun i => m.getD i 0).map .int) []
  | [], _ => .nil
  | i :: ns, hi => by
    have hlt := hi i List.mem_cons_self
    have hv : (m.map V.int)[i]? = some (.int (m.getD i 0)) := by
      rw [List.getElem?_map, List.getElem?_eq_getElem hlt, List.getD_eq_getElem?_getD, List.getElem?_eq_getElem hlt]
      rfl
    obtain ⟨u, e, ⟨t, rfl⟩⟩ := r.get hv
    have e2 : its.getD i .none = .int (m.getD i 0) t := by rw [List.getD_eq_getElem?_getD, e]; rfl
    have := ReadsAll.cons (Reads.int (h := h) (m.getD i 0) t) (reads_pick r ns fun k hk => hi k (List.mem_cons_of_mem _ hk))
    rw [List.map_cons, List.map_cons, List.map_cons, e2]
    exact this
/-- a lambda with one parameter whose body picks items: what the maker's text says of it -/
structure LamP (a : Str) (params : Arguments) (body : Expr) (scope : Scope) (ns : List Nat) : Prop where
  kind : scope.kind = .function
  co : scope.isCoroutine = false
  gen : scope.isGenerator = false
  nocell : ∀ x ∈ scope.names, x.2 ≠ .cell
  free : ∀ x ∈ scope.names, x.2 ≠ .free
  loc : scope.names.lookup a = some .local
  bind : ∀ (q : Str) (pm cv ctv v : Value), bindArgs (kla_fn "<lambda>" q params body scope [] pm cv ctv) ⟨[v], []⟩ = pure [(a, v)]
  dbg : (a == ("__debug__" : Str)) = false
  body : ∃ es x1 pos, body = .Tuple es x1 pos ∧ Picks a es ns
  ne : ns ≠ []
  few : ns.length ≤ 100
section
variable {prog : Program} {w : World} {A : Around}
/-- the lambda called: a new tuple -/
theorem lam_call {a : Str} {params : Arguments} {body : Expr} {scope : Scope} {ns : List Nat} {q : Str} {pm ctv : Value} {c' f t : Addr} {s : Shared} {H : Hp} {m : List Int} {P : Program} (L : LamP a params body scope ns) (hroom : A.depth < recursionLimit)
    (hf : s.heap.get? f = some (kla_obj "<lambda>" q params body scope [] pm c' ctv)) (hcd : s.heap.CodeRec (.ref c') q) (hlim : s.heap.NoLimit) (ok : HOk P w H s.heap) (ht : H t = some (.tup (m.map V.int))) (hi : ∀ i ∈ ns, i < m.length) :
    wpAny (model prog w) A (call (.ref f) [.ref t]) (KeyPure (.tuple ((ns.map fun i => m.getD i 0).map .int)) s) (fun _ _ => False) s := by
  obtain ⟨hz, its, rv, hT⟩ := (show ObjOk P w H s.heap t (.tup (m.map V.int)) from ok t _ ht)
  have hz : its.length ≤ sizeLine := by rw [← rv.length]; exact hz
  obtain ⟨es, x1, bpos, eb, hp⟩ := L.body
  have rc : codeAny (model prog w) A (.call (.ref f) ⟨[.ref t], []⟩) (fun r s2 => ∃ u, r = .ok (.ret u) ∧ KeyPure (.tuple ((ns.map fun i => m.getD i 0).map .int)) s u s2) s := by
    refine kla_callFunE hroom hf rfl L.co L.gen rfl hcd ?_
    rw [L.bind]
    refine wpAny_pure (wpAny_newFunctionEnv L.nocell (fun x hx => ?_) (fun h₁ hns hsb => ⟨hlim.fresh _ hsb, ?_⟩) L.kind)
    · rw [List.mem_singleton] at hx
      rw [hx]
      exact L.loc
    have kp : ∀ b o, s.heap.get? b = some o → h₁.get? b = some o := fun b o e => hsb.extBut b o (Nat.ne_of_lt (Heap.lt_size e)) (Heap.get?_push_of_some _ e)
    refine kla_codeExpr ?_
    rw [eb]
    refine wpAny_Tuple_spliced ?_
    refine picks_run (env := newEnv scope s.heap.objs.size mainGlobals [] (q ++ ".<locals>.") (some f) (.ref c') none builtinsNs) (a := a) (t := t) (its := its) L.kind L.loc (by simp) L.dbg hz hp (fun i h => by
      have := hi i h
      have hl := rv.length
      rw [List.length_map] at hl
      omega) _ _ hns (let ⟨o, h1, h2⟩ := hT; ⟨o, kp _ _ h1, h2⟩) fun tk => ?_
    refine ⟨?_, _, rfl, _, _, rfl, fun b o e => Heap.get?_push_of_some _ (kp b o e), ?_⟩
    · rw [List.length_map]
      exact Nat.le_trans L.few (by decide)
    · exact .tuple (Heap.get?_push_size _ rfl) rfl rfl (by simpa using reads_pick rv ns hi)
  refine wpAny_call (codeAny_mono rc fun r s2 hq => ?_)
  obtain ⟨u, rfl, hu⟩ := hq
  exact hu
end
theorem pickT_alike (ns : List Nat) (p q : Addr × List Int) : alike (pickT ns p) (pickT ns q) = true := by
  unfold pickT
  rw [alike]
  exact alike_ints _ _
theorem pickT_depth (ns : List Nat) (p : Addr × List Int) : (pickT ns p).depth = 1 := by
  unfold pickT
  simp only [PyData.depth, depth_ints]
theorem pickT_all (ns : List Nat) (L : TL) : AllAlike (L.map (pickT ns)) := fun d hd d' hd' => by
  obtain ⟨p, _, rfl⟩ := List.mem_map.mp hd
  obtain ⟨q, _, rfl⟩ := List.mem_map.mp hd'
  exact pickT_alike ns p q
theorem pickT_sortable {ns : List Nat} (hn : ns ≠ []) (L : TL) : Sortable (L.map (pickT ns)) := .inl fun d hd => by
  obtain ⟨p, hp, rfl⟩ := List.mem_map.mp hd
  cases ns with
  | nil => exact absurd rfl hn
  | cons i ns => exact ⟨_, _, rfl⟩
/-- what is known of the lambda's object behind its making -/
def LamAt (s : Shared) (params : Arguments) (body : Expr) (scope : Scope) (q : Str) (f : Addr) : Prop :=
  ∃ (pm ctv : Value) (c' : Addr), s.heap.get? f = some (kla_obj "<lambda>" q params body scope [] pm c' ctv) ∧ s.heap.CodeRec (.ref c') q
theorem coderec_keeps {h h' : Heap} {cd : Value} {q : Str} (c : h.CodeRec cd q) (k : ∀ b o, h.get? b = some o → h'.get? b = some o) : h'.CodeRec cd q := by
  obtain ⟨c, o, vs, t, e1, e2, e3, e4⟩ := c
  exact ⟨c, o, vs, t, e1, k _ _ e2, e3, e4⟩
/-- what sorted gives: the same tuples in some order -/
def SortedTo (H : Hp) (L : TL) (Q : VK) : Prop := ∀ (p : Addr) (L' : TL), H p = none → L'.Perm L → Q (.ref p) (upd H p (.lst (L'.map fun q => V.ref q.1)))
section
variable {X : Cx} {a : Str} {params : Arguments} {body : Expr} {scope : Scope} {ns : List Nat} {q : Str} {f : Addr} {pins : List (Addr × Obj)} {σ : L2.St} {H : Hp} {s : Shared} {Q : VK}
theorem lam_turn (L : LamP a params body scope ns) {k : Nat} (hr : Room k X.A) (I : Inv X pins σ H s) (F : LamAt s params body scope q f) {A : Around} (hA : A.depth = X.A.depth) {TLs : TL} (hT : ∀ z ∈ TLs, H z.1 = some (.tup (z.2.map V.int)) ∧ ∀ i ∈ ns, i < z.2.length) (v : Value) (z : Addr × List Int) (hv : v = .ref z.1) (hz : z ∈ TLs)
    (h : Heap) (tk : Nat) (kp : ∀ b o, s.heap.get? b = some o → h.get? b = some o) : wpAny (model X.prog X.w) A (call (.ref f) [v]) (KeyPure (pickT ns z) { s with heap := h, toks := tk }) (fun _ _ => False) { s with heap := h, toks := tk } := by
  obtain ⟨pm, ctv, c', h1, h2⟩ := F
  subst hv
  exact lam_call (s := { s with heap := h, toks := tk }) (H := H) L (by rw [hA]; exact hr.depth) (kp _ _ h1) (coderec_keeps h2 kp) (I.nolimit.keeps kp) (I.hok.kept kp) (hT z hz).1 (hT z hz).2
/-- of a list -/
theorem sortedLam_list (L : LamP a params body scope ns) {k : Nat} (hr : Room k X.A) (I : Inv X pins σ H s) (F : LamAt s params body scope q f) {l : Addr} {TLs : TL} (hl : SqL X.K H l (TLs.map fun z => V.ref z.1)) (hT : ∀ z ∈ TLs, H z.1 = some (.tup (z.2.map V.int)) ∧ ∀ i ∈ ns, i < z.2.length) (h : SortedTo H TLs Q) :
    wpAny (model X.prog X.w) X.A (call (.builtin "sorted") [.ref l] [(Str.ofString "key", .ref f)]) (EP X pins σ Q) X.xe s := by
  obtain ⟨its, rv, pl, hz⟩ := I.list hl
  have ei := vals_refs_inv rv
  subst ei
  have hun := hr.units
  have hlen : TLs.length ≤ sizeLine := by rw [List.length_map] at hz; exact hz
  refine sorted_key_data (vs := TLs.map fun z => Value.ref z.1) (bs := TLs) (R := fun v z => v = .ref z.1) (b := false) (f := .ref f) (pickT ns) pl.isList (each_refs TLs) (pickT_all ns TLs) (pickT_sortable L.ne TLs) hlen (fun x _ => by rw [pickT_depth]; omega) (PyProof.Rows.ksk_s1 _ _) (fun _ => PyProof.Rows.ksk_l1 _ _) (fun x => ksk_t1 f x)
    (fun v z hv hz h tk kp => lam_turn L hr I F (A := X.A.in1.in1) rfl hT v z hv hz h tk kp) fun out c h' tk kp fresh ho hol hoe => ?_
  have eo := of_each_refs hoe
  subst eo
  have hp := List.mergeSort_perm TLs (dataLe false (pickT ns))
  refine ⟨.ref (s.heap.objs.size + 1), upd H (s.heap.objs.size + 1) (.lst ((TLs.mergeSort (dataLe false (pickT ns))).map fun z => V.ref z.1)), I.laid (t' := tk) kp (Nat.le_succ _) ⟨?_, _, c, vals_refsL _, ho⟩, rfl, h _ _ (I.hok.fresh (Nat.le_succ _)) hp⟩
  rw [List.length_map, hp.length_eq]
  exact hlen
/-- of a dict's keys -/
theorem sortedLam_dict (L : LamP a params body scope ns) (hc : X.calm = true) {k : Nat} (hr : Room k X.A) (I : Inv X pins σ H s) (F : LamAt s params body scope q f) {d : Addr} {kvs : List (List Key × V)} {ms : List (List Int)} (hd : Rd H d (.dT kvs)) (hk : kvs.map (·.1) = ms.map (fun m => m.map Sum.inl))
    (hT : ∀ m ∈ ms, ∀ i ∈ ns, i < m.length) (h : ∀ TLs : TL, TLs.map (·.2) = ms → (∀ z ∈ TLs, H z.1 = some (.tup (z.2.map V.int))) → SortedTo H TLs Q) :
    wpAny (model X.prog X.w) X.A (call (.builtin "sorted") [.ref d] [(Str.ofString "key", .ref f)]) (EP X pins σ Q) X.xe s := by
  obtain ⟨z, hs, ks, pr, o, es, ep, ho, hx, hdt, he, hnd⟩ := (show ObjOk X.prog X.w H s.heap d (.dT kvs) from hd.ok I.hok)
  have l1 : es.size = ks.length := size_of_entries he
  have l2 : kvs.length = ks.length := Paired.length pr
  obtain ⟨TLs, e1, e2, e3⟩ := keysL pr hk
  have hLl : TLs.length = ks.length := by have := congrArg List.length e1; simpa using this
  have hun := hr.units
  have hT' : ∀ z ∈ TLs, H z.1 = some (.tup (z.2.map V.int)) ∧ ∀ i ∈ ns, i < z.2.length := fun z hz => ⟨e3 z hz, hT _ (by rw [← e2]; exact List.mem_map.mpr ⟨z, hz, rfl⟩)⟩
  refine sorted_src (kw := [(Str.ofString "key", .ref f)]) (kdl_raw hs hx hdt) (I.ok.hd hc) ho (by omega) (PyProof.Rows.ksk_s1 _ _) fun h' tk acc kp it E' => ?_
  have eacc : acc = (TLs.map fun q => Value.ref q.1).toArray := by
    have ea : acc.toList = TLs.map fun q => Value.ref q.1 := by
      rw [acc_keys he it]
      have := congrArg (List.map Value.ref) e1
      rw [List.map_map, List.map_map] at this
      exact this.symm
    rw [← ea, Array.toArray_toList]
  subst eacc
  have I1 : Inv X pins σ H { s with heap := h', toks := tk } := I.kept kp
  have hob : (h'.push (seqObj "list" (TLs.map fun q => Value.ref q.1).toArray 0)).get? h'.objs.size = some (seqObj "list" (TLs.map fun q => Value.ref q.1).toArray 0) := Heap.get?_push_size _ rfl
  have kp2 : ∀ b o, h'.get? b = some o → (h'.push (seqObj "list" (TLs.map fun q => Value.ref q.1).toArray 0)).get? b = some o := fun b o e => Heap.get?_push_of_some _ e
  have F1 : LamAt { s with heap := h', toks := tk } params body scope q f := by
    obtain ⟨pm, ctv, c', h1, h2⟩ := F
    exact ⟨pm, ctv, c', kp _ _ h1, coderec_keeps h2 kp⟩
  refine list_sort_key_data (s := { s with heap := h'.push (seqObj "list" (TLs.map fun q => Value.ref q.1).toArray 0), toks := tk }) (vs := TLs.map fun q => Value.ref q.1) (bs := TLs) (R := fun v z => v = .ref z.1) (b := false) (f := .ref f) (pickT ns) hob (each_refs TLs) (pickT_all ns TLs) (pickT_sortable L.ne TLs) (by omega)
    (fun x _ => by rw [pickT_depth]; show X.A.units + 1 + 1 + 1 < cLine; omega) (PyProof.Rows.ksk_l1 _ _) (ksk_t1 f _) (fun v z hv hz h2 tk2 kb => lam_turn L hr I1 F1 (A := X.A.in1.in1) rfl hT' v z hv hz h2 tk2 fun b o e => kb b o (Nat.ne_of_lt (Heap.lt_size e)) (kp2 b o e)) fun out c h2 tk2 kb hoA hol hoe => ?_
  have eo := of_each_refs hoe
  subst eo
  have hp := List.mergeSort_perm TLs (dataLe false (pickT ns))
  refine ⟨.ref h'.objs.size, upd H h'.objs.size (.lst ((TLs.mergeSort (dataLe false (pickT ns))).map fun z => V.ref z.1)), I1.laid (t' := tk2) (fun b o e => kb b o (Nat.ne_of_lt (Heap.lt_size e)) (kp2 b o e)) (Nat.le_refl _) ⟨?_, _, c, vals_refsL _, hoA⟩, rfl, h TLs e2 e3 _ _ (I1.hok.fresh (Nat.le_refl _)) hp⟩
  rw [List.length_map, hp.length_eq]
  omega
end
/-! ### the expressions -/
/-- what the tables of code objects ask -/
structure TabC (X : Cx) (T : List (Addr × Str)) (c P : Addr) (q : Str) : Prop where
  tb : TabB X.base X.mg c P
  code : X.env.code = .ref c
  mem : (P, q) ∈ T
  uniq : ∀ p ∈ T, p.1 = P → p.2 = q
  qual : X.env.qual ++ "<lambda>" = q
section
variable {X : Cx} {a : Str} {params : Arguments} {body : Expr} {scope : Scope} {ns : List Nat} {e : Expr} {te : TE} {T : List (Addr × Str)} {c P : Addr} {q : Str} {p pos lpos kpos : Pos}
theorem clo_nil (cells : List (Str × Addr)) : ∀ (ns : List (Str × NameKind)), (∀ x ∈ ns, x.2 ≠ .free) → cloFrom cells ns [] = []
  | [], _ => rfl
  | (x, k) :: r, h => by
    have hk := h (x, k) List.mem_cons_self
    have hr := clo_nil cells r fun y hy => h y (List.mem_cons_of_mem _ hy)
    cases k <;> first | (exact absurd rfl hk) | (exact hr)
def tSortLam (T : List (Addr × Str)) (te : TE) (r : V → Hp → VK → Prop) : TE := fun σ H Q => te σ H fun x H1 => Tabs T H1 ∧ ∀ H2, ExtN H1 H2 → Tabs T H2 → r x H2 Q
def rSLl (K : PySem.W.Frag) (ns : List Nat) : V → Hp → VK → Prop := fun x H Q => ∃ (l : Addr) (TLs : TL), x = .ref l ∧ SqL K H l (TLs.map fun z => V.ref z.1) ∧ (∀ z ∈ TLs, H z.1 = some (.tup (z.2.map V.int)) ∧ ∀ i ∈ ns, i < z.2.length) ∧ SortedTo H TLs Q
def rSLd (ns : List Nat) : V → Hp → VK → Prop := fun x H Q => ∃ (d : Addr) (kvs : List (List Key × V)) (ms : List (List Int)), x = .ref d ∧ Rd H d (.dT kvs) ∧ kvs.map (·.1) = ms.map (fun m => m.map Sum.inl) ∧ (∀ m ∈ ms, ∀ i ∈ ns, i < m.length) ∧
  ∀ TLs : TL, TLs.map (·.2) = ms → (∀ z ∈ TLs, H z.1 = some (.tup (z.2.map V.int))) → SortedTo H TLs Q
theorem pe_sortLam {r : V → Hp → VK → Prop} (C : TabC X T c P q) (L : LamP a params body scope ns) (hg : Gl X "sorted") (hm : X.mg "sorted" = none) (ha : PE X e te) (hdef : defaultsOf params X.env = ([], []))
    (core : ∀ (pins : List (Addr × Obj)) (σ : L2.St) (H : Hp) (s : Shared) (Q : VK) (f : Addr) (x : V) (u : Value), Inv X pins σ H s → LamAt s params body scope q f → RelV x u → r x H Q → wpAny (model X.prog X.w) X.A (call (.builtin "sorted") [u] [(Str.ofString "key", .ref f)]) (EP X pins σ Q) X.xe s)
    (he : backTo pos (starEach [e] X.env) = (false, eval e X.env) :: backTo pos (starEach [] X.env) := by rfl) (hpl : (backTo pos (starEach [e] X.env)).any (·.1) = false := by rfl) :
    PE X (.Call (.Name "sorted" p) [e] [⟨some "key", .Lambda params body scope lpos, kpos⟩] pos) (tSortLam T te r) := by
  refine ⟨fun pins s σ H Q I h => ?_⟩
  refine wpAny_Call_Name_kw (ld_blt I hg hm (show bootBuiltins "sorted" = some (.builtin "sorted") by decide +kernel) ?_ (by decide) (by decide))
  refine PyProof.Rows.callWith_kw ?_ he hpl rfl rfl
  rw [he]
  refine Calls.spliced_cons (thn (ha.run pins s σ H _ I h) fun u s1 ⟨x, H1, I1, r1, hT, q1⟩ => Calls.spliced_nil ?_)
  show wpAny _ _ (evalAll [do let v ← eval (.Lambda params body scope lpos) X.env; standAt pos; pure v]) _ _ s1
  have hfree : ∀ y ∈ scope.names, y.2 = .free → ∃ c, X.env.cells.lookup y.1 = some c := fun y hy z => absurd z (L.free y hy)
  have hq := C.qual
  refine wpAny_evalAll_cons (wpAny_bind (lam_make2 I1 C.tb C.code (by rw [hq]; exact C.mem) (fun p hp h1 => by rw [hq]; exact C.uniq p hp h1) hT hdef hfree fun f c' pm ctv H2 s2 I2 eN T2 hf hfn hfr hco => wpAny_bind (wpAny_standAt (wpAny_pure (wpAny_evalAll_nil ?_)))))
  rw [clo_nil _ _ L.free, hq] at hf
  rw [hq] at hco
  obtain ⟨⟨oc, vs, t, g1, g2, g3⟩, _⟩ := (show ObjOk X.prog X.w H2 s2.heap c' (CodeO c' q) from I2.hok c' _ hco)
  exact core pins σ H2 s2 Q f x u I2 ⟨pm, ctv, c', hf, c', oc, vs, t, rfl, g1, g2, g3⟩ r1 (q1 H2 eN T2)
theorem pe_sortLamL (C : TabC X T c P q) (L : LamP a params body scope ns) {k : Nat} (hr : Room k X.A) (hg : Gl X "sorted") (hm : X.mg "sorted" = none) (ha : PE X e te) (hdef : defaultsOf params X.env = ([], []) := by rfl)
    (he : backTo pos (starEach [e] X.env) = (false, eval e X.env) :: backTo pos (starEach [] X.env) := by rfl) (hpl : (backTo pos (starEach [e] X.env)).any (·.1) = false := by rfl) :
    PE X (.Call (.Name "sorted" p) [e] [⟨some "key", .Lambda params body scope lpos, kpos⟩] pos) (tSortLam T te (rSLl X.K ns)) :=
  pe_sortLam C L hg hm ha hdef (fun pins σ H s Q f x u I F rx h => by
    obtain ⟨l, TLs, rfl, h1, h2, h3⟩ := h
    cases rx
    exact sortedLam_list L hr I F h1 h2 h3) he hpl
theorem pe_sortLamD (C : TabC X T c P q) (L : LamP a params body scope ns) (hc : X.calm = true) {k : Nat} (hr : Room k X.A) (hg : Gl X "sorted") (hm : X.mg "sorted" = none) (ha : PE X e te) (hdef : defaultsOf params X.env = ([], []) := by rfl)
    (he : backTo pos (starEach [e] X.env) = (false, eval e X.env) :: backTo pos (starEach [] X.env) := by rfl) (hpl : (backTo pos (starEach [e] X.env)).any (·.1) = false := by rfl) :
    PE X (.Call (.Name "sorted" p) [e] [⟨some "key", .Lambda params body scope lpos, kpos⟩] pos) (tSortLam T te (rSLd ns)) :=
  pe_sortLam C L hg hm ha hdef (fun pins σ H s Q f x u I F rx h => by
    obtain ⟨d, kvs, ms, rfl, h1, h2, h3, h4⟩ := h
    cases rx
    exact sortedLam_dict L hc hr I F h1 h2 h3 h4) he hpl
end
end K76
/-! {k: v for target in iter}, the keys tuples -/
namespace K76
open PySem PySem.Spec PyProof.Rows L2
/-- a store into a dict with tuples as keys, in a comprehension -/
theorem put_tuple_key {X : Cx} {pins : List (Addr × Obj)} {σ : L2.St} {H : Hp} {s : Shared} {E : Value → Shared → Prop} {D b : Addr} {kvs : List (List Key × V)} {k : List Key} {v : V} {r : Value} {Q : Unit → Shared → Prop} (hu : X.A.units < cLine) (I : Inv X pins σ H s)
    (hD : H D = some (.dT kvs)) (hb : H b = some (.tup (k.map kV))) (hz : kvs.length < sizeLine) (rv : RelV v r) (h : ∀ s', Inv X pins σ (upd H D (.dT (putK kvs k v))) s' → Q () s') :
    wpAny (model X.prog X.w) X.A (dictSet D (.ref b) r) Q E s := by
  obtain ⟨z, hd, ys, rel, dd⟩ := dt_of I.hok hD
  have few : ys.length ≤ sizeLine := by rw [← Paired.length rel]; exact z
  have few' : (putK kvs k v).length ≤ sizeLine := by have := length_putK kvs k v; omega
  refine wpAny_dictSet_heap (hsz := few) (show (tupleKind (mixKind X.prog X.w)).room X.A from hu) (key_of I.hok hb) dd fun h' dd' hs => h _ ?_
  obtain ⟨q, es, ep, g1, g2, g3, g4, _, g6⟩ := dd'
  refine d_write I (by rw [hD]; trivial) hs ⟨q, g1⟩ ⟨few', hd, _, (rel.put k hb rv).keeps fun c xs ec => ?_, q, es, ep, g1, g2, g3, g4, g6⟩
  rw [upd_ne (ne_of ec hD (fun z => nomatch z))]
  exact ec
section
variable {X : Cx}
def tDcT (wi : TI) (g : TG) (tt : TT) (tk tv : TE) (vs : List Nat) : TE := fun σ H Q => wi σ H fun J H1 => ∀ D, H1 D = none → ∃ W : Nat → Nat → Hp → Prop, (∃ m, W 0 m (upd H1 D (.dT []))) ∧ ∀ i m H, W i m H →
  (J.stop i H ∧ Q (.ref D) H) ∨ (J.go i H ∧ ∃ Nx : Hp → Prop, (∀ H', Nx H' → ∃ m', m' < m ∧ W (i + 1) m' H') ∧ ∀ x H', J.yld i H x H' → g x (wipe σ vs) H' fun σ2 H2 => wipe σ2 vs = wipe σ vs ∧ tt σ2 H2 fun b H3 =>
    if b = true then tk σ2 H3 fun y H4 => tv σ2 H4 fun z H5 => ∃ kvs k b, y = .ref b ∧ H5 D = some (.dT kvs) ∧ H5 b = some (.tup (k.map kV)) ∧ kvs.length < sizeLine ∧ Nx (upd H5 D (.dT (putK kvs k z))) else Nx H3)
/-- the block's frame in short -/
abbrev blkEnv (X : Cx) (scope : Scope) (s : Shared) : Env := compEnvC scope (cellsFrom (s.heap.objs.size + 1) scope.names (cloFrom X.env.cells scope.names [])) s.heap.objs.size X.env
/-- one turn of the block's loop, and its end -/
theorem dcT_loop {σ : L2.St} {Q : VK} {kx vx tg iter : Expr} {ifs : List Expr} {scope : Scope} {own : List (Str × Nat)} {pos : Pos} {g : TG} {tt : TT} {tk tv : TE} {R : Result → Shared → Prop} {J : It} {fp : List Addr} {it D : Addr} {tn : Nat → Heap → Prop} {W : Nat → Nat → Hp → Prop} {H3 : Hp} {s3 s4 : Shared} {ce : Env}
    (hc : X.calm = true) (hu : X.A.units < cLine) (T : Turn X.prog X.w X.K tg J fp it tn) (eX : ce = blkEnv X scope s3)
    (turn : ∀ i m H, W i m H → (J.stop i H ∧ Q (.ref D) H) ∨ (J.go i H ∧ ∃ Nx : Hp → Prop, (∀ H', Nx H' → ∃ m', m' < m ∧ W (i + 1) m' H') ∧ ∀ x H', J.yld i H x H' → g x (wipe σ (own.map (·.2))) H' fun σ2 H2 => wipe σ2 (own.map (·.2)) = wipe σ (own.map (·.2)) ∧ tt σ2 H2 fun b H3 =>
      if b = true then tk σ2 H3 fun y H4 => tv σ2 H4 fun z H5 => ∃ kvs k b, y = .ref b ∧ H5 D = some (.dT kvs) ∧ H5 b = some (.tup (k.map kV)) ∧ kvs.length < sizeLine ∧ Nx (upd H5 D (.dT (putK kvs k z))) else Nx H3))
    (pg : PG (X.blk s3 H3 scope ce fp) tg g) (pt : PTs (X.blk s3 H3 scope ce fp) ifs tt) (pk : PE (X.blk s3 H3 scope ce fp) kx tk) (pe : PE (X.blk s3 H3 scope ce fp) vx tv)
    (I4 : Inv (X.blk s3 H3 scope ce fp) [] (wipe σ (own.map (·.2))) H3 s4) (st4 : tn 0 s4.heap) (n4 : ∀ b ∈ fp, H3 b = none) {m0 : Nat} (w0 : W 0 m0 H3)
    (done : ∀ H' s', Inv (X.blk s3 H3 scope ce fp) [] (wipe σ (own.map (·.2))) H' s' → Q (.ref D) H' → R (.ok .next) s') :
    codeAny (model X.prog X.w) X.A (.compLoop (.DictComp kx vx [⟨tg, iter, ifs, 0⟩] scope pos) 0 (.ref it) (.ref D) ce) R s4 := by
  have free : ∀ {σ' : L2.St} {H' : Hp} {s' : Shared}, Inv (X.blk s3 H3 scope ce fp) [] σ' H' s' → (∀ b ∈ fp, H' b = none) → ∀ b ∈ fp, FpOk (X.blk s3 H3 scope ce fp) [] H' b := fun {σ' H' s'} I n b hb =>
    ⟨n b hb, (I.ok.exf b hb).1, I.ok.exfs b hb, .inl hb, fun x c e => (I.ok.exf b hb).2 x c e, fun p hp => absurd (show p ∈ ([] : List (Addr × Obj)) ++ [] from hp) (by simp)⟩
  refine compLoop_anyD (fun n s' => ∃ i H', Inv (X.blk s3 H3 scope ce fp) [] (wipe σ (own.map (·.2))) H' s' ∧ tn i s'.heap ∧ (∀ b ∈ fp, H' b = none) ∧ W i n H') ?_ m0 ⟨0, H3, I4, st4, n4, w0⟩
  rintro n s5 ⟨i, H5, I5, st5, n5, w5⟩
  rcases turn i n H5 w5 with ⟨stop, fin⟩ | ⟨go, Nx, next, body⟩
  · refine thnF (T.done (X.blk s3 H3 scope ce fp) rfl rfl rfl hc i [] s5 _ H5 (fun _ _ => False) I5 (free I5 n5) st5 stop) fun r s6 ⟨hr, I6⟩ => ?_
    subst hr
    exact done H5 s6 I6 fin
  · refine thnF (T.item (X.blk s3 H3 scope ce fp) rfl rfl rfl hc i [] s5 _ H5 (fun _ _ => False) I5 (free I5 n5) st5 go) fun r s6 ⟨u, hr, h6⟩ => ?_
    subst hr
    refine thnF h6 fun _ s7 ⟨x, H7, I7, r7, y7, st7, n7⟩ => ?_
    refine thnF (pg.run _ s7 _ H7 x u _ (I7.pinned (free I7 n7) (T.obj _ _ st7)) r7 (body x H7 y7)) fun _ s8 ⟨σ8, H8, I8, e8, q8⟩ => ?_
    refine thnF (pt.run _ s8 σ8 H8 _ I8 q8) fun b s9 ⟨H9, I9, q9⟩ => ?_
    have closeTurn : ∀ {s' : Shared} {H' : Hp}, Inv (X.blk s3 H3 scope ce fp) ([] ++ pinsAt fp s7.heap) σ8 H' s' → Nx H' → ∃ m, m < n ∧ ∃ i H', Inv (X.blk s3 H3 scope ce fp) [] (wipe σ (own.map (·.2))) H' s' ∧ tn i s'.heap ∧ (∀ b ∈ fp, H' b = none) ∧ W i m H' := by
      intro s' H' I' nx
      obtain ⟨m', hm, w'⟩ := next H' nx
      have pinned : ∀ b ∈ fp, ∀ o, s7.heap.get? b = some o → s'.heap.get? b = some o ∧ H' b = none := fun b hb o e => by
        have z := I'.pin (b, o) (List.mem_append_right _ (List.mem_append_right _ (mem_pinsAt hb e)))
        exact ⟨z.1, z.2.1⟩
      refine ⟨m', hm, i + 1, H', (I'.unpinned (pins := [])).weak (by rw [← e8, wipe_length]) (fun j v e => ?_), T.keep _ _ _ st7 fun b hb o e => (pinned b hb o e).1, fun b hb => ?_, w'⟩
      · rw [← e8] at e
        exact (wipe_some e).1
      · obtain ⟨o, e, _⟩ := T.obj _ _ st7 b hb
        exact (pinned b hb o e).2
    cases b with
    | false =>
      simp only [Bool.false_eq_true, if_false] at q9 ⊢
      exact closeTurn I9 q9
    | true =>
      simp only [if_true] at q9 ⊢
      refine thnF (pk.run _ s9 σ8 H9 _ I9 q9) fun z s10 ⟨yk, H10, I10, r10, q10⟩ => ?_
      refine thnF (pe.run _ s10 σ8 H10 _ I10 q10) fun z2 s11 ⟨yv, H11, I11, r11, kvs, k, b, ek, hD11, hb11, hz11, nx⟩ => ?_
      subst ek
      cases r10
      exact put_tuple_key (X := X.blk s3 H3 scope ce fp) hu I11 hD11 hb11 hz11 r11 fun s12 I12 => closeTurn I12 nx
theorem pe_dcT {kx vx tg iter : Expr} {ifs : List Expr} {scope : Scope} {own : List (Str × Nat)} {pos : Pos} {wi : TI} {g : TG} {tt : TT} {tk tv : TE} (hc : X.calm = true) (hu : X.A.units < cLine) (hN : X.N.Nodup) (hi : PI X tg iter wi) (ok : BlkOk X.N X.env.scope scope own)
    (hg : ∀ (s : Shared) (H : Hp) (C : Addr) (cl : List (Str × Addr)) (fp : List Addr), PG (X.blk s H scope (compEnvC scope cl C X.env) fp) tg g) (ht : ∀ (s : Shared) (H : Hp) (C : Addr) (cl : List (Str × Addr)) (fp : List Addr), PTs (X.blk s H scope (compEnvC scope cl C X.env) fp) ifs tt)
    (hk : ∀ (s : Shared) (H : Hp) (C : Addr) (cl : List (Str × Addr)) (fp : List Addr), PE (X.blk s H scope (compEnvC scope cl C X.env) fp) kx tk)
    (he : ∀ (s : Shared) (H : Hp) (C : Addr) (cl : List (Str × Addr)) (fp : List Addr), PE (X.blk s H scope (compEnvC scope cl C X.env) fp) vx tv) (hs : ∀ x, foldedSetIterable iter X.env x = pure x := by intro _; rfl) :
    PE X (.DictComp kx vx [⟨tg, iter, ifs, 0⟩] scope pos) (tDcT wi g tt tk tv (own.map (·.2))) := by
  refine ⟨fun pins s σ H Q I h => ?_⟩
  rw [arm_eval_DictComp]
  have hfree : ∀ y ∈ scope.names, y.2 = .free → ∃ c, X.env.cells.lookup y.1 = some c := fun y hy e => by
    rcases ok.free y hy e with k | k
    · exact I.ok.has _ (.inl k)
    · exact I.ok.has _ (.inr k)
  refine wpAny_comprehension_free (use := none) rfl hs (closure_ok hfree) ok.kind (fun y hy e => by rw [ok.uniq y hy, e]) (thn (hi.run pins s σ H _ I h) fun xv s1 hx => thn hx fun itv s2 h2 => ?_)
  obtain ⟨it, fp, tn, J, H2, e, I2, T, st2, f2, q⟩ := h2
  subst e
  refine wpAny_newObj_type (newEnv_comp ?_)
  have hDn : H2 s2.heap.objs.size = none := I2.hok.fresh (Nat.le_refl _)
  obtain ⟨W, ⟨m0, w0⟩, turn⟩ := q s2.heap.objs.size hDn
  have big := I2.big
  generalize hD : s2.heap.objs.size = D at hDn w0 turn ⊢
  generalize hs3 : ({ s2 with heap := s2.heap.push { cls := .type "dict", data := .dict #[] } } : Shared) = s3
  have h3 : s3.heap = s2.heap.push { cls := .type "dict", data := .dict #[] } := by rw [← hs3]
  have I3 : Inv X pins σ (upd H2 D (.dT [])) s3 := by
    rw [← hs3]
    refine I2.laid (t' := s2.toks) (fun b o e => Heap.get?_push_of_some _ e) (Nat.le_of_eq hD) ?_
    rw [← hD]
    exact dt_empty s2.heap big
  have old : ∀ b ∈ fp, b < s2.heap.objs.size := fun b hb => by
    obtain ⟨o, e, _⟩ := T.obj _ _ st2 b hb
    exact Heap.lt_size e
  have f3 : ∀ b ∈ fp, FpOk X pins (upd H2 D (.dT [])) b ∧ b < s3.heap.objs.size := fun b hb => by
    have hlt := old b hb
    have nD : b ≠ D := by rw [← hD]; exact Nat.ne_of_lt hlt
    refine ⟨⟨(upd_ne nD).trans (f2 b hb).1, (f2 b hb).2⟩, ?_⟩
    rw [h3, Heap.size_push]
    exact Nat.lt_succ_of_lt hlt
  have st3 : tn 0 s3.heap := T.keep _ _ _ st2 fun b _ o e => by rw [h3]; exact Heap.get?_push_of_some _ e
  have I4 := block_start I3 ok hN f3
  have pg := hg s3 (upd H2 D (.dT [])) s3.heap.objs.size (cellsFrom (s3.heap.objs.size + 1) scope.names (cloFrom X.env.cells scope.names [])) fp
  have pt := ht s3 (upd H2 D (.dT [])) s3.heap.objs.size (cellsFrom (s3.heap.objs.size + 1) scope.names (cloFrom X.env.cells scope.names [])) fp
  have pk := hk s3 (upd H2 D (.dT [])) s3.heap.objs.size (cellsFrom (s3.heap.objs.size + 1) scope.names (cloFrom X.env.cells scope.names [])) fp
  have pe := he s3 (upd H2 D (.dT [])) s3.heap.objs.size (cellsFrom (s3.heap.objs.size + 1) scope.names (cloFrom X.env.cells scope.names [])) fp
  show codeAny _ _ (.compStart (.DictComp kx vx [⟨tg, iter, ifs, 0⟩] scope pos) 0 (.ref it) (.ref D) (blkEnv X scope s3)) _ { s3 with heap := pushCells (s3.heap.push { cls := .type "dict", data := .dict #[] }) scope.names }
  have st4 : tn 0 (pushCells (s3.heap.push { cls := .type "dict", data := .dict #[] }) scope.names) := T.keep _ _ _ st3 fun b _ o e => pushCells_keeps _ _ _ _ (Heap.get?_push_of_some _ e)
  refine (fun loop => codeAny_compStart_dict loop (T.self X.A 0 _ _ _ st4 loop)) (dcT_loop (kx := kx) (vx := vx) (iter := iter) (ifs := ifs) (pos := pos) (own := own) hc hu T rfl turn pg pt pk pe I4 st4 (fun b hb => (f3 b hb).1.1) w0 (R := compPost (model X.prog X.w) X.A X.xe none (EP X pins σ Q) (.ref D) s3.heap.objs.size) fun H5 s6 I6 fin => ?_)
  · have I7 : Inv X pins σ H5 s6 := I3.call' (ch := fp) I6.os I6.base I6.hok I6.bare fun b hb => ⟨(f3 b hb).1.2.2.2.1, (f3 b hb).1.2.1, (f3 b hb).1.2.2.2.2.1, (f3 b hb).1.2.2.2.2.2⟩
    have nC : H5 s3.heap.objs.size = none := I6.free
    obtain ⟨m, hn, _⟩ := I6.loc
    refine ⟨m, hn, fun h'' sb => ?_⟩
    obtain ⟨f0, f1, f2, f3, f4, f5⟩ := I3.fpOk (H' := H5) (Nat.le_refl _) nC
    exact ⟨.ref D, H5, I7.turned (t' := s6.toks) (fun b o hb e => (sb.2 b hb).trans e) f0 f1 f3 f4 f5, rfl, fin⟩
end
end K76
/-! {k: v}, the key a tuple -/
namespace K76
open PySem PySem.Spec PyProof.Rows L2
def tDisp1T (tk tv : TE) : TE := fun σ H Q => ∀ p, H p = none → tk σ (upd H p (.dT [])) fun x H1 => tv σ H1 fun y H2 => ∃ k b, x = .ref b ∧ H2 p = some (.dT []) ∧ H2 b = some (.tup (k.map kV)) ∧ Q (.ref p) (upd H2 p (.dT [(k, y)]))
theorem pe_disp1T {X : Cx} {pos : Pos} {k v : Expr} {tk tv : TE} (hu : X.A.units < cLine) (hk : PE X k tk) (hv : PE X v tv) : PE X (.Dict [some k] [v] pos) (tDisp1T tk tv) := by
  refine ⟨fun pins s σ H Q I q => ?_⟩
  have hn := I.hok.fresh (Nat.le_refl s.heap.objs.size)
  have I1 := I.laid (a := s.heap.objs.size) (o := .dT []) (h' := s.heap.push { cls := .type "dict", data := .dict #[] }) (t' := s.toks) (fun _ _ q => Heap.get?_push_of_some _ q) (Nat.le_refl _) (dt_empty s.heap I.big)
  refine wpAny_Dict_any rfl rfl (by intro z; cases z) (by show 1 ≤ 15; decide) ?_
  refine pairTrees_cons_walk (thn (hk.run pins _ σ _ _ I1 (q _ hn)) fun u s1 ⟨x, H1, I2, rx, q1⟩ => thn (hv.run pins s1 σ H1 _ I2 q1) fun w2 s2 ⟨y, H2, I3, ry, kk, b, ex, hp, hb, q2⟩ => pairTrees_nil_walk ?_)
  subst ex
  cases (show u = Value.ref b from rx)
  unfold storeAll
  rw [List.forIn_cons]
  refine wpAny_bind (wpAny_bind (put_tuple_key hu I3 hp hb (by decide) ry fun s' I4 => wpAny_pure ?_))
  show wpAny _ _ (forIn ([] : List (Value × Value)) PUnit.unit (fun (x : Value × Value) (_ : PUnit) => (do dictSet s.heap.objs.size x.1 x.2; pure (ForInStep.yield PUnit.unit) : Sem (ForInStep PUnit)))) _ _ _
  rw [List.forIn_nil]
  exact wpAny_pure ⟨.ref s.heap.objs.size, _, I4, rfl, q2⟩
end K76
/-! what stays, and how the data stand in the heap -/
namespace K76
open PySem PySem.Spec PyProof.Rows L2 LamX
/-! ### what stays -/
abbrev TbT := List (Addr × Str)
structure Gd (T : TbT) (ex : List Addr) (H : Hp) : Prop where
  tabs : Tabs T H
  live : ∀ b ∈ ex, ∃ xs, H b = some (.lst xs)
  shape : ∀ sA cA, ex = [sA, cA] → (∃ seed : Int, H sA = some (.lst [.ref cA, .int seed])) ∧ ∃ cells : List Int, H cA = some (.lst (cells.map V.int))
theorem Gd.same {T : TbT} {ex : List Addr} {H H' : Hp} (g : Gd T ex H) (t : Tabs T H') (h : ∀ b ∈ ex, ∀ xs, H b = some (.lst xs) → H' b = some (.lst xs)) : Gd T ex H' :=
  ⟨t, fun b hb => by
    obtain ⟨xs, e⟩ := g.live b hb
    exact ⟨xs, h b hb xs e⟩, fun sA cA e => by
    obtain ⟨⟨seed, h1⟩, cells, h2⟩ := g.shape sA cA e
    exact ⟨⟨seed, h sA (by rw [e]; simp) _ h1⟩, cells, h cA (by rw [e]; simp) _ h2⟩⟩
/-- all stays but the tables, and what may be written (ex) -/
structure EX (T : TbT) (ex : List Addr) (H H' : Hp) : Prop where
  k : ∀ b o, H b = some o → b ∉ ex → (∀ ps, o ≠ .tbl ps) → H' b = some o
  g : Gd T ex H → Gd T ex H'
def nT : HO → Bool
  | .tbl _ => false
  | .ext _ => false
  | _ => true
def stO : HO → Bool
  | .tbl _ => false
  | .ext _ => false
  | .lst _ => false
  | _ => true
theorem nT_tbl {o : HO} (h : nT o = true) : ∀ ps, o ≠ .tbl ps := fun ps e => by
  rw [e] at h
  cases h
theorem nT_ext {o : HO} (h : nT o = true) : ∀ φ, o ≠ .ext φ := fun ps e => by
  rw [e] at h
  cases h
theorem stO_nT {o : HO} (h : stO o = true) : nT o = true := by
  cases o <;> first | rfl | cases h
/-- nothing that stays stands there -/
def FrN (H : Hp) (p : Addr) : Prop := ∀ o, H p = some o → ∃ ps, o = .tbl ps
theorem FrN.none {H : Hp} {p : Addr} (h : H p = Option.none) : FrN H p := fun o e => by
  rw [h] at e
  cases e
section
variable {T : TbT} {ex : List Addr} {H H1 H2 H' : Hp} {p b : Addr} {o m : HO}
theorem EX.refl (H : Hp) : EX T ex H H := ⟨fun _ _ h _ _ => h, fun g => g⟩
theorem EX.trans (a : EX T ex H H1) (b : EX T ex H1 H2) : EX T ex H H2 := ⟨fun c o h h2 h3 => b.k c o (a.k c o h h2 h3) h2 h3, fun g => b.g (a.g g)⟩
theorem Gd.ne (g : Gd T ex H) (h : H p = none) : p ∉ ex := fun z => by
  obtain ⟨xs, e⟩ := g.live p z
  rw [h] at e
  cases e
theorem Gd.neO (g : Gd T ex H) (h : H p = some o) (s : stO o = true) : p ∉ ex := fun z => by
  obtain ⟨xs, e⟩ := g.live p z
  rw [h] at e
  cases e
  cases s
theorem EX.back (e : EX T ex H H') (h : FrN H' p) (hp : p ∉ ex) : FrN H p := fun o ho => by
  by_cases ht : ∃ ps, o = .tbl ps
  · exact ht
  · exact h o (e.k p o ho hp fun ps z => ht ⟨ps, z⟩)
theorem tabs_upd (t : Tabs T H) (hm : ∀ o, H p = some o → nT o = true) : Tabs T (upd H p m) := fun q hq => by
  obtain ⟨ps, h1, h2, h3⟩ := t q hq
  have n1 : q.1 ≠ p := fun z => by
    rw [z] at h1
    exact nT_tbl (hm _ h1) ps rfl
  refine ⟨ps, by rw [upd_ne n1]; exact h1, h2, fun pos cv hc => ?_⟩
  obtain ⟨c, e1, e2⟩ := h3 pos cv hc
  have n2 : c ≠ p := fun z => by
    rw [z] at e2
    exact nT_ext (hm _ e2) _ rfl
  exact ⟨c, e1, by rw [upd_ne n2]; exact e2⟩
theorem EX.new (h : H p = none) : EX T ex H (upd H p o) := ⟨fun b u e _ _ => by rw [upd_ne (ne_of_none e h)]; exact e, fun g => g.same (tabs_upd g.tabs (fun o e => by rw [h] at e; cases e)) fun b hb xs e => by rw [upd_ne (ne_of_none e h)]; exact e⟩
/-- what is new to H may be written -/
theorem EX.put (e : EX T ex H H') (hf : FrN H p) (hm : H' p = some m) (nm : nT m = true) (hp : p ∉ ex) : EX T ex H (upd H' p o) := ⟨fun b u eb hb hu => by
  have n : b ≠ p := fun z => by
    rw [z] at eb
    obtain ⟨ps, z2⟩ := hf u eb
    exact hu ps z2
  rw [upd_ne n]
  exact e.k b u eb hb hu, fun g => (e.g g).same (tabs_upd (e.g g).tabs (fun o eo => by rw [hm] at eo; cases eo; exact nm)) fun b hb xs eb => by
  have n : b ≠ p := fun z => hp (z ▸ hb)
  rw [upd_ne n]
  exact eb⟩
/-- what may be written is written -/
theorem EX.putS {ys : List V} (e : EX T ex H H') (hp : p ∈ ex) (hg : Gd T ex H' → Gd T ex (upd H' p (.lst ys))) : EX T ex H (upd H' p (.lst ys)) := ⟨fun b u eb hb hu => by
  have n : b ≠ p := fun z => hb (z ▸ hp)
  rw [upd_ne n]
  exact e.k b u eb hb hu, fun g => hg (e.g g)⟩
theorem Gd.two {sA cA : Addr} (g : Gd T [sA, cA] H) : sA ≠ cA := fun z => by
  obtain ⟨⟨seed, h1⟩, cells, h2⟩ := g.shape sA cA rfl
  rw [z, h2] at h1
  have h1 : cells.map V.int = [.ref cA, .int seed] := by
    injection h1 with h1
    injection h1
  cases cells with
  | nil => cases h1
  | cons a b => cases h1
theorem Gd.putCells {sA cA : Addr} (g : Gd T [sA, cA] H) (cells : List Int) : Gd T [sA, cA] (upd H cA (.lst (cells.map V.int))) := by
  obtain ⟨⟨seed, h1⟩, cells0, h2⟩ := g.shape sA cA rfl
  have n := g.two
  refine ⟨tabs_upd g.tabs (fun o e => by rw [h2] at e; cases e; rfl), fun b hb => ?_, fun s c e => ?_⟩
  · rcases List.mem_cons.mp hb with h | h
    · exact ⟨_, by rw [h, upd_ne n]; exact h1⟩
    · rw [List.mem_singleton] at h
      exact ⟨_, by rw [h, upd_same]⟩
  · cases e
    exact ⟨⟨seed, by rw [upd_ne n]; exact h1⟩, cells, upd_same⟩
theorem Gd.putSeed {sA cA : Addr} (g : Gd T [sA, cA] H) (seed : Int) : Gd T [sA, cA] (upd H sA (.lst [.ref cA, .int seed])) := by
  obtain ⟨⟨seed0, h1⟩, cells, h2⟩ := g.shape sA cA rfl
  have n := g.two
  refine ⟨tabs_upd g.tabs (fun o e => by rw [h1] at e; cases e; rfl), fun b hb => ?_, fun s c e => ?_⟩
  · rcases List.mem_cons.mp hb with h | h
    · exact ⟨_, by rw [h, upd_same]⟩
    · rw [List.mem_singleton] at h
      exact ⟨_, by rw [h, upd_ne n.symm]; exact h2⟩
  · cases e
    exact ⟨⟨seed, upd_same⟩, cells, by rw [upd_ne n.symm]; exact h2⟩
theorem EX.keep (e : EX T ex H H') (g : Gd T ex H) (h : H b = some o) (s : stO o = true) : H' b = some o := e.k b o h (g.neO h s) (nT_tbl (stO_nT s))
theorem EX.tup {xs : List V} (e : EX T ex H H') (g : Gd T ex H) (h : H b = some (.tup xs)) : H' b = some (.tup xs) := e.keep g h rfl
theorem EX.dT {xs : List (List Key × V)} (e : EX T ex H H') (g : Gd T ex H) (h : H b = some (.dT xs)) : H' b = some (.dT xs) := e.keep g h rfl
theorem EX.ins {C dx : Addr} {fs : List (Str × V)} (e : EX T ex H H') (g : Gd T ex H) (h : H b = some (.ins C dx fs)) : H' b = some (.ins C dx fs) := e.keep g h rfl
theorem EX.ofN (e : ExtN H H') (t : Tabs T H') : EX T ex H H' := ⟨fun b o h _ n => e b o h n, fun g => g.same t fun b hb xs eb => e b _ eb (fun ps z => by cases z)⟩
end
/-- a list that is not written any more -/
def LI (ex : List Addr) (H : Hp) (a : Addr) (xs : List V) : Prop := H a = some (.lst xs) ∧ a ∉ ex
section
variable {T : TbT} {ex : List Addr} {H H' : Hp} {K : PySem.W.Frag}
theorem EX.li {a : Addr} {xs : List V} (e : EX T ex H H') (h : LI ex H a xs) : LI ex H' a xs := ⟨e.k a _ h.1 h.2 (fun ps z => by cases z), h.2⟩
theorem LI.sq {a : Addr} {xs : List V} (h : LI ex H a xs) : SqL K H a xs := SqL.of h.1
theorem LI.new {p : Addr} {xs : List V} (g : Gd T ex H) (h : H p = none) : LI ex (upd H p (.lst xs)) p xs := ⟨upd_same, g.ne h⟩
end
/-! ### the data -/
/-- a floor (i, k, level) -/
abbrev Pl := Int × Int × Int
def Pl.v (p : Pl) : List V := [.int p.1, .int p.2.1, .int p.2.2]
def Pl.k (p : Pl) : List Key := [.inl p.1, .inl p.2.1, .inl p.2.2]
def Pl.n (p : Pl) : List Int := [p.1, p.2.1, p.2.2]
theorem Pl.kv (p : Pl) : p.k.map kV = p.v := rfl
theorem Pl.nv (p : Pl) : p.n.map V.int = p.v := rfl
theorem Pl.nk (p : Pl) : p.n.map Sum.inl = p.k := rfl
theorem Pl.k_inj {p q : Pl} (h : p.k = q.k) : p = q := by
  obtain ⟨a, b, c⟩ := p
  obtain ⟨a', b', c'⟩ := q
  unfold Pl.k at h
  simp only [List.cons.injEq, Sum.inl.injEq, and_true] at h
  obtain ⟨h1, h2, h3⟩ := h
  rw [h1, h2, h3]
theorem Pl.v_inj {p q : Pl} (h : p.v = q.v) : p = q := by
  obtain ⟨a, b, c⟩ := p
  obtain ⟨a', b', c'⟩ := q
  unfold Pl.v at h
  simp only [List.cons.injEq, V.int.injEq, and_true] at h
  obtain ⟨h1, h2, h3⟩ := h
  rw [h1, h2, h3]
def PlAt (H : Hp) (b : Addr) (p : Pl) : Prop := H b = some (.tup p.v)
/-- a list of floors -/
def PlsAt (ex : List Addr) (H : Hp) (a : Addr) (ps : List Pl) : Prop := ∃ L : List (Addr × Pl), ps = L.map (·.2) ∧ LI ex H a (L.map fun q => V.ref q.1) ∧ ∀ q ∈ L, PlAt H q.1 q.2
/-- a list of pairs (floor, cost) -/
def StsAt (ex : List Addr) (H : Hp) (a : Addr) (es : List (Pl × Int)) : Prop := ∃ L : List (Addr × Addr × Pl × Int), es = L.map (·.2.2) ∧ LI ex H a (L.map fun q => V.ref q.1) ∧ ∀ q ∈ L, H q.1 = some (.tup [.ref q.2.1, .int q.2.2.2]) ∧ PlAt H q.2.1 q.2.2.1
/-- a list of marks (i, k, level, number) -/
def MksAt (ex : List Addr) (H : Hp) (a : Addr) (ms : List (Pl × Int)) : Prop := ∃ L : List (Addr × Pl × Int), ms = L.map (·.2) ∧ LI ex H a (L.map fun q => V.ref q.1) ∧ ∀ q ∈ L, H q.1 = some (.tup (q.2.1.v ++ [.int q.2.2]))
/-- a dict from floors to numbers: its pairs -/
def dI (l : List (Pl × Int)) : List (List Key × V) := l.map fun q => (q.1.k, V.int q.2)
theorem valV_dI (l : List (Pl × Int)) (p : Pl) : valV (dI l) p.k = (lk l p).map V.int := by
  induction l with
  | nil => rfl
  | cons q r ih =>
    by_cases e : q.1 = p
    · rw [lk_pos e]
      exact valV_pos (p := (q.1.k, V.int q.2)) (by rw [e])
    · rw [lk_neg e, ← ih]
      exact valV_neg (p := (q.1.k, V.int q.2)) (fun z => e (Pl.k_inj z))
theorem dI_put (l : List (Pl × Int)) (p : Pl) (n : Int) : putK (dI l) p.k (.int n) = dI (pt l p n) := by
  have ea : ((dI l).any fun kv => decide (kv.1 = p.k)) = (l.any fun q => decide (q.1 = p)) := by
    unfold dI
    rw [List.any_map]
    congr 1
    funext q
    show decide (q.1.k = p.k) = decide (q.1 = p)
    by_cases e : q.1 = p
    · rw [e]; simp
    · rw [decide_eq_false e, decide_eq_false fun z => e (Pl.k_inj z)]
  unfold putK pt
  rw [ea]
  split
  · unfold dI
    rw [List.map_map, List.map_map]
    apply List.map_congr_left
    intro q _
    show (if q.1.k = p.k then (q.1.k, V.int n) else (q.1.k, V.int q.2)) = ((if q.1 = p then (p, n) else q).1.k, V.int (if q.1 = p then (p, n) else q).2)
    by_cases e : q.1 = p
    · rw [if_pos (by rw [e]), if_pos e, e]
    · rw [if_neg fun z => e (Pl.k_inj z), if_neg e]
  · unfold dI
    rw [List.map_append]
    rfl
theorem dI_drop (l : List (Pl × Int)) (p : Pl) : dropK (dI l) p.k = dI (dp l p) := by
  unfold dropK dp dI
  rw [List.filter_map]
  congr 1
  apply List.filter_congr
  intro q _
  show decide (q.1.k ≠ p.k) = decide (q.1 ≠ p)
  by_cases e : q.1 = p
  · rw [e]; simp
  · rw [decide_eq_true (show q.1 ≠ p from e), decide_eq_true (show q.1.k ≠ p.k from fun z => e (Pl.k_inj z))]
theorem dI_len (l : List (Pl × Int)) : (dI l).length = l.length := by
  unfold dI
  rw [List.length_map]
theorem dI_keys (l : List (Pl × Int)) : (dI l).map (·.1) = (l.map fun q => q.1.n).map (fun m => m.map Sum.inl) := by
  unfold dI
  rw [List.map_map, List.map_map]
  rfl
/-! ### the world -/
structure Wd where
  rise : Int
  level : Int
  climb : Int
  cells : List ((Int × Int) × List Int)
  areas : List (List Int)
def ck (c : Int × Int) : List Key := [.inl c.1, .inl c.2]
def cv (c : Int × Int) : List V := [.int c.1, .int c.2]
theorem ck_inj {p q : Int × Int} (h : ck p = ck q) : p = q := by
  obtain ⟨a, b⟩ := p
  obtain ⟨a', b'⟩ := q
  unfold ck at h
  simp only [List.cons.injEq, Sum.inl.injEq, and_true] at h
  obtain ⟨h1, h2⟩ := h
  rw [h1, h2]
/-- what the drawn worlds keep -/
structure Wd.Ok (W : Wd) : Prop where
  rise : 0 ≤ W.rise ∧ W.rise ≤ 3
  level : 1 ≤ W.level ∧ W.level ≤ 2
  climb : 0 ≤ W.climb ∧ W.climb ≤ 1000
  nd : (W.cells.map (·.1)).Nodup
  cell : ∀ c ∈ W.cells, 0 ≤ c.1.1 ∧ c.1.1 ≤ 100 ∧ 0 ≤ c.1.2 ∧ c.1.2 ≤ 100 ∧ c.2.length ≤ 2 ∧ ∀ a ∈ c.2, 0 ≤ a ∧ a ≤ 100 ∧ ∀ b ∈ c.2, a ≤ b + 6 → b ≤ a + 6 → a = b
  few : W.cells.length ≤ 20
  afew : W.areas.length ≤ 10
  area : ∀ a ∈ W.areas, a.length = 7 ∧ (∀ n ∈ a, -10000 ≤ n ∧ n ≤ 10000) ∧ 1 ≤ a.getD 6 0 ∧ a.getD 6 0 ≤ 1000
/-- the floors -/
def Wd.fl (W : Wd) (p : Pl) : Prop := ∃ ls, ((p.1, p.2.1), ls) ∈ W.cells ∧ p.2.2 ∈ ls
def Wd.pls (W : Wd) : List Pl := W.cells.flatMap fun c => c.2.map fun l => (c.1.1, c.1.2, l)
theorem Wd.mem_pls {W : Wd} {p : Pl} : p ∈ W.pls ↔ W.fl p := by
  unfold Wd.pls Wd.fl
  rw [List.mem_flatMap]
  constructor
  · rintro ⟨c, hc, h⟩
    obtain ⟨l, hl, rfl⟩ := List.mem_map.mp h
    exact ⟨c.2, hc, hl⟩
  · rintro ⟨ls, hc, hl⟩
    exact ⟨_, hc, List.mem_map.mpr ⟨_, hl, rfl⟩⟩
/-- is the floor in the area -/
def inArea (level : Int) (a : List Int) (p : Pl) : Bool :=
  decide (a.getD 4 0 ≤ p.2.2 * level) && (decide (p.2.2 * level ≤ a.getD 5 0) && ((decide (a.getD 0 0 ≤ (p.1 + 1) * 4) && decide (p.1 * 4 ≤ a.getD 2 0)) && (decide (a.getD 1 0 ≤ (p.2.1 + 1) * 4) && decide (p.2.1 * 4 ≤ a.getD 3 0))))
def halfOf (level : Int) : List (List Int) → Pl → Int → Int
  | [], _, n => n
  | a :: r, p, n => halfOf level r p (if inArea level a p then (if a.getD 6 0 > n then a.getD 6 0 else n) else n)
def Wd.half (W : Wd) (p : Pl) : Int := halfOf W.level W.areas p 1
/-- the cost of a step between joined floors -/
def Wd.adj (W : Wd) (p q : Pl) : Prop := (p.1 - q.1).natAbs + (p.2.1 - q.2.1).natAbs = 1 ∧ ((p.2.2 - q.2.2).natAbs : Int) ≤ W.rise
def Wd.cost (W : Wd) (p q : Pl) : Int := W.half p + W.half q + W.climb * ((p.2.2 - q.2.2).natAbs : Int)
def Wd.E (W : Wd) (p q : Pl) (c : Int) : Prop := W.fl q ∧ W.adj p q ∧ c = W.cost p q
noncomputable def Wd.J (W : Wd) (p q : Pl) : Option Int := open Classical in if W.fl q ∧ W.adj p q then some (W.cost p q) else none
theorem Wd.JE {W : Wd} (p q : Pl) (c : Int) : W.J p q = some c ↔ W.E p q c := by
  unfold Wd.J Wd.E
  constructor
  · intro h
    split at h
    · rename_i z
      cases h
      exact ⟨z.1, z.2, rfl⟩
    · cases h
  · rintro ⟨h1, h2, rfl⟩
    rw [if_pos ⟨h1, h2⟩]
theorem halfOf_ge (level : Int) : ∀ (as : List (List Int)) (p : Pl) (n : Int), n ≤ halfOf level as p n
  | [], _, n => Int.le_refl n
  | a :: r, p, n => by
    unfold halfOf
    refine Int.le_trans ?_ (halfOf_ge level r p _)
    split
    · split <;> omega
    · exact Int.le_refl n
theorem halfOf_le (level : Int) : ∀ (as : List (List Int)) (p : Pl) (n : Int), n ≤ 1000 → (∀ a ∈ as, a.getD 6 0 ≤ 1000) → halfOf level as p n ≤ 1000
  | [], _, n, h, _ => h
  | a :: r, p, n, h, ha => by
    unfold halfOf
    refine halfOf_le level r p _ ?_ fun b hb => ha b (List.mem_cons_of_mem _ hb)
    have := ha a List.mem_cons_self
    split
    · split <;> omega
    · exact h
theorem Wd.half_pos (W : Wd) (p : Pl) : 1 ≤ W.half p := halfOf_ge _ _ _ _
theorem Wd.Ok.half_le {W : Wd} (o : W.Ok) (p : Pl) : W.half p ≤ 1000 := halfOf_le _ _ _ _ (by decide) fun a ha => (o.area a ha).2.2.2
theorem Wd.Ok.cost_pos {W : Wd} (o : W.Ok) {p q : Pl} {c : Int} (h : W.E p q c) : 0 < c ∧ c ≤ 5000 := by
  obtain ⟨_, h2, rfl⟩ := h
  have h1 := W.half_pos p
  have h3 := W.half_pos q
  have h4 := o.half_le p
  have h5 := o.half_le q
  have h6 := o.climb
  have h7 := h2.2
  have h8 := o.rise
  unfold Wd.cost
  have k1 : 0 ≤ W.climb * ((p.2.2 - q.2.2).natAbs : Int) := Int.mul_nonneg h6.1 (Int.natCast_nonneg _)
  have k2 : W.climb * ((p.2.2 - q.2.2).natAbs : Int) ≤ 1000 * 3 := Int.mul_le_mul h6.2 (by omega) (Int.natCast_nonneg _) (by omega)
  omega
theorem Wd.Ok.pls_len {W : Wd} (o : W.Ok) : W.pls.length ≤ 40 := by
  unfold Wd.pls
  rw [List.length_flatMap]
  have key : ∀ l : List ((Int × Int) × List Int), (∀ c ∈ l, c.2.length ≤ 2) → (l.map fun c => (c.2.map fun x => (c.1.1, c.1.2, x)).length).sum ≤ 2 * l.length := by
    intro l
    induction l with
    | nil => intro _; exact Nat.le_refl 0
    | cons c r ih =>
      intro h
      have h1 := h c List.mem_cons_self
      have h2 := ih fun x hx => h x (List.mem_cons_of_mem _ hx)
      rw [List.map_cons, List.sum_cons, List.length_map, List.length_cons]
      omega
  have h1 := key W.cells fun c hc => (o.cell c hc).2.2.2.2.1
  have h2 := o.few
  omega
/-- the floors' dict -/
def FlsAt (ex : List Addr) (H : Hp) (d : Addr) (cells : List ((Int × Int) × List Int)) : Prop := ∃ L : List ((Int × Int) × Addr × List Int), cells = L.map (fun q => (q.1, q.2.2)) ∧ H d = some (.dT (L.map fun q => (ck q.1, V.ref q.2.1))) ∧ ∀ q ∈ L, LI ex H q.2.1 (q.2.2.map V.int)
def ArsAt (ex : List Addr) (H : Hp) (a : Addr) (areas : List (List Int)) : Prop := ∃ L : TL, areas = L.map (·.2) ∧ LI ex H a (L.map fun q => V.ref q.1) ∧ ∀ q ∈ L, H q.1 = some (.tup (q.2.map V.int))
/-- the settings: what is asked of them -/
structure StAt (C : Addr) (H : Hp) (a : Addr) (rise level : Int) : Prop where
  ob : ∃ dx fs, H a = some (.ins C dx fs) ∧ fs.lookup ("rise" : Str) = some (.int rise) ∧ fs.lookup ("cell" : Str) = some (.int 4) ∧ fs.lookup ("level" : Str) = some (.int level)
/-- the world of the law: a list of four -/
def WdAt (C : Addr) (ex : List Addr) (H : Hp) (a : Addr) (W : Wd) : Prop := ∃ sA fA aA, LI ex H a [.ref sA, .ref fA, .ref aA, .int W.climb] ∧ StAt C H sA W.rise W.level ∧ FlsAt ex H fA W.cells ∧ ArsAt ex H aA W.areas
def gfs (sA fA aA : Addr) (climb : Int) : List (Str × V) := [("settings", .ref sA), ("floors", .ref fA), ("areas", .ref aA), ("climb", .int climb)]
/-- a Ground -/
def GrAt (G C : Addr) (ex : List Addr) (H : Hp) (a : Addr) (W : Wd) : Prop := ∃ dx sA fA aA, H a = some (.ins G dx (gfs sA fA aA W.climb)) ∧ StAt C H sA W.rise W.level ∧ FlsAt ex H fA W.cells ∧ ArsAt ex H aA W.areas
section
variable {T : TbT} {ex : List Addr} {H H' : Hp}
theorem EX.pl (e : EX T ex H H') (g : Gd T ex H) {b : Addr} {p : Pl} (h : PlAt H b p) : PlAt H' b p := e.tup g h
theorem EX.pls (e : EX T ex H H') (g : Gd T ex H) {a : Addr} {ps : List Pl} (h : PlsAt ex H a ps) : PlsAt ex H' a ps := by
  obtain ⟨L, h1, h2, h3⟩ := h
  exact ⟨L, h1, e.li h2, fun q hq => e.pl g (h3 q hq)⟩
theorem EX.sts (e : EX T ex H H') (g : Gd T ex H) {a : Addr} {es : List (Pl × Int)} (h : StsAt ex H a es) : StsAt ex H' a es := by
  obtain ⟨L, h1, h2, h3⟩ := h
  exact ⟨L, h1, e.li h2, fun q hq => ⟨e.tup g (h3 q hq).1, e.pl g (h3 q hq).2⟩⟩
theorem EX.mks (e : EX T ex H H') (g : Gd T ex H) {a : Addr} {es : List (Pl × Int)} (h : MksAt ex H a es) : MksAt ex H' a es := by
  obtain ⟨L, h1, h2, h3⟩ := h
  exact ⟨L, h1, e.li h2, fun q hq => e.tup g (h3 q hq)⟩
theorem EX.fls (e : EX T ex H H') (g : Gd T ex H) {d : Addr} {cs : List ((Int × Int) × List Int)} (h : FlsAt ex H d cs) : FlsAt ex H' d cs := by
  obtain ⟨L, h1, h2, h3⟩ := h
  exact ⟨L, h1, e.dT g h2, fun q hq => e.li (h3 q hq)⟩
theorem EX.ars (e : EX T ex H H') (g : Gd T ex H) {a : Addr} {as : List (List Int)} (h : ArsAt ex H a as) : ArsAt ex H' a as := by
  obtain ⟨L, h1, h2, h3⟩ := h
  exact ⟨L, h1, e.li h2, fun q hq => e.tup g (h3 q hq)⟩
theorem EX.sta (e : EX T ex H H') (g : Gd T ex H) {C a : Addr} {r l : Int} (h : StAt C H a r l) : StAt C H' a r l := by
  obtain ⟨dx, fs, h1, h2⟩ := h
  exact ⟨dx, fs, e.ins g h1, h2⟩
theorem EX.wd (e : EX T ex H H') (g : Gd T ex H) {C a : Addr} {W : Wd} (h : WdAt C ex H a W) : WdAt C ex H' a W := by
  obtain ⟨sA, fA, aA, h1, h2, h3, h4⟩ := h
  exact ⟨sA, fA, aA, e.li h1, e.sta g h2, e.fls g h3, e.ars g h4⟩
theorem EX.gr (e : EX T ex H H') (g : Gd T ex H) {G C a : Addr} {W : Wd} (h : GrAt G C ex H a W) : GrAt G C ex H' a W := by
  obtain ⟨dx, sA, fA, aA, h1, h2, h3, h4⟩ := h
  exact ⟨dx, sA, fA, aA, e.ins g h1, e.sta g h2, e.fls g h3, e.ars g h4⟩
end
/-! ### defs, methods as callers see them -/
section
variable {P : Program} {w : World} {K : PySem.W.Frag} {mg : Str → Option Value} {base : Heap}
/-- a def by its name -/
def Df (P : Program) (w : World) (K : PySem.W.Frag) (mg : Str → Option Value) (base : Heap) (k : Nat) (x : Str) (ps : List Str) (sp : Sp) : Prop :=
  ∃ f fd, FnOk P w K mg base CX0 k f fd ps sp ∧ mg x = some (.ref f) ∧ PySem.W.keepIn K (.ref f) = true ∧ Binds K fd ps []
def Dm (P : Program) (w : World) (K : PySem.W.Frag) (mg : Str → Option Value) (base : Heap) (C : Addr) (k : Nat) (m : Str) (ps : List Str) (sp : Sp) : Prop :=
  ∃ f fd, FnOk P w K mg base CX0 k f fd ps sp ∧ Meth K C m f ∧ Binds K fd ps []
theorem Df.mono {k k' : Nat} {x : Str} {ps : List Str} {sp : Sp} (h : Df P w K mg base k x ps sp) (hk : k ≤ k') : Df P w K mg base k' x ps sp := by
  obtain ⟨f, fd, h1, h2⟩ := h
  exact ⟨f, fd, h1.mono hk, h2⟩
theorem pe_df {X : Cx} {k : Nat} {x : Str} {ps : List Str} {sp : Sp} {p pos : Pos} {e : Expr} {es : List Expr} {t : TA} (D : Df X.prog X.w X.K X.mg X.base k x ps sp) (hr : Room k X.A) (hg : Gl X x) (ha : PA X (e :: es) t) (hdb : (x == ("__debug__" : Str)) = false := by decide)
    (he : starEach (e :: es) X.env = (false, eval e X.env) :: starEach es X.env := by rfl) (hpl : (backTo pos (starEach es X.env)).any (·.1) = false := by rfl) : PE X (.Call (.Name x p) (e :: es) [] pos) (tCall sp [] E0 t) := by
  obtain ⟨f, fd, F, hm, hk, hb⟩ := D
  exact pe_call F hr hg hm hk hb .nil pass0 ha hdb he hpl
theorem pe_dm {X : Cx} {C : Addr} {k : Nat} {m : Str} {ps : List Str} {sp : Sp} {apos pos : Pos} {o e : Expr} {es : List Expr} {ta : TE} {t : TA} {pl : Sem Bool} (D : Dm X.prog X.w X.K X.mg X.base C k m ps sp) (c : Cls X.K C) (hr : Room k X.A) (ho : PE X o ta) (ha : PA X (e :: es) t)
    (hst : starEach (e :: es) X.env = (false, eval e X.env) :: starEach es X.env := by rfl) (hpl : (backTo pos (starEach es X.env)).any (·.1) = false := by rfl)
    (ht : eval (.Call (.Attribute o m apos) (e :: es) [] pos) X.env = (do
      let ov ← eval o X.env
      standAt apos.atName
      let (f, first) ← holding [ov] (getMethod ov m pl)
      callWith pos f first (backTo pos (starEach (e :: es) X.env)) (backToKw pos (keywordEach [] X.env))) := by rfl) : PE X (.Call (.Attribute o m apos) (e :: es) [] pos) (tMeth C m sp [] E0 ta t) := by
  obtain ⟨f, fd, F, hm, hb⟩ := D
  exact pe_meth ho c hm F hr hb .nil pass0 ha hst hpl ht
/-- a def's own rule -/
theorem fn_rule {x q : Str} {st : Stmt} {f : Addr} {fd : FuncData} {N ps : List Str} {k : Nat} {sp : Sp} (F : FnP K x q st f fd) (S : FnScope N ps (defScope st)) (len : ∀ vs H Q E, sp vs H Q E → vs.length = ps.length)
    (hbody : ∀ (cdv : Value) (A : Around) (outer : List Env) (s : Shared) (H : Hp) (vs : List V) (Q : VK) (E : XK), Room k (A.deeper (envOfC q (defScope st) s.heap.objs.size f cdv)) → sp vs H Q E →
      ∃ t, PSs (cxOf CX0 P w K mg base N q (defScope st) f cdv A outer s H E).nox (defBody st) t ∧ t { nx := fun _ H' => Q .non H', rt := Q } (start N vs) H) : FnOk P w K mg base CX0 (k + 1) f fd ps sp :=
  FunD.ok F S len fun cdv A outer s H vs Q E hr h => by
    obtain ⟨t, h1, h2⟩ := hbody cdv A outer s H vs Q E hr h
    exact ⟨t, h1.nox, h2⟩
end
end K76
namespace K76
open PySem PySem.Spec PyProof.Rows L2 LamX
theorem valV_lk {α β κ : Type} [DecidableEq α] [DecidableEq κ] (f : α → κ) (g : β → V) (hf : ∀ a b, f a = f b → a = b) (l : List (α × β)) (k : α) : valV (l.map fun q => (f q.1, g q.2)) (f k) = (lk l k).map g := by
  induction l with
  | nil => rfl
  | cons q r ih =>
    by_cases e : q.1 = k
    · rw [lk_pos e]
      exact valV_pos (p := (f q.1, g q.2)) (by rw [e])
    · rw [lk_neg e, ← ih]
      exact valV_neg (p := (f q.1, g q.2)) (fun z => e (hf _ _ z))
theorem lk_mapv {α β γ : Type} [DecidableEq α] (g : β → γ) (l : List (α × β)) (k : α) : lk (l.map fun q => (q.1, g q.2)) k = (lk l k).map g := by
  induction l with
  | nil => rfl
  | cons q r ih =>
    by_cases e : q.1 = k
    · rw [lk_pos e]
      exact lk_pos (p := (q.1, g q.2)) e
    · rw [lk_neg e, ← ih]
      exact lk_neg (p := (q.1, g q.2)) e
theorem int_of_getElem {ns : List Int} {i : Nat} {y : V} (h : (ns.map V.int)[i]? = some y) : ∃ z, y = V.int z ∧ ns[i]? = some z := by
  rw [List.getElem?_map] at h
  cases e : ns[i]? with
  | none => rw [e] at h; cases h
  | some z => rw [e] at h; exact ⟨z, (Option.some.inj h).symm, rfl⟩
theorem abs_eq (n : Int) : (if n < 0 then -n else n) = (n.natAbs : Int) := by
  split <;> omega
/-- what partner tells -/
def ResPl (W : Wd) (p : Pl) (di dk : Int) (v : V) (H : Hp) : Prop :=
  (v = .non ∧ ∀ q : Pl, W.fl q → q.1 = p.1 + di → q.2.1 = p.2.1 + dk → ¬ ((q.2.2 - p.2.2).natAbs : Int) ≤ W.rise) ∨ ∃ b q, v = .ref b ∧ PlAt H b q ∧ W.fl q ∧ q.1 = p.1 + di ∧ q.2.1 = p.2.1 + dk ∧ ((q.2.2 - p.2.2).natAbs : Int) ≤ W.rise
def spPartner (C : Addr) (T : TbT) (ex : List Addr) : Sp := fun vs H Q _ => ∃ (sA fA pA : Addr) (W : Wd) (p : Pl) (di dk : Int), vs = [.ref sA, .ref fA, .ref pA, .int di, .int dk] ∧ Gd T ex H ∧ W.Ok ∧ StAt C H sA W.rise W.level ∧ FlsAt ex H fA W.cells ∧ PlAt H pA p ∧
  ∀ v H', EX T ex H H' → ResPl W p di dk v H' → Q v H'
section
variable {P : Program} {w : World} {K : PySem.W.Frag} {mg : Str → Option Value} {base : Heap} {T : TbT} {ex : List Addr} {C : Addr}
theorem scPartner : FnScope ["settings", "floors", "place", "di", "dk", "i", "k", "level", "other"] ["settings", "floors", "place", "di", "dk"] (defScope sPartner) := ⟨rfl, rfl, rfl, by decide +kernel, rfl, by decide +kernel, by decide +kernel⟩
theorem ok_partner {f : Addr} {fd : FuncData} (F : FnP K "partner" "partner" sPartner f fd) (cl : Cls K C) (nR : NoAttr K C "rise") (mA : mg "abs" = none) : FnOk P w K mg base CX0 1 f fd ["settings", "floors", "place", "di", "dk"] (spPartner C T ex) := by
  refine fn_rule F scPartner (fun vs H Q E h => ?_) (fun cdv A outer s H vs Q E hr h => ?_)
  · obtain ⟨sA, fA, pA, W, p, di, dk, rfl, _⟩ := h
    rfl
  · obtain ⟨sA, fA, pA, W, p, di, dk, rfl, g, hW, hS, hF, hp, k⟩ := h
    have hu := hu_of hr
    refine ⟨_, pss_cons (ps_asg (pv 2) (pg_tup (by rfl) (pgs_cons (pg_name (i := 5) scPartner.nd rfl (.inl rfl)) (pgs_cons (pg_name (i := 6) scPartner.nd rfl (.inl rfl)) (pgs_cons (pg_name (i := 7) scPartner.nd rfl (.inl rfl)) pgs_nil)))))
      (pss_cons (ps_for PassesOwn.never rfl (pi_list (pe_dget2 hu (pv 1) (pe_tup (pa_cons (pe_op op_add (pv 5) (pv 3)) (pa_cons (pe_op op_add (pv 6) (pv 4)) pa_nil))) (pe_lst pa_nil) ⟨rfl, rfl, rfl, rfl⟩)) (pg_name (i := 8) scPartner.nd rfl (.inl rfl))
        (pss_one (ps_if (pt_cmpR op_le (pe_callB call_abs (by rfl) mA (by decide +kernel) (pa_cons (pe_op op_sub (pv 8) (pv 7)) pa_nil)) (pe_fld (pv 0) rfl) (nomark _))
          (pss_one (ps_ret (pe_tup (pa_cons (pe_op op_add (pv 5) (pv 3)) (pa_cons (pe_op op_add (pv 6) (pv 4)) (pa_cons (pv 8) pa_nil)))))) pss_nil)))
      (pss_one (ps_ret pe_non))), ?_⟩
    obtain ⟨L, eL, hFd, hFl⟩ := id hF
    obtain ⟨dx, fs, hSo, hRi, _⟩ := id hS.ob
    -- i, k, level = place
    refine ⟨_, rfl, pA, p.v, rfl, SqT.of hp, rfl, _, _, rfl, _, _, rfl, _, _, rfl, rfl, ?_⟩
    -- floors.get((i + di, k + dk), [])
    refine ⟨_, rfl, fA, rfl, .inr ⟨_, .inl hFd⟩, _, rfl, _, rfl, _, _, rfl, rfl, _, rfl, _, rfl, _, _, rfl, rfl, (by show 2 ≤ sizeLine; decide), fun t ht => ?_⟩
    refine ⟨Nat.zero_le _, fun l hl => ?_⟩
    have e1 : EX T ex H (upd H t (.tup (cv (p.1 + di, p.2.1 + dk)))) := EX.new ht
    have e2 : EX T ex H (upd (upd H t (.tup (cv (p.1 + di, p.2.1 + dk)))) l (.lst [])) := e1.trans (EX.new hl)
    have g2 := e2.g g
    change EX T ex H (upd (upd H t (.tup [.int (p.1 + di), .int (p.2.1 + dk)])) l (.lst [])) at e2
    change Gd T ex (upd (upd H t (.tup [.int (p.1 + di), .int (p.2.1 + dk)])) l (.lst [])) at g2
    generalize hH2 : upd (upd H t (.tup [.int (p.1 + di), .int (p.2.1 + dk)])) l (.lst []) = H2 at e2 g2 ⊢
    have ht2 : H2 t = some (.tup (cv (p.1 + di, p.2.1 + dk))) := by
      rw [← hH2, upd_ne (ne_of_none upd_same hl), upd_same]
      rfl
    have hl2 : H2 l = some (.lst []) := by rw [← hH2, upd_same]
    have hG := DGet.t (k := ck (p.1 + di, p.2.1 + dk)) (e2.dT g hFd) ht2
    rw [valV_lk (β := Addr × List Int) ck (fun q => V.ref q.1) (fun a b => ck_inj) L] at hG
    -- which list it is, and what it holds
    have key : ∃ (a : Addr) (ls : List Int), (((lk L (p.1 + di, p.2.1 + dk)).map fun q => V.ref q.1).getD (.ref l)) = .ref a ∧ SqL K H2 a (ls.map V.int) ∧ ls.length ≤ 2 ∧ (∀ x, x ∈ ls ↔ W.fl (p.1 + di, p.2.1 + dk, x)) := by
      cases e : lk L (p.1 + di, p.2.1 + dk) with
      | none =>
        refine ⟨l, [], rfl, SqL.of hl2, Nat.zero_le _, fun x => Iff.intro (fun h => nomatch h) fun ⟨ls, h1, _⟩ => ?_⟩
        have h2 : lk W.cells (p.1 + di, p.2.1 + dk) = none := by
          rw [eL, lk_mapv (fun q : Addr × List Int => q.2), e]
          rfl
        exact absurd h1 (lk_none.mp h2 ls)
      | some q =>
        have hm := lk_mem e
        have h2 : lk W.cells (p.1 + di, p.2.1 + dk) = some q.2 := by
          rw [eL, lk_mapv (fun q : Addr × List Int => q.2), e]
          rfl
        have hc := hW.cell _ (lk_mem h2)
        refine ⟨q.1, q.2, rfl, (e2.li (hFl _ hm)).sq, hc.2.2.2.2.1, fun x => ⟨fun h => ⟨q.2, lk_mem h2, h⟩, fun ⟨ls, h1, h3⟩ => ?_⟩⟩
        have := lk_of_mem hW.nd h1
        rw [h2] at this
        cases this
        exact h3
    obtain ⟨a, ls, ea, hq, hlen, hls⟩ := key
    refine ⟨_, hG, ?_⟩
    rw [ea]
    refine ⟨a, rfl, ⟨_, hq⟩, ?_⟩
    refine for_list (K := K) (a := a) (xs := ls.map V.int) (fun i σ H' => H' = H2 ∧ ∃ o, σ = [some (.ref sA), some (.ref fA), some (.ref pA), some (.int di), some (.int dk), some (.int p.1), some (.int p.2.1), some (.int p.2.2), o] ∧ ∀ j x, j < i → ls[j]? = some x → ¬ ((x - p.2.2).natAbs : Int) ≤ W.rise)
      ⟨rfl, none, rfl, fun j x hj => nomatch hj⟩ (fun i σ H' _ ⟨e, _⟩ => by rw [e]; exact hq) ?_ ?_
    · rintro i y σ H' hi ⟨rfl, o, rfl, hj⟩
      obtain ⟨z, rfl, hz⟩ := int_of_getElem hi
      refine ⟨_, rfl, _, rfl, _, _, rfl, rfl, _, rfl, _, rfl, sA, C, dx, fs, _, rfl, e2.ins g hSo, cl, nR, hRi, _, _, rfl, rfl, _, rfl, ?_⟩
      rw [abs_eq]
      refine ite2 (fun hc => ?_) (fun hc => ?_)
      · -- return (i + di, k + dk, other)
        refine ⟨_, rfl, _, rfl, _, _, rfl, rfl, _, rfl, _, rfl, _, _, rfl, rfl, _, rfl, (by show 3 ≤ sizeLine; decide), fun b hb => ?_⟩
        refine k _ _ (e2.trans (EX.new hb)) (.inr ⟨b, (p.1 + di, p.2.1 + dk, z), rfl, upd_same, (hls z).mp (List.mem_of_getElem? hz), rfl, rfl, of_decide_eq_true hc⟩)
      · refine ⟨rfl, _, rfl, fun j x hjl hx => ?_⟩
        by_cases ej : j = i
        · subst ej
          rw [hz] at hx
          cases hx
          intro h
          exact hc (decide_eq_true h)
        · exact hj j x (by omega) hx
    · rintro σ H' ⟨rfl, o, rfl, hj⟩
      refine k _ _ e2 (.inl ⟨rfl, fun q hq1 h1 h2 => ?_⟩)
      have hm : q.2.2 ∈ ls := (hls q.2.2).mpr (by
        have : q = (p.1 + di, p.2.1 + dk, q.2.2) := by rw [← h1, ← h2]
        rw [← this]
        exact hq1)
      obtain ⟨j, hjl, hx⟩ := List.mem_iff_getElem.mp hm
      exact hj j q.2.2 (by rw [List.length_map]; exact hjl) (by rw [List.getElem?_eq_getElem hjl, hx])
end
end K76
namespace K76
open PySem PySem.Spec PyProof.Rows L2 LamX
theorem iteB {b : Bool} {A B : Prop} (h1 : b = true → A) (h2 : b = false → B) : if b = true then A else B := by
  cases b with
  | true => rw [if_pos rfl]; exact h1 rfl
  | false => rw [if_neg Bool.false_ne_true]; exact h2 rfl
theorem ix_tupK {X : Cx} {K : PySem.W.Frag} (h : X.K = K := by rfl) : IxR X (rIxT K) := h ▸ ix_tup
theorem ix_listK {X : Cx} {K : PySem.W.Frag} (h : X.K = K := by rfl) : IxR X (rIxL K) := h ▸ ix_list
/-- the j-th number of a tuple of ints -/
theorem atD {a : List Int} {n j : Nat} {z : Int} (e : z = (j : Int)) (hn : a.length = n) (hj : j < n) : atI (a.map V.int) z = some (V.int (a.getD j 0)) := by
  refine at_of e ?_
  rw [List.getElem?_map, List.getElem?_eq_getElem (by omega), List.getD_eq_getElem?_getD, List.getElem?_eq_getElem (by omega)]
  rfl
def meetsB (a : List Int) (i k : Int) : Bool := (decide (a.getD 0 0 ≤ (i + 1) * 4) && decide (i * 4 ≤ a.getD 2 0)) && (decide (a.getD 1 0 ≤ (k + 1) * 4) && decide (k * 4 ≤ a.getD 3 0))
def spMeets (C : Addr) : Sp := fun vs H Q _ => ∃ (sA aA : Addr) (rise level : Int) (a : List Int) (i k : Int), vs = [.ref sA, .ref aA, .int i, .int k] ∧ StAt C H sA rise level ∧ H aA = some (.tup (a.map V.int)) ∧ a.length = 7 ∧ Q (.bl (meetsB a i k)) H
def spFloorCost (C : Addr) (T : TbT) (ex : List Addr) : Sp := fun vs H Q _ => ∃ (sA aA pA : Addr) (W : Wd) (p : Pl), vs = [.ref sA, .ref aA, .ref pA] ∧ Gd T ex H ∧ W.Ok ∧ StAt C H sA W.rise W.level ∧ ArsAt ex H aA W.areas ∧ PlAt H pA p ∧
  ∀ H', EX T ex H H' → Q (.int (W.half p)) H'
theorem halfOf_at (level : Int) : ∀ (as : List (List Int)) (p : Pl) (n : Int), (∀ a ∈ as, inArea level a p = true → a.getD 6 0 ≤ halfOf level as p n) ∧ (halfOf level as p n = n ∨ ∃ a ∈ as, inArea level a p = true ∧ a.getD 6 0 = halfOf level as p n)
  | [], _, n => ⟨(fun a h => nomatch h), .inl rfl⟩
  | a :: r, p, n => by
    have step : halfOf level (a :: r) p n = halfOf level r p (if inArea level a p then (if a.getD 6 0 > n then a.getD 6 0 else n) else n) := rfl
    obtain ⟨h1, h2⟩ := halfOf_at level r p (if inArea level a p then (if a.getD 6 0 > n then a.getD 6 0 else n) else n)
    have h3 := halfOf_ge level r p (if inArea level a p then (if a.getD 6 0 > n then a.getD 6 0 else n) else n)
    rw [step]
    refine ⟨fun b hb hi => ?_, ?_⟩
    · rcases List.mem_cons.mp hb with e | e
      · subst e
        rw [if_pos hi] at h3 ⊢
        split at h3 <;> rename_i z
        · rw [if_pos z]; exact h3
        · rw [if_neg z]; omega
      · exact h1 b e hi
    · rcases h2 with h2 | ⟨b, hb, hi, e⟩
      · cases hi : inArea level a p with
        | false =>
          rw [hi] at h2
          simp only [Bool.false_eq_true, if_false] at h2 ⊢
          exact .inl h2
        | true =>
          rw [hi] at h2
          simp only [if_true] at h2 ⊢
          by_cases z : a.getD 6 0 > n
          · rw [if_pos z] at h2 ⊢
            exact .inr ⟨a, List.mem_cons_self, hi, h2.symm⟩
          · rw [if_neg z] at h2 ⊢
            exact .inl h2
      · exact .inr ⟨b, List.mem_cons_of_mem _ hb, hi, e⟩
/-- the greatest of the costs, or 1 -/
theorem half_max {W : Wd} (hW : W.Ok) {p : Pl} {m : Int} {ns : List Int} (en : ns = (W.areas.filter fun a => inArea W.level a p).map fun a => a.getD 6 0) (h0 : ns = [] → m = 1) (h1 : ns ≠ [] → m ∈ ns ∧ ∀ y ∈ ns, y ≤ m) : m = W.half p := by
  obtain ⟨k1, k2⟩ := halfOf_at W.level W.areas p 1
  have k3 := W.half_pos p
  have mem : ∀ a ∈ W.areas, inArea W.level a p = true → a.getD 6 0 ∈ ns := fun a ha hi => by
    rw [en]
    exact List.mem_map.mpr ⟨a, List.mem_filter.mpr ⟨ha, hi⟩, rfl⟩
  have back : ∀ y ∈ ns, ∃ a ∈ W.areas, inArea W.level a p = true ∧ a.getD 6 0 = y := fun y hy => by
    rw [en] at hy
    obtain ⟨a, ha, e⟩ := List.mem_map.mp hy
    obtain ⟨ha, hi⟩ := List.mem_filter.mp ha
    exact ⟨a, ha, hi, e⟩
  show m = halfOf W.level W.areas p 1
  by_cases e : ns = []
  · rw [h0 e]
    rcases k2 with k2 | ⟨a, ha, hi, _⟩
    · exact k2.symm
    · have := mem a ha hi
      rw [e] at this
      cases this
  · obtain ⟨hm, hall⟩ := h1 e
    obtain ⟨a, ha, hi, ea⟩ := back m hm
    have u1 := k1 a ha hi
    have ge1 := (hW.area a ha).2.2.1
    have : halfOf W.level W.areas p 1 ≤ m := by
      rcases k2 with k2 | ⟨b, hb, hj, eb⟩
      · rw [k2]; omega
      · rw [← eb]; exact hall _ (mem b hb hj)
    omega
section
variable {P : Program} {w : World} {K : PySem.W.Frag} {mg : Str → Option Value} {base : Heap} {T : TbT} {ex : List Addr} {C : Addr}
theorem scMeets : FnScope ["settings", "area", "i", "k", "cell", "across"] ["settings", "area", "i", "k"] (defScope sMeets) := ⟨rfl, rfl, rfl, by decide +kernel, rfl, by decide +kernel, by decide +kernel⟩
theorem ok_meets {f : Addr} {fd : FuncData} (F : FnP K "meets" "meets" sMeets f fd) (cl : Cls K C) (nC : NoAttr K C "cell") : FnOk P w K mg base CX0 1 f fd ["settings", "area", "i", "k"] (spMeets C) := by
  refine fn_rule F scMeets (fun vs H Q E h => ?_) (fun cdv A outer s H vs Q E hr h => ?_)
  · obtain ⟨sA, aA, rise, level, a, i, k, rfl, _⟩ := h
    rfl
  · obtain ⟨sA, aA, rise, level, a, i, k, rfl, hS, ha, hl, q⟩ := h
    obtain ⟨dx, fs, hSo, _, hCe, _⟩ := id hS.ob
    refine ⟨_, pss_cons (ps_set (i := 4) scMeets.nd rfl (Or.inl rfl) (pe_fld (pv 0) rfl))
      (pss_cons (ps_set (i := 5) scMeets.nd rfl (Or.inl rfl) (pe_and (pe_cmpR op_le (pe_ix ix_tup (pv 1) pe_int (fun _ _ => rfl)) (pe_op op_mul (pe_op op_add (pv 2) pe_int) (pv 4)) (nomark _)) (pe_one (pe_cmpR op_ge (pe_ix ix_tup (pv 1) pe_int (fun _ _ => rfl)) (pe_op op_mul (pv 2) (pv 4)) (nomark _)))))
      (pss_one (ps_ret (pe_and (pv 5) (pe_and (pe_cmpR op_le (pe_ix ix_tup (pv 1) pe_int (fun _ _ => rfl)) (pe_op op_mul (pe_op op_add (pv 3) pe_int) (pv 4)) (nomark _)) (pe_one (pe_cmpR op_ge (pe_ix ix_tup (pv 1) pe_int (fun _ _ => rfl)) (pe_op op_mul (pv 3) (pv 4)) (nomark _)))))))), ?_⟩
    refine ⟨_, rfl, sA, C, dx, fs, _, rfl, hSo, cl, nC, hCe, ?_⟩
    refine ⟨_, rfl, aA, _, _, _, rfl, rfl, SqT.of ha, atD (j := 0) rfl hl (by decide), _, rfl, _, _, rfl, rfl, _, rfl, _, _, rfl, rfl, .inr ⟨by decide, by decide⟩, _, _, rfl, rfl, _, rfl, ?_⟩
    refine iteB (fun h1 => ?_) (fun h1 => ?_)
    · refine ⟨_, rfl, aA, _, _, _, rfl, rfl, SqT.of ha, atD (j := 2) rfl hl (by decide), _, rfl, _, rfl, _, _, rfl, rfl, .inr ⟨by decide, by decide⟩, _, _, rfl, rfl, ?_⟩
      refine ⟨_, rfl, _, rfl, ?_⟩
      refine iteB (fun h2 => ?_) (fun h2 => ?_)
      · refine ⟨_, rfl, aA, _, _, _, rfl, rfl, SqT.of ha, atD (j := 1) rfl hl (by decide), _, rfl, _, _, rfl, rfl, _, rfl, _, _, rfl, rfl, .inr ⟨by decide, by decide⟩, _, _, rfl, rfl, _, rfl, ?_⟩
        refine iteB (fun h3 => ?_) (fun h3 => ?_)
        · refine ⟨_, rfl, aA, _, _, _, rfl, rfl, SqT.of ha, atD (j := 3) rfl hl (by decide), _, rfl, _, rfl, _, _, rfl, rfl, .inr ⟨by decide, by decide⟩, _, _, rfl, rfl, ?_⟩
          have e : meetsB a i k = decide (k * 4 ≤ a.getD 3 0) := by
            unfold meetsB
            rw [h1, h2, h3]
            rfl
          rw [e] at q
          exact q
        · have e : meetsB a i k = false := by
            unfold meetsB
            rw [h1, h2, h3]
            rfl
          rw [e] at q
          exact q
      · have e : meetsB a i k = false := by
          unfold meetsB
          rw [h1, h2]
          rfl
        rw [e] at q
        exact q
    · have e : meetsB a i k = false := by
        unfold meetsB
        rw [h1]
        rfl
      rw [e] at q
      refine ⟨_, rfl, _, rfl, iteF q⟩
def nFloorCost : List Str := ["settings", "areas", "place", "i", "k", "level", "height", "found", "area"]
theorem scFloorCost : FnScope nFloorCost ["settings", "areas", "place"] (defScope sFloorCost) := ⟨rfl, rfl, rfl, by decide +kernel, rfl, by decide +kernel, by decide +kernel⟩
theorem ok_floor_cost {f : Addr} {fd : FuncData} (F : FnP K "floor_cost" "floor_cost" sFloorCost f fd) (cl : Cls K C) (nL : NoAttr K C "level") (DM : Df P w K mg base 1 "meets" ["settings", "area", "i", "k"] (spMeets C)) (mM : mg "max" = none) :
    FnOk P w K mg base CX0 2 f fd ["settings", "areas", "place"] (spFloorCost C T ex) := by
  refine fn_rule F scFloorCost (fun vs H Q E h => ?_) (fun cdv A outer s H vs Q E hr h => ?_)
  · obtain ⟨sA, aA, pA, W, p, rfl, _⟩ := h
    rfl
  · obtain ⟨sA, aA, pA, W, p, rfl, g, hW, hS, hA, hp, q⟩ := h
    obtain ⟨dx, fs, hSo, _, _, hLe⟩ := id hS.ob
    obtain ⟨L, eL, hAl, hAt⟩ := id hA
    refine ⟨_, pss_cons (ps_asg (pv 2) (pg_tup (by rfl) (pgs_cons (pg_name (i := 3) scFloorCost.nd rfl (.inr rfl)) (pgs_cons (pg_name (i := 4) scFloorCost.nd rfl (.inr rfl)) (pgs_cons (pg_name (i := 5) scFloorCost.nd rfl (.inl rfl)) pgs_nil)))))
      (pss_cons (ps_set (i := 6) scFloorCost.nd rfl (Or.inr rfl) (pe_op op_mul (pv 5) (pe_fld (pv 0) rfl)))
      (pss_cons (ps_setLc (i := 7) (own := [("area", 8)]) (g := gName 8) rfl scFloorCost.nd rfl rfl (sw_true rfl rfl rfl (by decide +kernel)) (pi_list (pv 1)) (blkOk_by (N := nFloorCost) (sc := defScope sFloorCost) (by decide +kernel)) (fun _ _ _ _ _ => pg_name (i := 8) scFloorCost.nd rfl (Or.inl rfl))
        (fun _ _ _ _ _ => pts_one (PW.pt (pw_and (pt_chain op_le op_le (pe_ix (ix_tupK (K := K)) (pv 8) pe_int (fun _ _ => rfl)) (pv 6) (pe_ix (ix_tupK (K := K)) (pv 8) pe_int (fun _ _ => rfl))) (pw_and1 (pt_val (pe_df DM hr rfl (pa_cons (pv 0) (pa_cons (pv 8) (pa_cons (pv 3) (pa_cons (pv 4) pa_nil))))))))))
        (fun _ _ _ _ _ => pe_ix (ix_tupK (K := K)) (pv 8) pe_int (fun _ _ => rfl)))
      (pss_one (ps_ret (pe_callBK (call_maxD rfl hr.units) (by rfl) mM (by decide +kernel) (pa_cons (pv 7) pa_nil) (pk_cons pe_int pk_nil)))))), ?_⟩
    -- i, k, level = place; height = level * settings.level
    refine ⟨_, rfl, pA, p.v, rfl, SqT.of hp, rfl, _, _, rfl, _, _, rfl, _, _, rfl, rfl, ?_⟩
    refine ⟨_, rfl, _, rfl, sA, C, dx, fs, _, rfl, hSo, cl, nL, hLe, _, _, rfl, rfl, .inr ⟨by have := hW.level; omega, by have := hW.level; omega⟩, ?_⟩
    -- found = [..]
    refine ⟨_, rfl, aA, rfl, ⟨_, hAl.sq⟩, fun D hD => ?_⟩
    have nD := g.ne hD
    refine lc_list (K := K) (a := aA) (xs := L.map fun q => V.ref q.1) (fun i H' => EX T ex H H' ∧ H' D = some (.lst ((((W.areas.take i).filter fun a => inArea W.level a p).map fun a => a.getD 6 0).map V.int)))
      ⟨EX.new hD, upd_same⟩ (fun i H' _ h => (h.1.li hAl).sq) ?_ ?_
    · rintro i y H' hi ⟨e1, hDl⟩
      rw [List.getElem?_map] at hi
      cases eq : L[i]? with
      | none => rw [eq] at hi; cases hi
      | some z =>
        rw [eq] at hi
        obtain rfl : V.ref z.1 = y := Option.some.inj hi
        have hz := e1.tup g (hAt z (List.mem_of_getElem? eq))
        have haz : W.areas[i]? = some z.2 := by rw [eL, List.getElem?_map, eq]; rfl
        have h7 := (hW.area z.2 (List.mem_of_getElem? haz)).1
        have hSo' := e1.ins g hSo
        have htake : W.areas.take (i + 1) = W.areas.take i ++ [z.2] := by rw [List.take_succ, haz]; rfl
        have no : inArea W.level z.2 p = false → EX T ex H H' ∧ H' D = some (.lst ((((W.areas.take (i + 1)).filter fun a => inArea W.level a p).map fun a => a.getD 6 0).map V.int)) := fun hf => by
          refine ⟨e1, ?_⟩
          rw [htake, List.filter_append, List.filter_cons, hf]
          simp only [Bool.false_eq_true, if_false, List.filter_nil, List.append_nil]
          exact hDl
        refine ⟨rfl, _, rfl, z.1, _, _, _, rfl, rfl, SqT.of hz, atD (j := 4) rfl h7 (by decide), _, rfl, _, _, rfl, rfl, _, rfl, ?_⟩
        refine iteB (fun h1 => ?_) (fun h1 => ?_)
        · refine ⟨_, rfl, z.1, _, _, _, rfl, rfl, SqT.of hz, atD (j := 5) rfl h7 (by decide), _, _, rfl, rfl, _, rfl, ?_⟩
          refine iteB (fun h2 => ?_) (fun h2 => ?_)
          · refine ⟨_, rfl, _, rfl, _, rfl, _, rfl, sA, z.1, W.rise, W.level, z.2, p.1, p.2.1, rfl, e1.sta g hS, hz, h7, _, rfl, ?_⟩
            have ein : inArea W.level z.2 p = meetsB z.2 p.1 p.2.1 := by
              unfold inArea meetsB
              rw [h1, h2]
              rfl
            refine iteB (fun h3 => ?_) (fun h3 => ?_)
            · refine ⟨_, rfl, z.1, _, _, _, rfl, rfl, SqT.of hz, atD (j := 6) rfl h7 (by decide), _, hDl, ?_, e1.put (FrN.none hD) hDl rfl nD, ?_⟩
              · rw [List.length_map, List.length_map]
                have h5 := List.length_filter_le (fun a => inArea W.level a p) (W.areas.take i)
                have h6 := (List.take_sublist i W.areas).length_le
                have := hW.afew
                exact Nat.lt_of_le_of_lt (show _ ≤ 1000 by omega) (by decide)
              · rw [upd_same, htake, List.filter_append, List.filter_cons, ein, h3]
                simp only [if_true, List.filter_nil, List.map_append, List.map_cons, List.map_nil]
            · exact no (ein.trans h3)
          · refine iteF (no ?_)
            unfold inArea
            rw [h1, h2]
            rfl
        · refine ⟨_, rfl, iteF (no ?_)⟩
          unfold inArea
          rw [h1]
          rfl
    · rintro H' ⟨e1, hDl⟩
      rw [List.length_map] at hDl
      have hlen : L.length = W.areas.length := by rw [eL, List.length_map]
      rw [hlen, List.take_length] at hDl
      refine ⟨_, rfl, D, _, 1, rfl, rfl, SqL.of hDl, fun m h0 h1 => ?_⟩
      rw [half_max hW rfl h0 h1]
      exact q H' e1
end
end K76
namespace K76
open PySem PySem.Spec PyProof.Rows L2 LamX
/-- a dict comprehension over a walk, by a word of the turn and the heap -/
theorem dcT_it {J : It} {n : Nat} {G : Hp → Prop} {Y : Nat → Hp → V → Hp → Prop} (w : Walk J n G Y) {g : TG} {tt : TT} {tk tv : TE} {vs : List Nat} {σ : L2.St} {H1 : Hp} {D : Addr} {Qd : Hp → Prop} (Pv : Nat → Hp → Prop) (h0 : Pv 0 (upd H1 D (.dT []))) (hG : ∀ i H, i ≤ n → Pv i H → G H)
    (hs : ∀ i x H H', i < n → Pv i H → Y i H x H' → g x (wipe σ vs) H' fun σ2 H2 => wipe σ2 vs = wipe σ vs ∧ tt σ2 H2 fun b H3 =>
      if b = true then tk σ2 H3 fun y H4 => tv σ2 H4 fun z H5 => ∃ kvs k b, y = .ref b ∧ H5 D = some (.dT kvs) ∧ H5 b = some (.tup (k.map kV)) ∧ kvs.length < sizeLine ∧ Pv (i + 1) (upd H5 D (.dT (putK kvs k z))) else Pv (i + 1) H3) (hd : ∀ H, Pv n H → Qd H) :
    ∃ W : Nat → Nat → Hp → Prop, (∃ m, W 0 m (upd H1 D (.dT []))) ∧ ∀ i m H, W i m H →
      (J.stop i H ∧ Qd H) ∨ (J.go i H ∧ ∃ Nx : Hp → Prop, (∀ H', Nx H' → ∃ m', m' < m ∧ W (i + 1) m' H') ∧ ∀ x H', J.yld i H x H' → g x (wipe σ vs) H' fun σ2 H2 => wipe σ2 vs = wipe σ vs ∧ tt σ2 H2 fun b H3 =>
        if b = true then tk σ2 H3 fun y H4 => tv σ2 H4 fun z H5 => ∃ kvs k b, y = .ref b ∧ H5 D = some (.dT kvs) ∧ H5 b = some (.tup (k.map kV)) ∧ kvs.length < sizeLine ∧ Nx (upd H5 D (.dT (putK kvs k z))) else Nx H3) := by
  refine ⟨fun i m H => m = n - i ∧ i ≤ n ∧ Pv i H, ⟨n, by simp, Nat.zero_le _, h0⟩, fun i m H ⟨em, hi, p⟩ => ?_⟩
  subst em
  have q := hG i H hi p
  by_cases hlt : i < n
  · exact .inr ⟨w.goes i H hlt q, Pv (i + 1), fun H' p' => ⟨n - (i + 1), by omega, rfl, hlt, p'⟩, fun x H' y => hs i x H H' hlt p (w.yields i H x H' hlt q y)⟩
  · have e : n = i := by omega
    subst e
    exact .inl ⟨w.stops H q, hd H p⟩
theorem gfs_put (s f a : Addr) (c : Int) : putF "climb" (.int c) (putF "areas" (.ref a) (putF "floors" (.ref f) (putF "settings" (.ref s) []))) = gfs s f a c := by
  have n1 : ¬ ("settings" : Str) = "floors" := by decide +kernel
  have n2 : ¬ ("settings" : Str) = "areas" := by decide +kernel
  have n3 : ¬ ("settings" : Str) = "climb" := by decide +kernel
  have n4 : ¬ ("floors" : Str) = "areas" := by decide +kernel
  have n5 : ¬ ("floors" : Str) = "climb" := by decide +kernel
  have n6 : ¬ ("areas" : Str) = "climb" := by decide +kernel
  simp only [putF, if_neg n1, if_neg n2, if_neg n3, if_neg n4, if_neg n5, if_neg n6]
  rfl
section
variable (s f a : Addr) (c : Int)
theorem gfs_look (x : Str) : (gfs s f a c).lookup x = if x = "settings" then some (.ref s) else if x = "floors" then some (.ref f) else if x = "areas" then some (.ref a) else if x = "climb" then some (.int c) else none := by
  rw [← gfs_put, lookup_putF, lookup_putF, lookup_putF, lookup_putF]
  by_cases h1 : x = "climb"
  · subst h1
    rw [if_pos rfl, if_neg (by decide +kernel), if_neg (by decide +kernel), if_neg (by decide +kernel), if_pos rfl]
  · rw [if_neg h1]
    by_cases h2 : x = "areas"
    · subst h2
      rw [if_pos rfl, if_neg (by decide +kernel), if_neg (by decide +kernel), if_pos rfl]
    · rw [if_neg h2]
      by_cases h3 : x = "floors"
      · subst h3
        rw [if_pos rfl, if_neg (by decide +kernel), if_pos rfl]
      · rw [if_neg h3, if_neg h3, if_neg h2, if_neg h1]
        rfl
theorem gfs_s : (gfs s f a c).lookup ("settings" : Str) = some (.ref s) := by rw [gfs_look, if_pos rfl]
theorem gfs_f : (gfs s f a c).lookup ("floors" : Str) = some (.ref f) := by rw [gfs_look, if_neg (by decide +kernel), if_pos rfl]
theorem gfs_a : (gfs s f a c).lookup ("areas" : Str) = some (.ref a) := by rw [gfs_look, if_neg (by decide +kernel), if_neg (by decide +kernel), if_pos rfl]
theorem gfs_c : (gfs s f a c).lookup ("climb" : Str) = some (.int c) := by rw [gfs_look, if_neg (by decide +kernel), if_neg (by decide +kernel), if_neg (by decide +kernel), if_pos rfl]
theorem gfs_no {x : Str} (h1 : ¬ x = "settings") (h2 : ¬ x = "floors") (h3 : ¬ x = "areas") (h4 : ¬ x = "climb") : (gfs s f a c).lookup x = none := by rw [gfs_look, if_neg h1, if_neg h2, if_neg h3, if_neg h4]
end
section
variable {T : TbT} {ex : List Addr} {H0 H1 H' : Hp} {d : Addr} {u m : HO}
theorem Gd.upd (g : Gd T ex H0) (h0 : H0 d = some u) (hu : stO u = true) : Gd T ex (L2.upd H0 d m) :=
  g.same (tabs_upd g.tabs (fun o e => by rw [h0] at e; cases e; exact stO_nT hu)) fun b hb xs e => by
    have n : b ≠ d := fun z => g.neO h0 hu (z ▸ hb)
    rw [upd_ne n]
    exact e
/-- an object that stays is locked .. -/
theorem EX.lockIn (e : EX T ex H0 H1) (g : Gd T ex H0) (h0 : H0 d = some u) (hu : stO u = true) : EX T ex (L2.upd H0 d m) (L2.upd H1 d m) :=
  ⟨fun b o eb hb ho => by
    by_cases n : b = d
    · rw [n, upd_same] at eb ⊢
      exact eb
    · rw [upd_ne n] at eb ⊢
      exact e.k b o eb hb ho, fun _ => (e.g g).upd (e.keep g h0 hu) hu⟩
/-- .. and freed again -/
theorem EX.lockOut (e : EX T ex (L2.upd H0 d m) H') (g : Gd T ex H0) (h0 : H0 d = some u) (hu : stO u = true) (hm : stO m = true) (hd : H' d = some m) : EX T ex H0 (L2.upd H' d u) :=
  ⟨fun b o eb hb ho => by
    by_cases n : b = d
    · rw [n, h0] at eb
      rw [n, upd_same]
      exact eb
    · rw [upd_ne n]
      exact e.k b o (by rw [upd_ne n]; exact eb) hb ho, fun _ => (e.g (g.upd h0 hu)).upd hd hm⟩
end
def spGInit (G C : Addr) (T : TbT) (ex : List Addr) : Sp := fun vs H Q _ => ∃ (H0 : Hp) (self dx sA fA aA : Addr) (W : Wd), vs = [.ref self, .ref sA, .ref fA, .ref aA, .int W.climb] ∧ EX T ex H0 H ∧ Gd T ex H0 ∧ FrN H0 self ∧ self ∉ ex ∧ H self = some (.ins G dx []) ∧ W.Ok ∧
  StAt C H0 sA W.rise W.level ∧ FlsAt ex H0 fA W.cells ∧ ArsAt ex H0 aA W.areas ∧ ∀ H', EX T ex H0 H' → GrAt G C ex H' self W → Q .non H'
def spHas (G C : Addr) (T : TbT) (ex : List Addr) : Sp := fun vs H Q _ => ∃ (gA pA : Addr) (W : Wd) (p : Pl), vs = [.ref gA, .ref pA] ∧ Gd T ex H ∧ W.Ok ∧ GrAt G C ex H gA W ∧ PlAt H pA p ∧
  ∀ b H', EX T ex H H' → (b = true ↔ W.fl p) → Q (.bl b) H'
def spStepCost (G C : Addr) (T : TbT) (ex : List Addr) : Sp := fun vs H Q _ => ∃ (gA oA tA : Addr) (W : Wd) (p q : Pl), vs = [.ref gA, .ref oA, .ref tA] ∧ Gd T ex H ∧ W.Ok ∧ GrAt G C ex H gA W ∧ PlAt H oA p ∧ PlAt H tA q ∧
  ∀ H', EX T ex H H' → Q (.int (W.cost p q)) H'
/-- what the list of steps tells -/
def StepsOf (W : Wd) (p : Pl) (es : List (Pl × Int)) : Prop := es.length ≤ 100 ∧ ∀ q c, (q, c) ∈ es ↔ W.E p q c
def spSteps (G C : Addr) (T : TbT) (ex : List Addr) : Sp := fun vs H Q _ => ∃ (gA pA : Addr) (W : Wd) (p : Pl), vs = [.ref gA, .ref pA] ∧ Gd T ex H ∧ W.Ok ∧ GrAt G C ex H gA W ∧ PlAt H pA p ∧
  ∀ (l : Addr) (es : List (Pl × Int)) H', EX T ex H H' → StsAt ex H' l es → StepsOf W p es → Q (.ref l) H'
def spJoined (G C : Addr) (T : TbT) (ex : List Addr) : Sp := fun vs H Q _ => ∃ (gA oA tA : Addr) (W : Wd) (p q : Pl), vs = [.ref gA, .ref oA, .ref tA] ∧ Gd T ex H ∧ W.Ok ∧ GrAt G C ex H gA W ∧ PlAt H oA p ∧ PlAt H tA q ∧
  ∀ H', EX T ex H H' → (∀ c, W.J p q = some c → Q (.int c) H') ∧ (W.J p q = none → Q .non H')
section
variable {P : Program} {w : World} {K : PySem.W.Frag} {mg : Str → Option Value} {base : Heap} {T : TbT} {ex : List Addr} {G C : Addr}
structure GTxt (K : PySem.W.Frag) (G : Addr) : Prop where
  cl : Cls K G
  nS : NoAttr K G "settings"
  nF : NoAttr K G "floors"
  nA : NoAttr K G "areas"
  nC : NoAttr K G "climb"
def nGInit : List Str := ["self", "settings", "floors", "areas", "climb", "cell"]
theorem scGInit : FnScope nGInit ["self", "settings", "floors", "areas", "climb"] (defScope sGInit) := ⟨rfl, rfl, rfl, by decide +kernel, rfl, by decide +kernel, by decide +kernel⟩
theorem ok_ginit {f : Addr} {fd : FuncData} (F : FnP K "__init__" "Ground.__init__" sGInit f fd) (X : GTxt K G) (mL : mg "list" = none) : FnOk P w K mg base CX0 1 f fd ["self", "settings", "floors", "areas", "climb"] (spGInit G C T ex) := by
  refine fn_rule F scGInit (fun vs H Q E h => ?_) (fun cdv A outer s H vs Q E hr h => ?_)
  · obtain ⟨H0, self, dx, sA, fA, aA, W, rfl, _⟩ := h
    rfl
  · obtain ⟨H0, self, dx, sA, fA, aA, W, rfl, e0, g0, nS, nX, hself, hW, hS, hF, hA, q⟩ := h
    have hu := hu_of hr
    obtain ⟨L, eL, hFd, hFl⟩ := id hF
    obtain ⟨LA, eA, hAl, hAt⟩ := id hA
    refine ⟨_, pss_cons (ps_fld (pv 0) (pv 1) rfl)
      (pss_cons (ps_fld (pv 0) (pe_lock (pe_dcT (own := [("cell", 5)]) (g := gName 5) (tt := tYes) rfl hr.units0 scGInit.nd (pi_keys (pv 2)) (blkOk_by (N := nGInit) (sc := defScope sGInit) (by decide +kernel)) (fun _ _ _ _ _ => pg_name (i := 5) scGInit.nd rfl (Or.inl rfl)) (fun _ _ _ _ _ => pts_nil) (fun _ _ _ _ _ => pv 5)
        (fun _ _ _ _ _ => pe_callTy (r := fun xs H Q => ∃ p ys, xs = [.ref p] ∧ (SqL K H p ys ∨ SqT K H p ys) ∧ ∀ l, H l = none → Q (.ref l) (upd H l (.lst ys))) call_list_of (by rfl) mL (by decide +kernel) (pa_cons (pe_dget hu (pv 2) (pv 5) (fun _ _ => rfl)) pa_nil)))) rfl)
      (pss_cons (ps_fld (pv 0) (pe_callTy call_list_of (by rfl) mL (by decide +kernel) (pa_cons (pv 3) pa_nil)) rfl)
      (pss_one (ps_fld (pv 0) (pv 4) rfl)))), ?_⟩
    -- self.settings = settings
    refine ⟨_, rfl, _, rfl, self, G, dx, [], rfl, hself, X.cl, X.nS, (by show 0 < 1000; decide), ?_⟩
    have ea := e0.put (o := .ins G dx (putF "settings" (.ref sA) [])) nS hself rfl nX
    have ha : upd H self (.ins G dx (putF "settings" (.ref sA) [])) self = some (.ins G dx (putF "settings" (.ref sA) [])) := upd_same
    generalize upd H self (.ins G dx (putF "settings" (.ref sA) [])) = Ha at ea ha ⊢
    -- the comprehension, floors locked
    refine ⟨fA, _, ea.dT g0 hFd, trivial, fun od => ?_⟩
    have nSF : self ≠ fA := ne_of ha (ea.dT g0 hFd) (by intro z; cases z)
    have eb := ea.lockIn (m := .frz od (.dT (L.map fun q => (ck q.1, V.ref q.2.1)))) g0 hFd rfl
    have hb : upd Ha fA (.frz od (.dT (L.map fun q => (ck q.1, V.ref q.2.1)))) self = some (.ins G dx (putF "settings" (.ref sA) [])) := by rw [upd_ne nSF]; exact ha
    have hbF : upd Ha fA (.frz od (.dT (L.map fun q => (ck q.1, V.ref q.2.1)))) fA = some (.frz od (.dT (L.map fun q => (ck q.1, V.ref q.2.1)))) := upd_same
    have g1 : Gd T ex (upd H0 fA (.frz od (.dT (L.map fun q => (ck q.1, V.ref q.2.1))))) := g0.upd hFd rfl
    have hFl1 : ∀ q ∈ L, LI ex (upd H0 fA (.frz od (.dT (L.map fun q => (ck q.1, V.ref q.2.1))))) q.2.1 (q.2.2.map V.int) := fun q hq => ⟨by rw [upd_ne (ne_of (hFl q hq).1 hFd (by intro z; cases z))]; exact (hFl q hq).1, (hFl q hq).2⟩
    have h0F : upd H0 fA (.frz od (.dT (L.map fun q => (ck q.1, V.ref q.2.1)))) fA = some (.frz od (.dT (L.map fun q => (ck q.1, V.ref q.2.1)))) := upd_same
    have hself1 : FrN (upd H0 fA (.frz od (.dT (L.map fun q => (ck q.1, V.ref q.2.1))))) self := fun o eo => nS o (by rw [upd_ne nSF] at eo; exact eo)
    generalize hH1 : upd H0 fA (.frz od (.dT (L.map fun q => (ck q.1, V.ref q.2.1)))) = H1 at eb g1 hFl1 h0F hself1
    generalize upd Ha fA (.frz od (.dT (L.map fun q => (ck q.1, V.ref q.2.1)))) = Hb at eb hb hbF ⊢
    have ndL : (L.map (·.1)).Nodup := by
      have := hW.nd
      rw [eL, List.map_map] at this
      exact this
    refine ⟨_, rfl, fA, od, rfl, .inr ⟨_, hbF, fun D hD => ?_⟩⟩
    have nD : D ∉ ex := (eb.g g1).ne hD
    have fD : FrN H1 D := eb.back (FrN.none hD) nD
    have nDs : D ≠ self := fun z => by rw [z, hb] at hD; cases hD
    have nDF : D ≠ fA := fun z => by rw [z, hbF] at hD; cases hD
    refine dcT_it walk_keysT (fun i H' => EX T ex H1 H' ∧ H' self = some (.ins G dx (putF "settings" (.ref sA) [])) ∧ ∃ M : List ((Int × Int) × Addr × List Int), M.map (fun q => (q.1, q.2.2)) = W.cells.take i ∧ H' D = some (.dT (M.map fun q => (ck q.1, V.ref q.2.1))) ∧ ∀ q ∈ M, LI ex H' q.2.1 (q.2.2.map V.int))
      ⟨eb.trans (EX.new hD), by rw [upd_ne nDs.symm]; exact hb, [], rfl, upd_same, fun q hq => nomatch hq⟩ (fun i H' _ h => h.1.keep g1 h0F rfl) ?_ ?_
    · rintro i y H2 H2' hi ⟨e2, s2, M, m1, m2, m3⟩ ⟨rfl, kk, vv, qA, hk, rfl, hq⟩
      rw [List.getElem?_map] at hk
      cases ez : L[i]? with
      | none => rw [ez] at hk; cases hk
      | some z =>
        rw [ez] at hk
        cases hk
        have hz := List.mem_of_getElem? ez
        have hv : valV (L.map fun q => (ck q.1, V.ref q.2.1)) (ck z.1) = some (.ref z.2.1) := by
          rw [valV_lk (β := Addr × List Int) ck (fun q => V.ref q.1) (fun a b => ck_inj) L, lk_of_mem (v := z.2) ndL hz]
          rfl
        refine ⟨rfl, ?_⟩
        refine ⟨_, rfl, _, rfl, _, rfl, fA, .ref z.2.1, rfl, .inr ⟨_, ck z.1, qA, .inr ⟨od, e2.keep g1 h0F rfl⟩, rfl, hq, hv.symm⟩, z.2.1, _, rfl, .inl (e2.li (hFl1 z hz)).sq, fun l hl => ?_⟩
        have nDl : D ≠ l := ne_of_none m2 hl
        have hci : W.cells[i]? = some (z.1, z.2.2) := by rw [eL, List.getElem?_map, ez]; rfl
        have ht : W.cells.take (i + 1) = W.cells.take i ++ [(z.1, z.2.2)] := by rw [List.take_succ, hci]; rfl
        have hnew : valV (M.map fun q => (ck q.1, V.ref q.2.1)) (ck z.1) = none := by
          rw [valV_lk (β := Addr × List Int) ck (fun q => V.ref q.1) (fun a b => ck_inj) M]
          have : lk M z.1 = none := by
            cases e : lk M z.1 with
            | none => rfl
            | some x =>
              exfalso
              have h1 : (z.1, x.2) ∈ W.cells.take i := by
                rw [← m1]
                exact List.mem_map.mpr ⟨_, lk_mem e, rfl⟩
              have h2 := hW.nd
              have h3 : (W.cells.take (i + 1)).map (·.1) = (W.cells.take i).map (·.1) ++ [z.1] := by rw [ht, List.map_append]; rfl
              have h4 : ((W.cells.take (i + 1)).map (·.1)).Nodup := h2.sublist (List.Sublist.map _ (List.take_sublist _ _))
              rw [h3, List.nodup_append] at h4
              exact h4.2.2 z.1 (List.mem_map.mpr ⟨_, h1, rfl⟩) z.1 (by simp) rfl
          rw [this]
          rfl
        have e3 : EX T ex H1 (upd H2' l (.lst (z.2.2.map V.int))) := e2.trans (EX.new hl)
        have hD3 : upd H2' l (.lst (z.2.2.map V.int)) D = some (.dT (M.map fun q => (ck q.1, V.ref q.2.1))) := by rw [upd_ne nDl]; exact m2
        have hl3 : LI ex (upd H2' l (.lst (z.2.2.map V.int))) l (z.2.2.map V.int) := LI.new (e2.g g1) hl
        have hs3 : upd H2' l (.lst (z.2.2.map V.int)) self = some (.ins G dx (putF "settings" (.ref sA) [])) := by rw [upd_ne (ne_of_none s2 hl)]; exact s2
        have hq3 : upd H2' l (.lst (z.2.2.map V.int)) qA = some (.tup ((ck z.1).map kV)) := by rw [upd_ne (ne_of_none hq hl)]; exact hq
        have hm3 : ∀ q ∈ M, LI ex (upd H2' l (.lst (z.2.2.map V.int))) q.2.1 (q.2.2.map V.int) := fun q hq => ⟨by rw [upd_ne (ne_of_none (m3 q hq).1 hl)]; exact (m3 q hq).1, (m3 q hq).2⟩
        generalize upd H2' l (.lst (z.2.2.map V.int)) = H3 at e3 hD3 hl3 hs3 hq3 hm3 ⊢
        have nl : ∀ a xs, LI ex H3 a xs → a ≠ D := fun a xs h => ne_of h.1 hD3 (by intro z; cases z)
        refine ⟨_, ck z.1, qA, rfl, hD3, hq3, ?_, e3.put fD hD3 rfl nD, by rw [upd_ne nDs.symm]; exact hs3, M ++ [(z.1, l, z.2.2)], ?_, ?_, ?_⟩
        · rw [List.length_map]
          have h1 := congrArg List.length m1
          rw [List.length_map] at h1
          have h2 := (List.take_sublist i W.cells).length_le
          have h3 := hW.few
          exact Nat.lt_of_le_of_lt (show _ ≤ 1000 by omega) (by decide)
        · rw [List.map_append, m1, ht]
          rfl
        · rw [upd_same, putK_new _ hnew, List.map_append]
          rfl
        · intro q hq
          rcases List.mem_append.mp hq with h | h
          · exact ⟨by rw [upd_ne (nl _ _ (hm3 q h))]; exact (hm3 q h).1, (hm3 q h).2⟩
          · rw [List.mem_singleton] at h
            rw [h]
            exact ⟨by rw [upd_ne (nl _ _ hl3)]; exact hl3.1, hl3.2⟩
    · rintro H2 ⟨e2, s2, M, m1, m2, m3⟩
      have hLl : L.length = W.cells.length := by rw [eL, List.length_map]
      rw [List.length_map, hLl, List.take_length] at m1
      have hF2 := e2.keep g1 h0F rfl
      refine ⟨hF2, ?_⟩
      rw [← hH1] at e2
      have e3 := e2.lockOut g0 hFd rfl rfl hF2
      have s3 : upd H2 fA (.dT (L.map fun q => (ck q.1, V.ref q.2.1))) self = some (.ins G dx (putF "settings" (.ref sA) [])) := by rw [upd_ne nSF]; exact s2
      have D3 : upd H2 fA (.dT (L.map fun q => (ck q.1, V.ref q.2.1))) D = some (.dT (M.map fun q => (ck q.1, V.ref q.2.1))) := by rw [upd_ne nDF]; exact m2
      have M3 : ∀ q ∈ M, LI ex (upd H2 fA (.dT (L.map fun q => (ck q.1, V.ref q.2.1)))) q.2.1 (q.2.2.map V.int) := fun q hq => ⟨by rw [upd_ne (ne_of (m3 q hq).1 hF2 (by intro z; cases z))]; exact (m3 q hq).1, (m3 q hq).2⟩
      generalize upd H2 fA (.dT (L.map fun q => (ck q.1, V.ref q.2.1))) = H3 at e3 s3 D3 M3 ⊢
      -- the store
      refine ⟨_, rfl, self, G, dx, _, rfl, s3, X.cl, X.nF, (by show 1 < 1000; decide), ?_⟩
      have e4 := e3.put (o := .ins G dx (putF "floors" (.ref D) (putF "settings" (.ref sA) []))) nS s3 rfl nX
      have s4 : upd H3 self (.ins G dx (putF "floors" (.ref D) (putF "settings" (.ref sA) []))) self = some (.ins G dx (putF "floors" (.ref D) (putF "settings" (.ref sA) []))) := upd_same
      have D4 : upd H3 self (.ins G dx (putF "floors" (.ref D) (putF "settings" (.ref sA) []))) D = some (.dT (M.map fun q => (ck q.1, V.ref q.2.1))) := by rw [upd_ne nDs]; exact D3
      have M4 : ∀ q ∈ M, LI ex (upd H3 self (.ins G dx (putF "floors" (.ref D) (putF "settings" (.ref sA) [])))) q.2.1 (q.2.2.map V.int) := fun q hq => ⟨by rw [upd_ne (ne_of (M3 q hq).1 s3 (by intro z; cases z))]; exact (M3 q hq).1, (M3 q hq).2⟩
      generalize upd H3 self (.ins G dx (putF "floors" (.ref D) (putF "settings" (.ref sA) []))) = H4 at e4 s4 D4 M4 ⊢
      -- self.areas = list(areas)
      refine ⟨_, rfl, aA, _, rfl, .inl (e4.li hAl).sq, fun l hl => ?_⟩
      have g4 := e4.g g0
      have e5 : EX T ex H4 (upd H4 l (.lst (LA.map fun q => V.ref q.1))) := EX.new hl
      have l5 : LI ex (upd H4 l (.lst (LA.map fun q => V.ref q.1))) l (LA.map fun q => V.ref q.1) := LI.new g4 hl
      have s5 := e5.ins g4 s4
      have D5 := e5.dT g4 D4
      have M5 : ∀ q ∈ M, LI ex (upd H4 l (.lst (LA.map fun q => V.ref q.1))) q.2.1 (q.2.2.map V.int) := fun q hq => e5.li (M4 q hq)
      have e05 := e4.trans e5
      generalize upd H4 l (.lst (LA.map fun q => V.ref q.1)) = H5 at e05 l5 s5 D5 M5 ⊢
      refine ⟨_, rfl, self, G, dx, _, rfl, s5, X.cl, X.nA, (by show 2 < 1000; decide), ?_⟩
      refine ⟨_, rfl, _, rfl, self, G, dx, _, rfl, upd_same, X.cl, X.nC, (by show 3 < 1000; decide), ?_⟩
      rw [upd_upd, gfs_put]
      have e6 := e05.put (o := .ins G dx (gfs sA D l W.climb)) nS s5 rfl nX
      refine q _ e6 ⟨dx, sA, D, l, upd_same, e6.sta g0 hS, ⟨M, m1.symm, by rw [upd_ne nDs]; exact D5, fun q hq => ⟨by rw [upd_ne (ne_of (M5 q hq).1 s5 (by intro z; cases z))]; exact (M5 q hq).1, (M5 q hq).2⟩⟩, LA, eA, ⟨by rw [upd_ne (ne_of l5.1 s5 (by intro z; cases z))]; exact l5.1, l5.2⟩, fun q hq => e6.tup g0 (hAt q hq)⟩
end
end K76
namespace K76
open PySem PySem.Spec PyProof.Rows L2 LamX
theorem iteNN {x : V} {A B : Prop} (h : x ≠ .non) (a : A) : if (!decide (x = .non)) = true then A else B := by
  rw [decide_eq_false h]
  exact a
/-- the list of a cell's levels, or an empty one -/
theorem fls_get {K : PySem.W.Frag} {ex : List Addr} {H : Hp} {W : Wd} {l : Addr} {L : List ((Int × Int) × Addr × List Int)} (hW : W.Ok) (eL : W.cells = L.map fun q => (q.1, q.2.2)) (hFl : ∀ q ∈ L, LI ex H q.2.1 (q.2.2.map V.int)) (hl : H l = some (.lst [])) (c : Int × Int) :
    ∃ (a : Addr) (ls : List Int), (((lk L c).map fun q => V.ref q.1).getD (.ref l)) = .ref a ∧ SqL K H a (ls.map V.int) ∧ (∀ x, x ∈ ls ↔ W.fl (c.1, c.2, x)) := by
  cases e : lk L c with
  | none =>
    refine ⟨l, [], rfl, SqL.of hl, fun x => Iff.intro (fun h => nomatch h) fun ⟨ls, h1, _⟩ => ?_⟩
    have h2 : lk W.cells c = none := by
      rw [eL, lk_mapv (fun q : Addr × List Int => q.2), e]
      rfl
    exact absurd h1 (lk_none.mp h2 ls)
  | some q =>
    have hm := lk_mem e
    have h2 : lk W.cells c = some q.2 := by
      rw [eL, lk_mapv (fun q : Addr × List Int => q.2), e]
      rfl
    refine ⟨q.1, q.2, rfl, (hFl _ hm).sq, fun x => Iff.intro (fun h => ⟨q.2, lk_mem h2, h⟩) fun ⟨ls, h1, h3⟩ => ?_⟩
    have := lk_of_mem hW.nd h1
    rw [h2] at this
    cases this
    exact h3
theorem inV_ints (n : Int) : ∀ ls : List Int, inV (.int n) (ls.map V.int) = decide (n ∈ ls)
  | [] => rfl
  | a :: r => by
    show (eqV (.int a) (.int n) || inV (.int n) (r.map V.int)) = _
    rw [inV_ints n r]
    show ((a == n) || decide (n ∈ r)) = _
    by_cases h : a = n
    · subst h
      simp
    · have : ¬ n = a := fun z => h z.symm
      simp [h, this]
theorem flat_ints : ∀ ls : List Int, (ls.map V.int).all flatV = true
  | [] => rfl
  | a :: r => by
    rw [List.map_cons, List.all_cons, flat_ints r]
    rfl
/-! ### floors as data -/
def plD (p : Pl) : PyData := .tuple [.int p.1, .int p.2.1, .int p.2.2]
theorem PlAt.dp {K : PySem.W.Frag} {H : Hp} {b : Addr} {p : Pl} (h : PlAt H b p) : Dp K H (.ref b) (plD p) := .tup (SqT.of h) (.cons (.int _) (.cons (.int _) (.cons (.int _) .nil)))
theorem plD_shaped (p : Pl) : SeqAt.shaped (plD p) = true := by
  show ((plD p).canLay0 && decide ((plD p).depth ≤ 64)) = true
  simp [plD, PyData.canLay0, PyData.canLayAll0, PyData.depth, PyData.depthAll]
theorem plD_eqv (p q : Pl) : PyData.eqv (plD p) (plD q) = decide (p = q) := by
  obtain ⟨a, b, c⟩ := p
  obtain ⟨a', b', c'⟩ := q
  have e : PyData.eqv (plD (a, b, c)) (plD (a', b', c')) = ((a == a') && ((b == b') && ((c == c') && true))) := by simp only [plD, PyData.eqv, PyData.eqvAll]
  rw [e]
  by_cases h : ((a, b, c) : Pl) = (a', b', c')
  · cases h
    simp
  · rw [decide_eq_false h]
    simp only [Prod.mk.injEq, not_and] at h
    by_cases h1 : a = a'
    · by_cases h2 : b = b'
      · have h3 := h h1 h2
        simp [h3]
      · simp [h2]
    · simp [h1]
/-! ### the four sides -/
def dirs : List (Int × Int) := [(1, 0), (-1, 0), (0, 1), (0, -1)]
structure SdTxt (K : PySem.W.Frag) (mg : Str → Option Value) : Prop where
  ex : ∃ (sd : Addr) (as : List Addr), mg "SIDES" = some (.ref sd) ∧ as.length = 4 ∧ (∀ H, SqT K H sd (as.map V.ref)) ∧ ∀ (i : Nat) (a : Addr) (d : Int × Int), as[i]? = some a → dirs[i]? = some d → ∀ H, SqT K H a [.int d.1, .int d.2]
theorem adj_dirs {W : Wd} {p q : Pl} : W.adj p q ↔ (q.1 - p.1, q.2.1 - p.2.1) ∈ dirs ∧ ((q.2.2 - p.2.2).natAbs : Int) ≤ W.rise := by
  unfold Wd.adj dirs
  simp only [List.mem_cons, Prod.mk.injEq, List.not_mem_nil, or_false]
  constructor
  · rintro ⟨h1, h2⟩
    exact ⟨by omega, by omega⟩
  · rintro ⟨h1, h2⟩
    exact ⟨by omega, by omega⟩
theorem dirs_nodup : dirs.Nodup := by decide
theorem Wd.Ok.fl_uniq {W : Wd} (hW : W.Ok) {p q r : Pl} (hq : W.fl q) (hr : W.fl r) (h1 : q.1 = r.1) (h2 : q.2.1 = r.2.1) (a : ((q.2.2 - p.2.2).natAbs : Int) ≤ W.rise) (b : ((r.2.2 - p.2.2).natAbs : Int) ≤ W.rise) : q = r := by
  obtain ⟨i, k, l⟩ := q
  obtain ⟨i', k', l'⟩ := r
  obtain ⟨ls, c1, c2⟩ := hq
  obtain ⟨ls', c3, c4⟩ := hr
  obtain rfl : i = i' := h1
  obtain rfl : k = k' := h2
  have e1 := lk_of_mem hW.nd c1
  have e2 := lk_of_mem hW.nd c3
  rw [e1] at e2
  cases e2
  have hc := ((hW.cell _ c1).2.2.2.2.2 l c2).2.2 l' c4
  have hr := hW.rise
  have a : ((l - p.2.2).natAbs : Int) ≤ W.rise := a
  have b : ((l' - p.2.2).natAbs : Int) ≤ W.rise := b
  rw [hc (by omega) (by omega)]
section
variable {P : Program} {w : World} {K : PySem.W.Frag} {mg : Str → Option Value} {base : Heap} {T : TbT} {ex : List Addr} {G C : Addr}
theorem scHas : FnScope ["self", "place"] ["self", "place"] (defScope sGHas) := ⟨rfl, rfl, rfl, by decide +kernel, rfl, by decide +kernel, by decide +kernel⟩
theorem ok_has {f : Addr} {fd : FuncData} (F : FnP K "has" "Ground.has" sGHas f fd) (X : GTxt K G) : FnOk P w K mg base CX0 1 f fd ["self", "place"] (spHas G C T ex) := by
  refine fn_rule F scHas (fun vs H Q E h => ?_) (fun cdv A outer s H vs Q E hr h => ?_)
  · obtain ⟨gA, pA, W, p, rfl, _⟩ := h
    rfl
  · obtain ⟨gA, pA, W, p, rfl, g, hW, hG, hp, k⟩ := h
    have hu := hu_of hr
    refine ⟨_, pss_one (ps_ret (pe_cmpR op_in_seq (pe_ix ix_tup (pv 1) pe_int (fun _ _ => rfl)) (pe_dget2 hu (pe_fld (pv 0) rfl) (pe_slice sl_tup (pv 1) po_none (po_some pe_int)) (pe_lst pa_nil) ⟨rfl, rfl, rfl, rfl⟩) (by rfl))), ?_⟩
    obtain ⟨dx, sA, fA, aA, hGo, hS, hF, hA⟩ := id hG
    obtain ⟨L, eL, hFd, hFl⟩ := id hF
    refine ⟨_, rfl, pA, _, _, _, rfl, rfl, SqT.of hp, at_of (j := 2) rfl rfl, _, rfl, gA, G, dx, _, _, rfl, hGo, X.cl, X.nF, gfs_f _ _ _ _, fA, rfl, .inr ⟨_, .inl hFd⟩, _, rfl, _, rfl, pA, p.v, rfl, SqT.of hp, ?_, fun t ht => ⟨Nat.zero_le _, fun l hl => ?_⟩⟩
    · show ¬ (0 = 0 ∧ 2 = 3)
      omega
    have e1 : EX T ex H (upd H t (.tup (cv (p.1, p.2.1)))) := EX.new ht
    have e2 : EX T ex H (upd (upd H t (.tup (cv (p.1, p.2.1)))) l (.lst [])) := e1.trans (EX.new hl)
    have ht2 : upd (upd H t (.tup (cv (p.1, p.2.1)))) l (.lst []) t = some (.tup (cv (p.1, p.2.1))) := by
      rw [upd_ne (ne_of_none upd_same hl)]
      exact upd_same
    have hG2 := DGet.t (k := ck (p.1, p.2.1)) (e2.dT g hFd) ht2
    rw [valV_lk (β := Addr × List Int) ck (fun q => V.ref q.1) (fun a b => ck_inj) L] at hG2
    obtain ⟨a, ls, ea, hq, hls⟩ := fls_get (K := K) hW eL (fun q hq => e2.li (hFl q hq)) (show upd (upd H t (.tup (cv (p.1, p.2.1)))) l (.lst []) l = some (.lst []) from upd_same) (p.1, p.2.1)
    refine ⟨_, hG2, ?_⟩
    rw [ea]
    refine ⟨a, _, rfl, .inl hq, rfl, flat_ints _, ?_⟩
    show Q (.bl (inV (.int p.2.2) (ls.map V.int))) _
    rw [inV_ints]
    exact k _ _ e2 (by rw [decide_eq_true_eq]; exact hls p.2.2)
theorem scStepCost : FnScope ["self", "one", "other", "halves"] ["self", "one", "other"] (defScope sGStepCost) := ⟨rfl, rfl, rfl, by decide +kernel, rfl, by decide +kernel, by decide +kernel⟩
theorem ok_step_cost {f : Addr} {fd : FuncData} (F : FnP K "step_cost" "Ground.step_cost" sGStepCost f fd) (X : GTxt K G) (DF : Df P w K mg base 2 "floor_cost" ["settings", "areas", "place"] (spFloorCost C T ex)) (mA : mg "abs" = none) : FnOk P w K mg base CX0 3 f fd ["self", "one", "other"] (spStepCost G C T ex) := by
  refine fn_rule F scStepCost (fun vs H Q E h => ?_) (fun cdv A outer s H vs Q E hr h => ?_)
  · obtain ⟨gA, oA, tA, W, p, q, rfl, _⟩ := h
    rfl
  · obtain ⟨gA, oA, tA, W, p, q, rfl, g, hW, hG, hp, hq, k⟩ := h
    refine ⟨_, pss_cons (ps_set (i := 3) scStepCost.nd rfl (Or.inl rfl) (pe_op op_add (pe_df DF hr rfl (pa_cons (pe_fld (pv 0) rfl) (pa_cons (pe_fld (pv 0) rfl) (pa_cons (pv 1) pa_nil)))) (pe_df DF hr rfl (pa_cons (pe_fld (pv 0) rfl) (pa_cons (pe_fld (pv 0) rfl) (pa_cons (pv 2) pa_nil))))))
      (pss_one (ps_ret (pe_op op_add (pv 3) (pe_op op_mul (pe_fld (pv 0) rfl) (pe_callB call_abs (by rfl) mA (by decide +kernel) (pa_cons (pe_op op_sub (pe_ix ix_tup (pv 1) pe_int (fun _ _ => rfl)) (pe_ix ix_tup (pv 2) pe_int (fun _ _ => rfl))) pa_nil)))))), ?_⟩
    obtain ⟨dx, sA, fA, aA, hGo, hS, hF, hA⟩ := id hG
    refine ⟨_, rfl, gA, G, dx, _, _, rfl, hGo, X.cl, X.nS, gfs_s _ _ _ _, _, rfl, gA, G, dx, _, _, rfl, hGo, X.cl, X.nA, gfs_a _ _ _ _, _, rfl, sA, aA, oA, W, p, rfl, g, hW, hS, hA, hp, fun H1 e1 => ?_⟩
    have hG1 := e1.ins g hGo
    refine ⟨_, rfl, gA, G, dx, _, _, rfl, hG1, X.cl, X.nS, gfs_s _ _ _ _, _, rfl, gA, G, dx, _, _, rfl, hG1, X.cl, X.nA, gfs_a _ _ _ _, _, rfl, sA, aA, tA, W, q, rfl, e1.g g, hW, e1.sta g hS, e1.ars g hA, e1.pl g hq, fun H2 e2 => ?_⟩
    have e12 := e1.trans e2
    have hp2 := e12.pl g hp
    have hq2 := e12.pl g hq
    refine ⟨_, _, rfl, rfl, _, rfl, _, rfl, gA, G, dx, _, _, rfl, e12.ins g hGo, X.cl, X.nC, gfs_c _ _ _ _, _, rfl, oA, _, _, _, rfl, rfl, SqT.of hp2, at_of (j := 2) rfl rfl, _, rfl, tA, _, _, _, rfl, rfl, SqT.of hq2, at_of (j := 2) rfl rfl, _, _, rfl, rfl, _, rfl, _, _, rfl, rfl, .inl ⟨?_, ?_⟩, _, _, rfl, rfl, ?_⟩
    · have := hW.climb
      omega
    · have := hW.climb
      omega
    · rw [abs_eq]
      exact k H2 e12
theorem scSteps : FnScope ["self", "place", "found", "di", "dk", "other"] ["self", "place"] (defScope sGSteps) := ⟨rfl, rfl, rfl, by decide +kernel, rfl, by decide +kernel, by decide +kernel⟩
theorem ok_steps {f : Addr} {fd : FuncData} (F : FnP K "steps" "Ground.steps" sGSteps f fd) (X : GTxt K G) (S : SdTxt K mg) (DP : Df P w K mg base 1 "partner" ["settings", "floors", "place", "di", "dk"] (spPartner C T ex)) (DS : Dm P w K mg base G 3 "step_cost" ["self", "one", "other"] (spStepCost G C T ex)) :
    FnOk P w K mg base CX0 4 f fd ["self", "place"] (spSteps G C T ex) := by
  refine fn_rule F scSteps (fun vs H Q E h => ?_) (fun cdv A outer s H vs Q E hr h => ?_)
  · obtain ⟨gA, pA, W, p, rfl, _⟩ := h
    rfl
  · obtain ⟨gA, pA, W, p, rfl, g, hW, hG, hp, k⟩ := h
    obtain ⟨sd, as, hsd, hlen, hSd, hDs⟩ := S.ex
    refine ⟨_, pss_cons (ps_set (i := 2) scSteps.nd rfl (Or.inl rfl) (pe_lst pa_nil))
      (pss_cons (ps_for PassesOwn.never rfl (pi_tup (pe_glob (v := .ref sd) rfl hsd rfl)) (pg_tup (by rfl) (pgs_cons (pg_name (i := 3) scSteps.nd rfl (.inl rfl)) (pgs_cons (pg_name (i := 4) scSteps.nd rfl (.inl rfl)) pgs_nil)))
        (pss_cons (ps_set (i := 5) scSteps.nd rfl (Or.inl rfl) (pe_df DP (hr.mono (by decide)) rfl (pa_cons (pe_fld (pv 0) rfl) (pa_cons (pe_fld (pv 0) rfl) (pa_cons (pv 1) (pa_cons (pv 3) (pa_cons (pv 4) pa_nil)))))))
        (pss_one (ps_if (pt_cmp (pc_notN (pv 5))) (pss_one (ps_expr (pe_bm PySem.F.plainAttrs_list PySem.F.slot_list_append PySem.F.type_list_append mt_append (pv 2) (pa_cons (pe_tup (pa_cons (pv 5) (pa_cons (pe_dm DS X.cl hr (pv 0) (pa_cons (pv 1) (pa_cons (pv 5) pa_nil))) pa_nil))) pa_nil)))) pss_nil))))
      (pss_one (ps_ret (pv 2)))), ?_⟩
    obtain ⟨dx, sA, fA, aA, hGo, hS, hF, hA⟩ := id hG
    refine ⟨Nat.zero_le _, fun l hl => ?_⟩
    have nl := g.ne hl
    refine ⟨sd, rfl, ⟨_, hSd _⟩, for_tup (K := K) (a := sd) (xs := as.map V.ref) (fun i σ H' => EX T ex H H' ∧ ∃ (di dk o : Option V) (L : List (Addr × Addr × Pl × Int)), σ = [some (.ref gA), some (.ref pA), some (.ref l), di, dk, o] ∧ H' l = some (.lst (L.map fun q => V.ref q.1)) ∧
        (∀ q ∈ L, H' q.1 = some (.tup [.ref q.2.1, .int q.2.2.2]) ∧ PlAt H' q.2.1 q.2.2.1) ∧ L.length ≤ i ∧ ∀ q c, (q, c) ∈ L.map (·.2.2) ↔ W.E p q c ∧ (q.1 - p.1, q.2.1 - p.2.1) ∈ dirs.take i)
      ⟨EX.new hl, none, none, none, [], rfl, upd_same, (fun q hq => nomatch hq), Nat.le_refl 0, fun q c => ⟨(fun h => nomatch h), (fun h => nomatch h.2)⟩⟩ (fun i σ H' _ _ => hSd _) ?_ ?_⟩
    · rintro i y σ H1 hi ⟨e1, di, dk, o, L, rfl, hl1, hL, hLl, hmem⟩
      have hi4 : i < 4 := by
        have := (List.getElem?_eq_some_iff.mp hi).1
        rw [List.length_map] at this
        omega
      rw [List.getElem?_map, List.getElem?_eq_getElem (by omega)] at hi
      have hy : V.ref as[i] = y := Option.some.inj hi
      subst hy
      have hd4 : i < dirs.length := hi4
      have hD := hDs i as[i] dirs[i] (List.getElem?_eq_getElem (by omega)) (List.getElem?_eq_getElem hd4)
      refine ⟨as[i], _, rfl, hD _, rfl, _, _, rfl, _, _, rfl, rfl, ?_⟩
      generalize hdir : dirs[i] = d at hD ⊢
      have htake : dirs.take (i + 1) = dirs.take i ++ [d] := by rw [List.take_succ, List.getElem?_eq_getElem hd4, hdir]; rfl
      have hG1 := e1.ins g hGo
      refine ⟨_, rfl, gA, G, dx, _, _, rfl, hG1, X.cl, X.nS, gfs_s _ _ _ _, _, rfl, gA, G, dx, _, _, rfl, hG1, X.cl, X.nF, gfs_f _ _ _ _, _, rfl, _, rfl, _, rfl, sA, fA, pA, W, p, d.1, d.2, rfl, e1.g g, hW, e1.sta g hS, e1.fls g hF, e1.pl g hp, fun v H2 e2 hv => ?_⟩
      have e12 := e1.trans e2
      have g2 := e12.g g
      have nlX : l ∉ ex := nl
      have hl2 : H2 l = some (.lst (L.map fun q => V.ref q.1)) := e2.k l _ hl1 nlX (fun ps z => by cases z)
      have hL2 : ∀ q ∈ L, H2 q.1 = some (.tup [.ref q.2.1, .int q.2.2.2]) ∧ PlAt H2 q.2.1 q.2.2.1 := fun q hq => ⟨e2.tup (e1.g g) (hL q hq).1, e2.pl (e1.g g) (hL q hq).2⟩
      refine ⟨_, rfl, _, rfl, ?_⟩
      rcases hv with ⟨rfl, hno⟩ | ⟨b, q, rfl, hq, hfl, h1, h2, h3⟩
      · refine iteNS rfl ?_
        refine ⟨e12, _, _, _, L, rfl, hl2, hL2, by omega, fun q c => ?_⟩
        rw [hmem q c, htake]
        constructor
        · rintro ⟨a, b⟩
          exact ⟨a, List.mem_append_left _ b⟩
        · rintro ⟨a, b⟩
          refine ⟨a, ?_⟩
          rcases List.mem_append.mp b with b | b
          · exact b
          · rw [List.mem_singleton] at b
            have b1 : q.1 - p.1 = d.1 := congrArg (·.1) b
            have b2 : q.2.1 - p.2.1 = d.2 := congrArg (·.2) b
            exact absurd (adj_dirs.mp a.2.1).2 (hno q a.1 (by omega) (by omega))
      · refine iteNN (by intro z; cases z) ?_
        refine ⟨_, rfl, .inl ⟨rfl, _, SqL.of hl2⟩, _, rfl, _, rfl, gA, dx, _, rfl, e12.ins g hGo, gfs_no _ _ _ _ (by decide +kernel) (by decide +kernel) (by decide +kernel) (by decide +kernel), _, rfl, _, rfl, gA, pA, b, W, p, q, rfl, g2, hW, e12.gr g hG, e12.pl g hp, hq, fun H3 e3 => ?_⟩
        refine ⟨(by show 2 ≤ sizeLine; decide), fun t ht => ?_⟩
        have e4 := e3.trans (EX.new (o := .tup [.ref b, .int (W.cost p q)]) ht)
        have hl4 := e4.k l _ hl2 nlX (fun ps z => by cases z)
        have ht4 : upd H3 t (.tup [.ref b, .int (W.cost p q)]) t = some (.tup [.ref b, .int (W.cost p q)]) := upd_same
        have hb4 := e4.pl g2 hq
        have hL4 : ∀ z ∈ L, upd H3 t (.tup [.ref b, .int (W.cost p q)]) z.1 = some (.tup [.ref z.2.1, .int z.2.2.2]) ∧ PlAt (upd H3 t (.tup [.ref b, .int (W.cost p q)])) z.2.1 z.2.2.1 := fun z hz => ⟨e4.tup g2 (hL2 z hz).1, e4.pl g2 (hL2 z hz).2⟩
        have e14 := e12.trans e4
        refine ⟨l, _, _, rfl, rfl, hl4, ?_, ?_⟩
        · rw [List.length_map]
          exact Nat.lt_of_le_of_lt (show _ ≤ 1000 by omega) (by decide)
        generalize upd H3 t (.tup [.ref b, .int (W.cost p q)]) = H4 at hl4 ht4 hb4 hL4 e14 ⊢
        have nt : ∀ {a xs}, H4 a = some (.tup xs) → a ≠ l := fun h => ne_of h hl4 (by intro z; cases z)
        refine ⟨e14.put (FrN.none hl) hl4 rfl nl, _, _, _, L ++ [(t, b, q, W.cost p q)], rfl, ?_, fun z hz => ?_, ?_, fun q' c => ?_⟩
        · rw [upd_same, List.map_append]
          rfl
        · have : H4 z.1 = some (.tup [.ref z.2.1, .int z.2.2.2]) ∧ PlAt H4 z.2.1 z.2.2.1 := by
            rcases List.mem_append.mp hz with h | h
            · exact hL4 z h
            · rw [List.mem_singleton] at h
              rw [h]
              exact ⟨ht4, hb4⟩
          exact ⟨by rw [upd_ne (nt this.1)]; exact this.1, by unfold PlAt; rw [upd_ne (nt this.2)]; exact this.2⟩
        · rw [List.length_append, List.length_singleton]
          omega
        · rw [List.map_append, List.mem_append, hmem q' c, htake, List.mem_append]
          show _ ∨ (q', c) ∈ [(q, W.cost p q)] ↔ _
          rw [List.mem_singleton, List.mem_singleton]
          have had : W.adj p q := adj_dirs.mpr ⟨by
            have : (q.1 - p.1, q.2.1 - p.2.1) = d := by
              rw [h1, h2]
              exact Prod.ext (by show p.1 + d.1 - p.1 = d.1; omega) (by show p.2.1 + d.2 - p.2.1 = d.2; omega)
            rw [this, ← hdir]
            exact List.getElem_mem hd4, h3⟩
          constructor
          · rintro (⟨a, b⟩ | h)
            · exact ⟨a, .inl b⟩
            · cases h
              exact ⟨⟨hfl, had, rfl⟩, .inr (Prod.ext (by show q.1 - p.1 = d.1; omega) (by show q.2.1 - p.2.1 = d.2; omega))⟩
          · rintro ⟨a, b | b⟩
            · exact .inl ⟨a, b⟩
            · right
              have b1 : q'.1 - p.1 = d.1 := congrArg (·.1) b
              have b2 : q'.2.1 - p.2.1 = d.2 := congrArg (·.2) b
              have := hW.fl_uniq (p := p) a.1 hfl (by omega) (by omega) (adj_dirs.mp a.2.1).2 h3
              rw [a.2.2, this]
    · rintro σ H1 ⟨e1, di, dk, o, L, rfl, hl1, hL, hLl, hmem⟩
      refine ⟨_, rfl, k l (L.map (·.2.2)) H1 e1 ⟨L, rfl, ⟨hl1, nl⟩, hL⟩ ⟨by rw [List.length_map]; rw [List.length_map] at hLl; omega, fun q c => ?_⟩⟩
      rw [hmem q c]
      have : dirs.take (as.map V.ref).length = dirs := by
        rw [List.length_map, hlen]
        rfl
      rw [this]
      exact ⟨fun h => h.1, fun h => ⟨h, (adj_dirs.mp h.2.1).1⟩⟩
end
end K76
namespace K76
open PySem PySem.Spec PyProof.Rows L2 LamX
/-- the waiting floor that is told: of the least cost -/
def spLeast (T : TbT) (ex : List Addr) : Sp := fun vs H Q _ => ∃ (wA : Addr) (ws : List (Pl × Int)), vs = [.ref wA] ∧ Gd T ex H ∧ H wA = some (.dT (dI ws)) ∧ ws ≠ [] ∧ ws.length ≤ 1000 ∧ (ws.map (·.1)).Nodup ∧
  ∀ (t : Addr) (p : Pl) (d : Int) (H' : Hp), EX T ex H H' → H' t = some (.tup [.int d, .int p.2.1, .int p.1, .int p.2.2]) → lk ws p = some d → (∀ q d', lk ws q = some d' → d ≤ d') → Q (.ref t) H'
section
variable {P : Program} {w : World} {K : PySem.W.Frag} {mg : Str → Option Value} {base : Heap} {T : TbT} {ex : List Addr} {G C : Addr}
theorem scJoined : FnScope ["self", "one", "other", "place", "paid"] ["self", "one", "other"] (defScope sGJoined) := ⟨rfl, rfl, rfl, by decide +kernel, rfl, by decide +kernel, by decide +kernel⟩
theorem ok_joined {f : Addr} {fd : FuncData} (F : FnP K "joined_cost" "Ground.joined_cost" sGJoined f fd) (X : GTxt K G) (DS : Dm P w K mg base G 4 "steps" ["self", "place"] (spSteps G C T ex)) : FnOk P w K mg base CX0 5 f fd ["self", "one", "other"] (spJoined G C T ex) := by
  refine fn_rule F scJoined (fun vs H Q E h => ?_) (fun cdv A outer s H vs Q E hr h => ?_)
  · obtain ⟨gA, oA, tA, W, p, q, rfl, _⟩ := h
    rfl
  · obtain ⟨gA, oA, tA, W, p, q, rfl, g, hW, hG, hp, hq, k⟩ := h
    refine ⟨_, pss_cons (ps_for PassesOwn.never rfl (pi_list (pe_dm DS X.cl hr (pv 0) (pa_cons (pv 1) pa_nil))) (pg_tup (by rfl) (pgs_cons (pg_name (i := 3) scJoined.nd rfl (.inl rfl)) (pgs_cons (pg_name (i := 4) scJoined.nd rfl (.inl rfl)) pgs_nil)))
        (pss_one (ps_if (pt_cmpR (op_eqD hr.units) (pv 3) (pv 2) (nomark _)) (pss_one (ps_ret (pv 4))) pss_nil)))
      (pss_one (ps_ret pe_non)), ?_⟩
    obtain ⟨dx, sA, fA, aA, hGo, hS, hF, hA⟩ := id hG
    refine ⟨_, rfl, gA, dx, _, rfl, hGo, gfs_no _ _ _ _ (by decide +kernel) (by decide +kernel) (by decide +kernel) (by decide +kernel), _, rfl, gA, oA, W, p, rfl, g, hW, hG, hp, fun l es H1 e1 hst hes => ?_⟩
    obtain ⟨L, eL, hLl, hLt⟩ := hst
    have g1 := e1.g g
    have hq1 := e1.pl g hq
    refine ⟨l, rfl, ⟨_, hLl.sq⟩, for_list (K := K) (a := l) (xs := L.map fun q => V.ref q.1) (fun i σ H' => H' = H1 ∧ ∃ (o1 o2 : Option V), σ = [some (.ref gA), some (.ref oA), some (.ref tA), o1, o2] ∧ ∀ j z, j < i → L[j]? = some z → z.2.2.1 ≠ q)
      ⟨rfl, none, none, rfl, fun j z hj => absurd hj (Nat.not_lt_zero j)⟩ (fun i σ H' _ ⟨e, _⟩ => by rw [e]; exact hLl.sq) ?_ ?_⟩
    · rintro i y σ H' hi ⟨rfl, o1, o2, rfl, hj⟩
      rw [List.getElem?_map] at hi
      cases ez : L[i]? with
      | none => rw [ez] at hi; cases hi
      | some z =>
        rw [ez] at hi
        obtain rfl : V.ref z.1 = y := Option.some.inj hi
        have hz := hLt z (List.mem_of_getElem? ez)
        refine ⟨z.1, _, rfl, SqT.of hz.1, rfl, _, _, rfl, _, _, rfl, rfl, ?_⟩
        refine ⟨_, rfl, _, rfl, _, _, hz.2.dp, hq1.dp, plD_shaped _, plD_shaped _, _, rfl, ?_⟩
        rw [plD_eqv]
        refine ite2 (fun hc => ?_) (fun hc => ?_)
        · have hc : z.2.2.1 = q := of_decide_eq_true hc
          refine ⟨_, rfl, (k _ e1).1 _ ?_⟩
          rw [Wd.JE, ← hes.2, eL, ← hc]
          exact List.mem_map.mpr ⟨z, List.mem_of_getElem? ez, rfl⟩
        · refine ⟨rfl, _, _, rfl, fun j z' hjl hz' => ?_⟩
          by_cases ej : j = i
          · subst ej
            rw [ez] at hz'
            cases hz'
            intro h
            exact hc (decide_eq_true h)
          · exact hj j z' (by omega) hz'
    · rintro σ H' ⟨rfl, o1, o2, rfl, hj⟩
      refine (k _ e1).2 ?_
      cases eJ : W.J p q with
      | none => rfl
      | some c =>
        exfalso
        rw [Wd.JE, ← hes.2, eL] at eJ
        obtain ⟨z, hz, ez⟩ := List.mem_map.mp eJ
        obtain ⟨j, hjl, hx⟩ := List.mem_iff_getElem.mp hz
        exact hj j z (by rw [List.length_map]; exact hjl) (by rw [List.getElem?_eq_getElem hjl, hx]) (congrArg (·.1) ez)
def nLeast : List Str := ["waiting", "place"]
theorem scLeast : FnScope nLeast ["waiting"] (defScope sLeast) := ⟨rfl, rfl, rfl, by decide +kernel, rfl, by decide +kernel, by decide +kernel⟩
theorem ok_least {f : Addr} {fd : FuncData} (F : FnP K "least" "least" sLeast f fd) (mM : mg "min" = none) : FnOk P w K mg base CX0 1 f fd ["waiting"] (spLeast T ex) := by
  refine fn_rule F scLeast (fun vs H Q E h => ?_) (fun cdv A outer s H vs Q E hr h => ?_)
  · obtain ⟨wA, ws, rfl, _⟩ := h
    rfl
  · obtain ⟨wA, ws, rfl, g, hw, hne, hlen, hnd, k⟩ := h
    have hu := hu_of hr
    refine ⟨_, pss_one (ps_ret (pe_callB (call_minT rfl hr.units) (by rfl) mM (by decide +kernel) (pa_cons (pe_lock (pe_lc (own := [("place", 1)]) (g := gName 1) (tt := tYes) rfl scLeast.nd (pi_keys (pv 0)) (blkOk_by (N := nLeast) (sc := defScope sLeast) (by decide +kernel)) (fun _ _ _ _ _ => pg_name (i := 1) scLeast.nd rfl (Or.inl rfl)) (fun _ _ _ _ _ => pts_nil)
      (fun _ _ _ _ _ => pe_tup (pa_cons (pe_dget hu (pv 0) (pv 1) (fun _ _ => rfl)) (pa_cons (pe_ix (ix_tupK (K := K)) (pv 1) pe_int (fun _ _ => rfl)) (pa_cons (pe_ix (ix_tupK (K := K)) (pv 1) pe_int (fun _ _ => rfl)) (pa_cons (pe_ix (ix_tupK (K := K)) (pv 1) pe_int (fun _ _ => rfl)) pa_nil))))))) pa_nil))), ?_⟩
    refine ⟨wA, _, hw, trivial, fun od => ?_⟩
    have gl : Gd T ex (upd H wA (.frz od (.dT (dI ws)))) := g.upd hw rfl
    have hwl : upd H wA (.frz od (.dT (dI ws))) wA = some (.frz od (.dT (dI ws))) := upd_same
    generalize hHl : upd H wA (.frz od (.dT (dI ws))) = Hl at gl hwl ⊢
    refine ⟨_, rfl, wA, od, rfl, .inr ⟨_, hwl, fun D hD => ?_⟩⟩
    have nD := gl.ne hD
    refine lc_it walk_keysT (fun i H' => EX T ex Hl H' ∧ ∃ L : List (Addr × Pl × Int), L.map (·.2) = ws.take i ∧ H' D = some (.lst (L.map fun q => V.ref q.1)) ∧ ∀ q ∈ L, H' q.1 = some (.tup [.int q.2.2, .int q.2.1.2.1, .int q.2.1.1, .int q.2.1.2.2]))
      ⟨EX.new hD, [], rfl, upd_same, (fun q hq => nomatch hq)⟩ (fun i H' _ h => h.1.keep gl hwl rfl) ?_ ?_
    · rintro i y H2 H2' hi ⟨e2, L, m1, m2, m3⟩ ⟨rfl, kk, vv, qA, hk, rfl, hq⟩
      rw [dI_len] at hi
      unfold dI at hk
      rw [List.getElem?_map, List.getElem?_eq_getElem hi] at hk
      cases hk
      have hv : valV (dI ws) (ws[i]).1.k = some (.int (ws[i]).2) := by
        rw [valV_dI, lk_of_mem hnd (show ((ws[i]).1, (ws[i]).2) ∈ ws from List.getElem_mem hi)]
        rfl
      have ht : ws.take (i + 1) = ws.take i ++ [ws[i]] := by rw [List.take_succ, List.getElem?_eq_getElem hi]; rfl
      generalize ws[i] = z at hq hv ht
      have hwf := e2.keep gl hwl rfl
      have hq : H2' qA = some (.tup z.1.v) := hq
      refine ⟨rfl, _, rfl, _, rfl, wA, _, rfl, .inr ⟨_, z.1.k, qA, .inr ⟨od, hwf⟩, rfl, hq, hv.symm⟩, _, rfl, qA, _, _, _, rfl, rfl, SqT.of hq, at_of (j := 1) rfl rfl, _, rfl, qA, _, _, _, rfl, rfl, SqT.of hq, at_of (j := 0) rfl rfl, _, rfl, qA, _, _, _, rfl, rfl, SqT.of hq, at_of (j := 2) rfl rfl, (by show 4 ≤ sizeLine; decide), fun t ht2 => ?_⟩
      have e3 := e2.trans (EX.new (o := .tup [.int z.2, .int z.1.2.1, .int z.1.1, .int z.1.2.2]) ht2)
      have hD3 : upd H2' t (.tup [.int z.2, .int z.1.2.1, .int z.1.1, .int z.1.2.2]) D = some (.lst (L.map fun q => V.ref q.1)) := by rw [upd_ne (ne_of_none m2 ht2)]; exact m2
      have ht3 : upd H2' t (.tup [.int z.2, .int z.1.2.1, .int z.1.1, .int z.1.2.2]) t = some (.tup [.int z.2, .int z.1.2.1, .int z.1.1, .int z.1.2.2]) := upd_same
      have m33 : ∀ q ∈ L, upd H2' t (.tup [.int z.2, .int z.1.2.1, .int z.1.1, .int z.1.2.2]) q.1 = some (.tup [.int q.2.2, .int q.2.1.2.1, .int q.2.1.1, .int q.2.1.2.2]) := fun q hq => by rw [upd_ne (ne_of_none (m3 q hq) ht2)]; exact m3 q hq
      generalize upd H2' t (.tup [.int z.2, .int z.1.2.1, .int z.1.1, .int z.1.2.2]) = H3 at e3 hD3 ht3 m33 ⊢
      refine ⟨_, hD3, ?_, e3.put (FrN.none hD) hD3 rfl nD, L ++ [(t, z)], ?_, ?_, fun q hq => ?_⟩
      · rw [List.length_map]
        have h1 := congrArg List.length m1
        rw [List.length_map] at h1
        have h2 := (List.take_sublist i ws).length_le
        exact Nat.lt_of_le_of_lt (show _ ≤ 1000 by omega) (by decide)
      · rw [List.map_append, m1, ht]
        rfl
      · rw [upd_same, List.map_append]
        rfl
      · have : H3 q.1 = some (.tup [.int q.2.2, .int q.2.1.2.1, .int q.2.1.1, .int q.2.1.2.2]) := by
          rcases List.mem_append.mp hq with h | h
          · exact m33 q h
          · rw [List.mem_singleton] at h
            rw [h]
            exact ht3
        rw [upd_ne (ne_of this hD3 (by intro z; cases z))]
        exact this
    · rintro H2 ⟨e2, L, m1, m2, m3⟩
      rw [dI_len, List.take_length] at m1
      have hwf := e2.keep gl hwl rfl
      rw [← hHl] at e2
      have e3 := e2.lockOut g hw rfl rfl hwf
      have nDw : D ≠ wA := ne_of m2 hwf (by intro z; cases z)
      have hL3 : ∀ q ∈ L, upd H2 wA (.dT (dI ws)) q.1 = some (.tup [.int q.2.2, .int q.2.1.2.1, .int q.2.1.1, .int q.2.1.2.2]) := fun q hq => by rw [upd_ne (ne_of (m3 q hq) hwf (by intro z; cases z))]; exact m3 q hq
      refine ⟨hwf, D, L.map fun q => (q.1, [q.2.2, q.2.1.2.1, q.2.1.1, q.2.1.2.2]), rfl, ?_, ?_, ?_, ?_⟩
      · rw [List.map_map]
        exact SqL.of (by rw [upd_ne nDw]; exact m2)
      · intro e
        rw [List.map_eq_nil_iff] at e
        rw [e] at m1
        exact hne m1.symm
      · intro q hq
        obtain ⟨z, hz, rfl⟩ := List.mem_map.mp hq
        exact ⟨by simp, hL3 z hz⟩
      · intro q hq hmin
        obtain ⟨z, hz, rfl⟩ := List.mem_map.mp hq
        have hm : z.2 ∈ ws := by rw [← m1]; exact List.mem_map.mpr ⟨z, hz, rfl⟩
        refine k z.1 z.2.1 z.2.2 _ e3 (hL3 z hz) (lk_of_mem hnd hm) fun q d' hq' => ?_
        have hq2 := lk_mem hq'
        rw [← m1] at hq2
        obtain ⟨z2, hz2, e2⟩ := List.mem_map.mp hq2
        have := hmin _ (List.mem_map.mpr ⟨z2, hz2, rfl⟩)
        have e4 : z2.2.2 = d' := congrArg (·.2) e2
        have : z.2.2 ≤ z2.2.2 := this
        omega
end
end K76
namespace K76
open PySem PySem.Spec PyProof.Rows L2 LamX
theorem putK_pt {β : Type} (g : β → V) (l : List (Pl × β)) (p : Pl) (n : β) : putK (l.map fun q => (q.1.k, g q.2)) p.k (g n) = (pt l p n).map fun q => (q.1.k, g q.2) := by
  have ea : ((l.map fun q => (q.1.k, g q.2)).any fun kv => decide (kv.1 = p.k)) = (l.any fun q => decide (q.1 = p)) := by
    rw [List.any_map]
    congr 1
    funext q
    show decide (q.1.k = p.k) = decide (q.1 = p)
    by_cases e : q.1 = p
    · rw [e]; simp
    · rw [decide_eq_false e, decide_eq_false fun z => e (Pl.k_inj z)]
  unfold putK pt
  rw [ea]
  split
  · rw [List.map_map, List.map_map]
    apply List.map_congr_left
    intro q _
    show (if q.1.k = p.k then (q.1.k, g n) else (q.1.k, g q.2)) = ((if q.1 = p then (p, n) else q).1.k, g (if q.1 = p then (p, n) else q).2)
    by_cases e : q.1 = p
    · rw [if_pos (by rw [e]), if_pos e, e]
    · rw [if_neg fun z => e (Pl.k_inj z), if_neg e]
  · rw [List.map_append]
    rfl
/-- the dict of steps back -/
abbrev BkL := List (Pl × Addr × Pl)
def bkV (L : BkL) : List (List Key × V) := L.map fun q => (q.1.k, V.ref q.2.1)
structure BkAt (Vs : List Pl) (H : Hp) (bD : Addr) (L : BkL) : Prop where
  at_ : H bD = some (.dT (bkV L))
  pl : ∀ q ∈ L, PlAt H q.2.1 q.2.2
  nd : (L.map (·.1)).Nodup
  sub : ∀ q ∈ L, q.1 ∈ Vs
def Bof (L : BkL) : Pl → Option Pl := fun x => (lk L x).map (·.2)
theorem pt_mem {α β : Type} [DecidableEq α] {l : List (α × β)} {k : α} {v : β} {q : α × β} (h : q ∈ pt l k v) : q ∈ l ∨ q = (k, v) := by
  unfold pt at h
  split at h
  · obtain ⟨z, hz, rfl⟩ := List.mem_map.mp h
    split
    · exact .inr rfl
    · exact .inl hz
  · rcases List.mem_append.mp h with h | h
    · exact .inl h
    · exact .inr (List.mem_singleton.mp h)
theorem Bof_pt (L : BkL) (q : Pl) (a : Addr) (p : Pl) : Bof (pt L q (a, p)) = fun x => if x = q then some p else Bof L x := by
  funext x
  unfold Bof
  rw [lk_pt]
  split <;> rfl
theorem BkAt.len {Vs : List Pl} {H : Hp} {bD : Addr} {L : BkL} (h : BkAt Vs H bD L) : L.length ≤ Vs.length := by
  have := len_le_of_sub (l := L.map (·.1)) (m := Vs) h.nd fun x hx => by
    obtain ⟨q, hq, rfl⟩ := List.mem_map.mp hx
    exact h.sub q hq
  rwa [List.length_map] at this
theorem BkAt.get {Vs : List Pl} {H : Hp} {bD : Addr} {L : BkL} (h : BkAt Vs H bD L) (p : Pl) : valV (bkV L) p.k = (lk L p).map fun q => V.ref q.1 := by
  unfold bkV
  exact valV_lk (β := Addr × Pl) Pl.k (fun q => V.ref q.1) (fun a b => Pl.k_inj) L p
/-- a write into a dict leaves the rest -/
theorem putD {H : Hp} {w b : Addr} {x y : List (List Key × V)} {o : HO} (h : H w = some (.dT x)) (hb : H b = some o) (n : ∀ z, o ≠ .dT z) : upd H w (.dT y) b = some o := by
  rw [upd_ne (ne_of hb h (n x))]
  exact hb
section
variable {ex : List Addr} {Vs : List Pl} {H : Hp} {w b : Addr} {x y : List (List Key × V)}
theorem PlAt.putD {p : Pl} (h : H w = some (.dT x)) (hb : PlAt H b p) : PlAt (upd H w (.dT y)) b p := K76.putD h hb (fun z e => nomatch e)
theorem StsAt.putD {es : List (Pl × Int)} (h : H w = some (.dT x)) (hb : StsAt ex H b es) : StsAt ex (upd H w (.dT y)) b es := by
  obtain ⟨L, h1, h2, h3⟩ := hb
  exact ⟨L, h1, ⟨K76.putD h h2.1 (fun z e => nomatch e), h2.2⟩, fun q hq => ⟨K76.putD h (h3 q hq).1 (fun z e => nomatch e), (h3 q hq).2.putD h⟩⟩
theorem BkAt.putD {bD : Addr} {L : BkL} (n : bD ≠ w) (h : H w = some (.dT x)) (hb : BkAt Vs H bD L) : BkAt Vs (upd H w (.dT y)) bD L :=
  ⟨by rw [upd_ne n]; exact hb.at_, fun q hq => (hb.pl q hq).putD h, hb.nd, hb.sub⟩
theorem BkAt.put {bD a : Addr} {L : BkL} {p q : Pl} (hb : BkAt Vs H bD L) (ha : PlAt H a p) (hq : q ∈ Vs) : BkAt Vs (upd H bD (.dT (putK (bkV L) q.k (.ref a)))) bD (pt L q (a, p)) :=
  ⟨by
    rw [upd_same]
    unfold bkV
    exact congrArg (fun z => some (HO.dT z)) (putK_pt (β := Addr × Pl) (fun q => V.ref q.1) L q (a, p)), fun z hz => by
    rcases pt_mem hz with h | h
    · exact (hb.pl z h).putD hb.at_
    · rw [h]
      exact ha.putD hb.at_, pt_nodup _ hb.nd, fun z hz => by
    rcases pt_mem hz with h | h
    · exact hb.sub z h
    · rw [h]
      exact hq⟩
end
theorem BkAt.ext {T : TbT} {ex : List Addr} {Vs : List Pl} {H H' : Hp} {bD : Addr} {L : BkL} (e : EX T ex H H') (g : Gd T ex H) (h : BkAt Vs H bD L) : BkAt Vs H' bD L := ⟨e.dT g h.at_, fun q hq => e.pl g (h.pl q hq), h.nd, h.sub⟩
def spSearch (G C : Addr) (T : TbT) (ex : List Addr) : Sp := fun vs H Q _ => ∃ (gA sA eA : Addr) (W : Wd) (s e : Pl), vs = [.ref gA, .ref sA, .ref eA] ∧ Gd T ex H ∧ W.Ok ∧ GrAt G C ex H gA W ∧ PlAt H sA s ∧ PlAt H eA e ∧ W.fl s ∧
  ∀ (t sD bD : Addr) (v : V) (S Ws : List (Pl × Int)) (L : BkL) (H' : Hp), EX T ex H H' → H' t = some (.tup [.ref sD, .ref bD, v]) → H' sD = some (.dT (dI S)) → BkAt W.pls H' bD L → DJ W.E W.pls s (Bof L) S Ws noOpn →
    ((v = .non ∧ Ws = [] ∧ lk S e = none) ∨ ∃ paid, v = .int paid ∧ lk Ws e = some paid ∧ ∀ q d', lk Ws q = some d' → paid ≤ d') → Q (.ref t) H'
section
variable {P : Program} {w : World} {K : PySem.W.Frag} {mg : Str → Option Value} {base : Heap} {T : TbT} {ex : List Addr} {G C : Addr}
theorem getD_int (o : Option Int) (n : Int) : (o.map V.int).getD (.int n) = .int (o.getD n) := by cases o <;> rfl
def nSearch : List Str := ["ground", "start", "goal", "settled", "back", "waiting", "paid", "k", "i", "level", "place", "other", "more"]
theorem scSearch : FnScope nSearch ["ground", "start", "goal"] (defScope sSearch) := ⟨rfl, rfl, rfl, by decide +kernel, rfl, by decide +kernel, by decide +kernel⟩
theorem small40 {n : Nat} (h : n ≤ 100) : n < sizeLine := Nat.lt_of_le_of_lt h (by decide)
theorem ok_search {f : Addr} {fd : FuncData} (F : FnP K "search" "search" sSearch f fd) (X : GTxt K G) (DL : Df P w K mg base 1 "least" ["waiting"] (spLeast T ex)) (DS : Dm P w K mg base G 4 "steps" ["self", "place"] (spSteps G C T ex)) :
    FnOk P w K mg base CX0 5 f fd ["ground", "start", "goal"] (spSearch G C T ex) := by
  refine fn_rule F scSearch (fun vs H Q E h => ?_) (fun cdv A outer s0 H vs Q E hr h => ?_)
  · obtain ⟨gA, sA, eA, W, s, e, rfl, _⟩ := h
    rfl
  · obtain ⟨gA, sA, eA, W, s, e, rfl, g, hW, hG, hs, he, hfl, k⟩ := h
    have hu := hu_of hr
    refine ⟨_, pss_cons (ps_set (i := 3) scSearch.nd rfl (.inl rfl) pe_dnewT)
      (pss_cons (ps_set (i := 4) scSearch.nd rfl (.inl rfl) pe_dnewT)
      (pss_cons (ps_set (i := 5) scSearch.nd rfl (.inl rfl) (pe_disp1T hr.units0 (pv 1) pe_int))
      (pss_cons (ps_while PassesOwn.never (pt_truthT (pv 5))
        (pss_cons (ps_asg (pe_df DL (hr.mono (by decide)) rfl (pa_cons (pv 5) pa_nil)) (pg_tup (by rfl) (pgs_cons (pg_name (i := 6) scSearch.nd rfl (.inl rfl)) (pgs_cons (pg_name (i := 7) scSearch.nd rfl (.inl rfl)) (pgs_cons (pg_name (i := 8) scSearch.nd rfl (.inl rfl)) (pgs_cons (pg_name (i := 9) scSearch.nd rfl (.inl rfl)) pgs_nil))))))
        (pss_cons (ps_set (i := 10) scSearch.nd rfl (.inl rfl) (pe_tup (pa_cons (pv 8) (pa_cons (pv 7) (pa_cons (pv 9) pa_nil)))))
        (pss_cons (ps_if (pt_cmpR (op_eqD hr.units) (pv 10) (pv 2) (nomark _)) (pss_one (ps_ret (pe_tup (pa_cons (pv 3) (pa_cons (pv 4) (pa_cons (pv 6) pa_nil)))))) pss_nil)
        (pss_cons (ps_expr (pe_bm PySem.F.plainAttrs_dict PySem.F.slot_dict_pop PySem.F.type_dict_pop (mt_pop1 hu) (pv 5) (pa_cons (pv 10) pa_nil)))
        (pss_cons (ps_dput hu (pv 3) (pv 10) (pv 6) rfl)
        (pss_one (ps_for PassesOwn.never rfl (pi_list (pe_dm DS X.cl hr (pv 0) (pa_cons (pv 10) pa_nil))) (pg_tup (by rfl) (pgs_cons (pg_name (i := 11) scSearch.nd rfl (.inl rfl)) (pgs_cons (pg_name (i := 12) scSearch.nd rfl (.inl rfl)) pgs_nil)))
          (pss_one (ps_if (PW.pt (pw_and (pt_cmp (pc_dnotin hu (pv 11) (pv 3))) (pw_and1 (pt_cmpR op_lt (pe_op op_add (pv 6) (pv 12)) (pe_dget2 hu (pv 5) (pv 11) (pe_op op_add (pe_op op_add (pv 6) (pv 12)) pe_int) ⟨rfl, rfl, rfl, rfl⟩) (nomark _)))))
            (pss_cons (ps_dput hu (pv 5) (pv 11) (pe_op op_add (pv 6) (pv 12)) rfl) (pss_one (ps_dput hu (pv 4) (pv 11) (pv 10) rfl))) pss_nil))))))))))
      (pss_one (ps_ret (pe_tup (pa_cons (pv 3) (pa_cons (pv 4) (pa_cons pe_non pa_nil))))))))), ?_⟩
    obtain ⟨dx, stA, fA, aA, hGo, hS, hF, hA⟩ := id hG
    have hpos : ∀ p q c, W.E p q c → 0 < c := fun p q c h => (hW.cost_pos h).1
    have hV := hW.pls_len
    refine fun sD hsD => fun bD hbD => fun wD hwD => ?_
    have nSB : sD ≠ bD := ne_of_none upd_same hbD
    have nBW : bD ≠ wD := ne_of_none upd_same hwD
    have nSW : sD ≠ wD := ne_of_none (by rw [upd_ne nSB]; exact upd_same) hwD
    have ea : EX T ex H (upd H sD (.dT [])) := EX.new hsD
    have eb : EX T ex H (upd (upd H sD (.dT [])) bD (.dT [])) := ea.trans (EX.new hbD)
    have ec : EX T ex H (upd (upd (upd H sD (.dT [])) bD (.dT [])) wD (.dT [])) := eb.trans (EX.new hwD)
    have gb : upd (upd (upd H sD (.dT [])) bD (.dT [])) wD (.dT []) bD = some (.dT []) := by rw [upd_ne nBW]; exact upd_same
    have gs : upd (upd (upd H sD (.dT [])) bD (.dT [])) wD (.dT []) sD = some (.dT []) := by rw [upd_ne nSW, upd_ne nSB]; exact upd_same
    have gw : upd (upd (upd H sD (.dT [])) bD (.dT [])) wD (.dT []) wD = some (.dT []) := upd_same
    have xs : FrN H sD := FrN.none hsD
    have xb : FrN H bD := ea.back (FrN.none hbD) ((ea.g g).ne hbD)
    have xw : FrN H wD := eb.back (FrN.none hwD) ((eb.g g).ne hwD)
    have ys := g.ne hsD
    have yb := (ea.g g).ne hbD
    have yw := (eb.g g).ne hwD
    generalize upd (upd (upd H sD (.dT [])) bD (.dT [])) wD (.dT []) = H1 at ec gb gs gw ⊢
    refine ⟨_, rfl, s.k, sA, rfl, gw, ec.pl g hs, ?_⟩
    have ed := ec.put (o := .dT (dI [(s, 0)])) xw gw rfl yw
    have hd : upd H1 wD (.dT (dI [(s, 0)])) wD = some (.dT (dI [(s, 0)])) := upd_same
    have hdS : upd H1 wD (.dT (dI [(s, 0)])) sD = some (.dT (dI [])) := by rw [upd_ne nSW]; exact gs
    have hdB : upd H1 wD (.dT (dI [(s, 0)])) bD = some (.dT (bkV [])) := by rw [upd_ne nBW]; exact gb
    change EX T ex H (upd H1 wD (.dT [(s.k, .int 0)])) at ed
    change upd H1 wD (.dT [(s.k, .int 0)]) wD = _ at hd
    change upd H1 wD (.dT [(s.k, .int 0)]) sD = _ at hdS
    change upd H1 wD (.dT [(s.k, .int 0)]) bD = _ at hdB
    generalize upd H1 wD (.dT [(s.k, .int 0)]) = H2 at ed hd hdS hdB ⊢
    refine ⟨fun m σ H' => ∃ (S Ws : List (Pl × Int)) (L : BkL) (o1 o2 o3 o4 o5 o6 o7 : Option V), σ = [some (.ref gA), some (.ref sA), some (.ref eA), some (.ref sD), some (.ref bD), some (.ref wD), o1, o2, o3, o4, o5, o6, o7] ∧ m = W.pls.length - S.length ∧ EX T ex H H' ∧ H' sD = some (.dT (dI S)) ∧ H' wD = some (.dT (dI Ws)) ∧ BkAt W.pls H' bD L ∧
        DJ W.E W.pls s (Bof L) S Ws noOpn ∧ lk S e = none, ⟨_, [], [(s, 0)], [], none, none, none, none, none, none, none, rfl, rfl, ed, hdS, hd, ⟨hdB, (fun q hq => nomatch hq), List.nodup_nil, fun q hq => nomatch hq⟩, DJ.start (Wd.mem_pls.mpr hfl), rfl⟩, ?_⟩
    rintro m σ H3 ⟨S, Ws, L, o1, o2, o3, o4, o5, o6, o7, rfl, rfl, e3, hS3, hW3, hB3, D, hSe⟩
    refine ⟨_, rfl, wD, _, rfl, hW3, ?_⟩
    refine iteB (fun hc => ?_) (fun hc => ?_)
    · have hne : Ws ≠ [] := by
        rintro rfl
        cases hc
      have hlW := D.lenW
      refine ⟨_, fun σ' H' h => h, ?_⟩
      refine ⟨_, rfl, wD, Ws, rfl, e3.g g, hW3, hne, by omega, D.ndW, fun t p d H4 e4 ht hpd hmin => ?_⟩
      have e04 := e3.trans e4
      have g3 := e3.g g
      have g4 := e04.g g
      refine ⟨t, _, rfl, SqT.of ht, rfl, _, _, rfl, _, _, rfl, _, _, rfl, _, _, rfl, rfl, ?_⟩
      refine ⟨_, rfl, _, rfl, _, rfl, (by show 3 ≤ sizeLine; decide), fun pA hpA => ?_⟩
      have e5 := e04.trans (EX.new (o := .tup [.int p.1, .int p.2.1, .int p.2.2]) hpA)
      have e45 : EX T ex H4 (upd H4 pA (.tup [.int p.1, .int p.2.1, .int p.2.2])) := EX.new hpA
      have hp5 : PlAt (upd H4 pA (.tup [.int p.1, .int p.2.1, .int p.2.2])) pA p := upd_same
      generalize upd H4 pA (.tup [.int p.1, .int p.2.1, .int p.2.2]) = H5 at e5 e45 hp5 ⊢
      have e35 := e4.trans e45
      have g5 := e5.g g
      have hS5 := e35.dT g3 hS3
      have hW5 := e35.dT g3 hW3
      have hB5 := hB3.ext e35 g3
      refine ⟨_, rfl, _, rfl, _, _, hp5.dp, (e5.pl g he).dp, plD_shaped _, plD_shaped _, _, rfl, ?_⟩
      rw [plD_eqv]
      refine ite2 (fun hpe => ?_) (fun hpe => ?_)
      · have hpe : p = e := of_decide_eq_true hpe
        refine ⟨_, rfl, _, rfl, _, rfl, (by show 3 ≤ sizeLine; decide), fun t2 ht2 => ?_⟩
        have e6 : EX T ex H5 (upd H5 t2 (.tup [.ref sD, .ref bD, .int d])) := EX.new ht2
        exact k t2 sD bD (.int d) S Ws L _ (e5.trans e6) upd_same (e6.dT g5 hS5) (hB5.ext e6 g5) D (.inr ⟨d, rfl, by rw [← hpe]; exact hpd, hmin⟩)
      · have hpe : ¬ p = e := fun h => hpe (decide_eq_true h)
        obtain ⟨D1, d1, d2, d3, d4, d5⟩ := D.pop hpd hmin
        have hS1e : lk (pt S p d) e = none := by rw [lk_pt, if_neg fun z => hpe z.symm]; exact hSe
        refine ⟨_, rfl, .inr (.inr (.inl ⟨rfl, .inr ⟨_, hW5⟩⟩)), _, rfl, wD, _, p.k, pA, .int d, rfl, rfl, hW5, hp5, by rw [valV_dI, hpd]; rfl, ?_⟩
        have e6 := e5.put (o := .dT (dropK (dI Ws) p.k)) xw hW5 rfl yw
        have hW6 : upd H5 wD (.dT (dropK (dI Ws) p.k)) wD = some (.dT (dI (dp Ws p))) := by rw [upd_same, dI_drop]
        have hS6 : upd H5 wD (.dT (dropK (dI Ws) p.k)) sD = some (.dT (dI S)) := by rw [upd_ne nSW]; exact hS5
        have hB6 : BkAt W.pls (upd H5 wD (.dT (dropK (dI Ws) p.k))) bD L := hB5.putD nBW hW5
        have hp6 : PlAt (upd H5 wD (.dT (dropK (dI Ws) p.k))) pA p := hp5.putD hW5
        generalize upd H5 wD (.dT (dropK (dI Ws) p.k)) = H6 at e6 hW6 hS6 hB6 hp6 ⊢
        refine ⟨_, rfl, _, rfl, _, rfl, sD, _, rfl, DPut.t (k := p.k) hS6 hp6 (by rw [dI_len]; exact small40 (by omega)), ?_⟩
        rw [dI_put]
        have e7 := e6.put (o := .dT (dI (pt S p d))) xs hS6 rfl ys
        have hS7 : upd H6 sD (.dT (dI (pt S p d))) sD = some (.dT (dI (pt S p d))) := upd_same
        have hW7 : upd H6 sD (.dT (dI (pt S p d))) wD = some (.dT (dI (dp Ws p))) := by rw [upd_ne nSW.symm]; exact hW6
        have hB7 : BkAt W.pls (upd H6 sD (.dT (dI (pt S p d)))) bD L := hB6.putD nSB.symm hS6
        have hp7 : PlAt (upd H6 sD (.dT (dI (pt S p d)))) pA p := hp6.putD hS6
        generalize upd H6 sD (.dT (dI (pt S p d))) = H7 at e7 hS7 hW7 hB7 hp7 ⊢
        have g7 := e7.g g
        refine ⟨_, rfl, gA, dx, _, rfl, e7.ins g hGo, gfs_no _ _ _ _ (by decide +kernel) (by decide +kernel) (by decide +kernel) (by decide +kernel), _, rfl, gA, pA, W, p, rfl, g7, hW, e7.gr g hG, hp7, fun l es H8 e8 hst hes => ?_⟩
        have e78 := e7.trans e8
        refine ⟨l, rfl, ⟨_, hst.choose_spec.2.1.sq⟩, for_list (K := K) (a := l) (xs := hst.choose.map fun q => V.ref q.1) (fun i σ H' => ∃ (Ws' : List (Pl × Int)) (L' : BkL) (o1 o2 : Option V), σ = [some (.ref gA), some (.ref sA), some (.ref eA), some (.ref sD), some (.ref bD), some (.ref wD), some (.int d), some (.int p.2.1), some (.int p.1), some (.int p.2.2), some (.ref pA), o1, o2] ∧
          EX T ex H H' ∧ H' sD = some (.dT (dI (pt S p d))) ∧ H' wD = some (.dT (dI Ws')) ∧ BkAt W.pls H' bD L' ∧ PlAt H' pA p ∧ LI ex H' l (hst.choose.map fun q => V.ref q.1) ∧ (∀ q ∈ hst.choose, H' q.1 = some (.tup [.ref q.2.1, .int q.2.2.2]) ∧ PlAt H' q.2.1 q.2.2.1) ∧
          DJ W.E W.pls s (Bof L') (pt S p d) Ws' (fun p' q c => p' = p ∧ (q, c) ∈ es.drop i)) ?_ (fun i σ H' _ h => ?_) ?_ ?_⟩
        · refine ⟨dp Ws p, L, _, _, rfl, e78, e8.dT g7 hS7, e8.dT g7 hW7, hB7.ext e8 g7, e8.pl g7 hp7, hst.choose_spec.2.1, hst.choose_spec.2.2, D1.weak fun p' q c _ hE ho => ⟨ho, ?_⟩⟩
          rw [List.drop_zero]
          exact (hes.2 q c).mpr (ho ▸ hE)
        · obtain ⟨Ws', L', o1, o2, rfl, e9, hS9, hW9, hB9, hp9, hl9, _⟩ := h
          exact hl9.sq
        · rintro i y σ H9 hi ⟨Ws', L', o1, o2, rfl, e9, hS9, hW9, hB9, hp9, hl9, hL9, D9⟩
          rw [List.getElem?_map] at hi
          cases ez : hst.choose[i]? with
          | none => rw [ez] at hi; cases hi
          | some z =>
            rw [ez] at hi
            obtain rfl : V.ref z.1 = y := Option.some.inj hi
            have hz := hL9 z (List.mem_of_getElem? ez)
            have hei : es[i]? = some z.2.2 := by rw [hst.choose_spec.1, List.getElem?_map, ez]; rfl
            have hdr : es.drop i = z.2.2 :: es.drop (i + 1) := by
              obtain ⟨hil, hx⟩ := List.getElem?_eq_some_iff.mp hei
              rw [← hx]
              exact List.drop_eq_getElem_cons hil
            have hE : W.E p z.2.2.1 z.2.2.2 := (hes.2 _ _).mp (List.mem_of_getElem? hei)
            have hqV : z.2.2.1 ∈ W.pls := Wd.mem_pls.mpr hE.1
            have hlW := D9.lenW
            have hlB := hB9.len
            have hs0 : lk (pt S p d) s ≠ none := by
              rcases D1.st with h | ⟨h, _⟩
              · rw [h]; simp
              · rw [h] at d3; cases d3
            have hwk : ∀ p' q' c', (p' = p ∧ (q', c') ∈ es.drop i) ∧ ¬ (p' = p ∧ q' = z.2.2.1 ∧ c' = z.2.2.2) → p' = p ∧ (q', c') ∈ es.drop (i + 1) := by
              rintro p' q' c' ⟨⟨h1, h2⟩, h3⟩
              refine ⟨h1, ?_⟩
              rw [hdr] at h2
              rcases List.mem_cons.mp h2 with h2 | h2
              · exact absurd ⟨h1, congrArg (·.1) h2, congrArg (·.2) h2⟩ h3
              · exact h2
            refine ⟨z.1, _, rfl, SqT.of hz.1, rfl, _, _, rfl, _, _, rfl, rfl, ?_⟩
            refine ⟨_, rfl, _, rfl, sD, _, rfl, DGet.t (k := z.2.2.1.k) hS9 hz.2, _, rfl, ?_⟩
            rw [valV_dI, Option.isSome_map]
            refine iteB (fun hc1 => ?_) (fun hc1 => ?_)
            · have hns : lk (pt S p d) z.2.2.1 = none := by
                cases e : lk (pt S p d) z.2.2.1 with
                | none => rfl
                | some x => rw [e] at hc1; cases hc1
              refine ⟨_, rfl, _, rfl, _, _, rfl, rfl, _, rfl, wD, rfl, .inr ⟨_, .inl hW9⟩, _, rfl, _, rfl, _, rfl, _, _, rfl, rfl, _, _, rfl, rfl, _, DGet.t (k := z.2.2.1.k) hW9 hz.2, ?_⟩
              rw [valV_dI, getD_int]
              refine ⟨_, _, rfl, rfl, _, rfl, ?_⟩
              refine ite2 (fun hlt => ?_) (fun hlt => ?_)
              · have hlt : d + z.2.2.2 < (lk Ws' z.2.2.1).getD (d + z.2.2.2 + 1) := of_decide_eq_true hlt
                refine ⟨_, rfl, _, rfl, _, _, rfl, rfl, _, rfl, _, rfl, wD, _, rfl, DPut.t (k := z.2.2.1.k) hW9 hz.2 (by rw [dI_len]; exact small40 (by omega)), ?_⟩
                rw [dI_put]
                have eA := e9.put (o := .dT (dI (pt Ws' z.2.2.1 (d + z.2.2.2)))) xw hW9 rfl yw
                have hWA : upd H9 wD (.dT (dI (pt Ws' z.2.2.1 (d + z.2.2.2)))) wD = some (.dT (dI (pt Ws' z.2.2.1 (d + z.2.2.2)))) := upd_same
                have hSA : upd H9 wD (.dT (dI (pt Ws' z.2.2.1 (d + z.2.2.2)))) sD = some (.dT (dI (pt S p d))) := by rw [upd_ne nSW]; exact hS9
                have hBA : BkAt W.pls (upd H9 wD (.dT (dI (pt Ws' z.2.2.1 (d + z.2.2.2))))) bD L' := hB9.putD nBW hW9
                have hpA : PlAt (upd H9 wD (.dT (dI (pt Ws' z.2.2.1 (d + z.2.2.2))))) pA p := hp9.putD hW9
                have hlA : LI ex (upd H9 wD (.dT (dI (pt Ws' z.2.2.1 (d + z.2.2.2))))) l (hst.choose.map fun q => V.ref q.1) := ⟨putD hW9 hl9.1 (fun z e => nomatch e), hl9.2⟩
                have hLA : ∀ q ∈ hst.choose, upd H9 wD (.dT (dI (pt Ws' z.2.2.1 (d + z.2.2.2)))) q.1 = some (.tup [.ref q.2.1, .int q.2.2.2]) ∧ PlAt (upd H9 wD (.dT (dI (pt Ws' z.2.2.1 (d + z.2.2.2))))) q.2.1 q.2.2.1 := fun q hq => ⟨putD hW9 (hL9 q hq).1 (fun z e => nomatch e), (hL9 q hq).2.putD hW9⟩
                generalize upd H9 wD (.dT (dI (pt Ws' z.2.2.1 (d + z.2.2.2)))) = HA at eA hWA hSA hBA hpA hlA hLA ⊢
                have hzA := hLA z (List.mem_of_getElem? ez)
                refine ⟨_, rfl, _, rfl, _, rfl, bD, _, rfl, DPut.t (k := z.2.2.1.k) hBA.at_ hzA.2 (by unfold bkV; rw [List.length_map]; exact small40 (by omega)), ?_⟩
                refine ⟨_, pt L' z.2.2.1 (pA, p), _, _, rfl, eA.put xb hBA.at_ rfl yb, by rw [upd_ne nSB]; exact hSA, by rw [upd_ne nBW.symm]; exact hWA, hBA.put hpA hqV, hpA.putD hBA.at_, ⟨putD hBA.at_ hlA.1 (fun z e => nomatch e), hlA.2⟩,
                  fun q hq => ⟨putD hBA.at_ (hLA q hq).1 (fun z e => nomatch e), (hLA q hq).2.putD hBA.at_⟩, ?_⟩
                rw [Bof_pt]
                refine (D9.relax hpos d3 d4 hE hqV hns (fun d' hd' => ?_) hs0).weak fun p' q' c' _ _ h => hwk p' q' c' h
                rw [hd'] at hlt
                exact hlt
              · refine ⟨Ws', L', _, _, rfl, e9, hS9, hW9, hB9, hp9, hl9, hL9, (D9.skip hpos d3 d4 hE (.inr ?_)).weak fun p' q' c' _ _ h => hwk p' q' c' h⟩
                have hlt : ¬ d + z.2.2.2 < (lk Ws' z.2.2.1).getD (d + z.2.2.2 + 1) := fun h => hlt (decide_eq_true h)
                cases e : lk Ws' z.2.2.1 with
                | none =>
                  rw [e] at hlt
                  exact absurd (by show d + z.2.2.2 < d + z.2.2.2 + 1; omega) hlt
                | some x =>
                  rw [e] at hlt
                  have hlt : ¬ d + z.2.2.2 < x := hlt
                  exact ⟨x, rfl, by omega⟩
            · refine ⟨Ws', L', _, _, rfl, e9, hS9, hW9, hB9, hp9, hl9, hL9, (D9.skip hpos d3 d4 hE (.inl ?_)).weak fun p' q' c' _ _ h => hwk p' q' c' h⟩
              intro e
              rw [e] at hc1
              cases hc1
        · rintro σ H9 ⟨Ws', L', o1, o2, rfl, e9, hS9, hW9, hB9, hp9, hl9, hL9, D9⟩
          refine ⟨_, ?_, pt S p d, Ws', L', _, _, _, _, _, _, _, rfl, rfl, e9, hS9, hW9, hB9, D9.weak fun p' q' c' _ _ h => ?_, hS1e⟩
          · rw [d1]
            omega
          · have h2 := h.2
            have hle : es.length ≤ (hst.choose.map fun q => V.ref q.1).length := by
              have := congrArg List.length hst.choose_spec.1
              rw [List.length_map] at this ⊢
              exact Nat.le_of_eq this
            rw [List.drop_of_length_le hle] at h2
            cases h2
    · have hWs : Ws = [] := by
        cases Ws with
        | nil => rfl
        | cons a b => cases hc
      refine ⟨_, rfl, _, rfl, (by show 3 ≤ sizeLine; decide), fun t ht => ?_⟩
      have e4 : EX T ex H3 (upd H3 t (.tup [.ref sD, .ref bD, .non])) := EX.new ht
      exact k t sD bD .non S Ws L _ (e3.trans e4) upd_same (e4.dT (e3.g g) hS3) (hB3.ext e4 (e3.g g)) D (.inl ⟨rfl, hWs, hSe⟩)
end
end K76
namespace K76
open PySem PySem.Spec PyProof.Rows L2 LamX
/-- a table of code objects, as the def that makes the lambda sees it -/
structure TbOk (T : TbT) (base : Heap) (mg : Str → Option Value) (c P : Addr) (q : Str) : Prop where
  tb : TabB base mg c P
  mem : (P, q) ∈ T
  uniq : ∀ p ∈ T, p.1 = P → p.2 = q
section
variable {P : Program} {w : World} {K : PySem.W.Frag} {mg : Str → Option Value} {base : Heap}
/-- a def's own rule, its code object known -/
theorem fn_ruleC {x q : Str} {st : Stmt} {f : Addr} {fd : FuncData} {N ps : List Str} {k : Nat} {sp : Sp} {d : He.Defn} (F : FnP K x q st f fd) (hf : f = He.fAd K d) (S : FnScope N ps (defScope st)) (len : ∀ vs H Q E, sp vs H Q E → vs.length = ps.length)
    (hbody : ∀ (A : Around) (outer : List Env) (s : Shared) (H : Hp) (vs : List V) (Q : VK) (E : XK), Room k (A.deeper (envOfC q (defScope st) s.heap.objs.size f (.ref (He.cT K d).1))) → sp vs H Q E →
      ∃ t, PSs (cxOf CX0 P w K mg base N q (defScope st) f (.ref (He.cT K d).1) A outer s H E).nox (defBody st) t ∧ t { nx := fun _ H' => Q .non H', rt := Q } (start N vs) H) : FnOk P w K mg base CX0 (k + 1) f fd ps sp := by
  obtain ⟨oc, od, dV, kV, doc, pm, an, cdv, ct, osl, rfl, lk, hcd, _, _⟩ := F.ex
  obtain ⟨c, rfl⟩ := He.codeIn_ref hcd
  have e : He.codeOf K d = c := He.codeOf_eq (by rw [← hf]; exact lk) rfl
  have e2 : (He.cT K d).1 = c := e
  rw [e2] at hbody
  exact fn_of lk hcd S len fun A outer s H vs Q E hr hsp => let ⟨t, h1, h2⟩ := hbody A outer s H vs Q E hr hsp
    ⟨t, h1.nox, h2⟩
end
theorem op_catTK {X : Cx} {K : PySem.W.Frag} (h : X.K = K := by rfl) : OpR X (binaryOp .Add) (rCatT K) := h ▸ op_catT
theorem op_catAK {X : Cx} {K : PySem.W.Frag} (h : X.K = K := by rfl) : OpR X (binaryOp .Add) (rCatA K) := h ▸ op_catA
theorem lpMark : ∀ (params : Arguments) (body : Expr) (scope : Scope), True := fun _ _ _ => trivial
/-- a price paper -/
def PaperAt (ex : List Addr) (H : Hp) (a : Addr) (paid : Int) (way : List Pl) (marks : List (Pl × Int)) : Prop := ∃ wA mA, H a = some (.tup [.str "price", .int paid, .ref wA, .ref mA]) ∧ PlsAt ex H wA way ∧ MksAt ex H mA marks
theorem EX.paper {T : TbT} {ex : List Addr} {H H' : Hp} (e : EX T ex H H') (g : Gd T ex H) {a : Addr} {paid : Int} {way : List Pl} {marks : List (Pl × Int)} (h : PaperAt ex H a paid way marks) : PaperAt ex H' a paid way marks := by
  obtain ⟨wA, mA, h1, h2, h3⟩ := h
  exact ⟨wA, mA, e.tup g h1, e.pls g h2, e.mks g h3⟩
def spCheapest (G C : Addr) (T : TbT) (ex : List Addr) : Sp := fun vs H Q _ => ∃ (gA sA eA : Addr) (W : Wd) (s e : Pl), vs = [.ref gA, .ref sA, .ref eA] ∧ Gd T ex H ∧ W.Ok ∧ GrAt G C ex H gA W ∧ PlAt H sA s ∧ PlAt H eA e ∧ W.fl s ∧
  (∀ H', EX T ex H H' → (∀ d, ¬ Wk W.E s e d) → Q .non H') ∧
  ∀ (a : Addr) (paid : Int) (way : List Pl) (marks : List (Pl × Int)) (H' : Hp), EX T ex H H' → PaperAt ex H' a paid way marks → Taken W.J W.fl s e paid way marks → way.length ≤ 40 → marks.length ≤ 40 → Q (.ref a) H'
/-- how far a floor is, in the search's two tables -/
def far (S Ws : List (Pl × Int)) (p : Pl) : Int := match lk S p with
  | some d => d
  | none => (lk Ws p).getD 0
theorem perm_map {α β : Type} {f : α → β} : ∀ {l : List α} {m : List β}, m.Perm (l.map f) → ∃ l' : List α, l'.Perm l ∧ m = l'.map f := by
  intro l m h
  generalize hn : l.map f = n at h
  induction h generalizing l with
  | nil => exact ⟨[], by
      have : l = [] := List.map_eq_nil_iff.mp hn
      rw [this], rfl⟩
  | @cons x l1 l2 h ih =>
    cases l with
    | nil => cases hn
    | cons a r =>
      rw [List.map_cons] at hn
      injection hn with h1 h2
      obtain ⟨l', p, e⟩ := ih h2
      exact ⟨a :: l', p.cons a, by rw [e, ← h1]; rfl⟩
  | swap x y t =>
    cases l with
    | nil => cases hn
    | cons a r =>
      cases r with
      | nil => cases hn
      | cons b r =>
        rw [List.map_cons, List.map_cons] at hn
        injection hn with h1 h2
        injection h2 with h2 h3
        exact ⟨b :: a :: r, .swap a b r, by rw [← h1, ← h2, ← h3]; rfl⟩
  | trans h1 h2 ih1 ih2 =>
    obtain ⟨l1, p1, e1⟩ := ih2 hn
    obtain ⟨l2, p2, e2⟩ := ih1 e1.symm
    exact ⟨l2, p2.trans p1, e2⟩
theorem atI_last {α : Type} (l : List α) (a : α) : atI (l ++ [a]) (-1) = some a := by
  unfold atI ixN
  rw [if_neg (by decide), List.length_append, List.length_singleton, if_pos (by omega)]
  show (l ++ [a])[_]? = _
  have : (-1 + ((l.length + 1 : Nat) : Int)).toNat = l.length := by omega
  rw [this]
  simp
section
variable {P : Program} {w : World} {K : PySem.W.Frag} {mg : Str → Option Value} {base : Heap} {T : TbT} {ex : List Addr} {G C : Addr}
def nCheapest : List Str := ["ground", "start", "goal", "settled", "back", "paid", "way", "marks", "place"]
theorem scCheapest : FnScope nCheapest ["ground", "start", "goal"] (defScope sCheapest) := ⟨rfl, rfl, rfl, by decide +kernel, rfl, by decide +kernel, by decide +kernel⟩
def qCheapest : Str := "cheapest_floors.<locals>.<lambda>"
theorem ok_cheapest {f : Addr} {fd : FuncData} (F : FnP K "cheapest_floors" "cheapest_floors" sCheapest f fd) (hf : f = He.fAd K ("cheapest_floors", none)) (TB : TbOk T base mg (He.cT K ("cheapest_floors", none)).1 (He.cT K ("cheapest_floors", none)).2 qCheapest)
    (mS : mg "sorted" = none) (DS : Df P w K mg base 5 "search" ["ground", "start", "goal"] (spSearch G C T ex)) :
    FnOk P w K mg base CX0 6 f fd ["ground", "start", "goal"] (spCheapest G C T ex) := by
  refine fn_ruleC F hf scCheapest (fun vs H Q E h => ?_) (fun A outer s0 H vs Q E hr h => ?_)
  · obtain ⟨gA, sA, eA, W, s, e, rfl, _⟩ := h
    rfl
  · obtain ⟨gA, sA, eA, W, s, e, rfl, g, hW, hG, hs, he, hfl, kN, k⟩ := h
    have hu := hu_of hr
    refine ⟨_, pss_cons (ps_asg (pe_df DS hr rfl (pa_cons (pv 0) (pa_cons (pv 1) (pa_cons (pv 2) pa_nil)))) (pg_tup (by rfl) (pgs_cons (pg_name (i := 3) scCheapest.nd rfl (.inr rfl)) (pgs_cons (pg_name (i := 4) scCheapest.nd rfl (.inl rfl)) (pgs_cons (pg_name (i := 5) scCheapest.nd rfl (.inl rfl)) pgs_nil)))))
      (pss_cons (ps_if (pt_cmp (pc_isN (pv 5))) (pss_one (ps_ret pe_non)) pss_nil)
      (pss_cons (ps_set (i := 6) scCheapest.nd rfl (.inl rfl) (pe_lst (pa_cons (pv 2) pa_nil)))
      (pss_cons (ps_while PassesOwn.never (pt_cmpR (op_neD hr.units) (pe_ix (ix_listK (K := K)) (pv 6) (pe_un un_neg pe_int) (fun _ _ => rfl)) (pv 1) (nomark _))
        (pss_one (ps_expr (pe_bm PySem.F.plainAttrs_list PySem.F.slot_list_append PySem.F.type_list_append mt_append (pv 6) (pa_cons (pe_dget hu (pv 4) (pe_ix (ix_listK (K := K)) (pv 6) (pe_un un_neg pe_int) (fun _ _ => rfl)) (fun _ _ => rfl)) pa_nil)))))
      (pss_cons (ps_set (i := 7) scCheapest.nd rfl (.inl rfl) (pe_sortLamL (ns := [1, 0, 2]) (a := "mark") ⟨TB.tb, rfl, TB.mem, TB.uniq, show ("cheapest_floors" ++ ".<locals>." ++ "<lambda>" : Str) = qCheapest from by decide +kernel⟩ ⟨rfl, rfl, rfl, by decide +kernel, by decide +kernel, rfl, fun _ _ _ _ _ => rfl, by decide, ⟨_, _, _, rfl, .cons (.cons (.cons .nil))⟩, by decide, by decide⟩ hr rfl mS
        (pe_lock (pe_lc (own := [("place", 8)]) (g := gName 8) (tt := tYes) rfl scCheapest.nd (pi_keys (pv 3)) (blkOk_by (N := nCheapest) (sc := defScope sCheapest) (by decide +kernel)) (fun _ _ _ _ _ => pg_name (i := 8) scCheapest.nd rfl (Or.inl rfl)) (fun _ _ _ _ _ => pts_nil)
          (fun _ _ _ _ _ => pe_op (op_catTK (K := K)) (pv 8) (pe_tup (pa_cons (pe_dget hu (pv 3) (pv 8) (fun _ _ => rfl)) pa_nil)))))))
      (pss_one (ps_ret (pe_tup (pa_cons pe_str (pa_cons (pv 5) (pa_cons (pe_revL (pv 6)) (pa_cons (pv 7) pa_nil))))))))))), ?_⟩
    have hpos : ∀ p q c, W.E p q c → 0 < c := fun p q c h => (hW.cost_pos h).1
    have hV := hW.pls_len
    refine ⟨_, rfl, _, rfl, _, rfl, gA, sA, eA, W, s, e, rfl, g, hW, hG, hs, he, hfl, fun t sD bD v S Ws L H1 e1 ht hS1 hB1 D hv => ?_⟩
    have g1 := e1.g g
    refine ⟨t, _, rfl, SqT.of ht, rfl, _, _, rfl, _, _, rfl, _, _, rfl, rfl, ?_⟩
    refine ⟨_, rfl, _, rfl, ?_⟩
    rcases hv with ⟨rfl, rfl, hSe⟩ | ⟨paid, rfl, hpd, hmin⟩
    · refine ite2 (fun _ => kN H1 e1 (D.none hSe)) (fun h => absurd (decide_eq_true rfl) h)
    · refine ite2 (fun h => absurd (of_decide_eq_true h) (by intro z; cases z)) (fun _ => ?_)
      refine ⟨_, rfl, (by show 1 ≤ sizeLine; decide), fun wA hwA => ?_⟩
      have nwA := g1.ne hwA
      have eW : EX T ex H1 (upd H1 wA (.lst [.ref eA])) := EX.new hwA
      have hwW : upd H1 wA (.lst [.ref eA]) wA = some (.lst [.ref eA]) := upd_same
      generalize upd H1 wA (.lst [.ref eA]) = HW at eW hwW ⊢
      refine ⟨fun m σ H' => ∃ (x : Pl) (a : Addr) (r : List Pl) (M : List (Addr × Pl)), σ = [some (.ref gA), some (.ref sA), some (.ref eA), some (.ref sD), some (.ref bD), some (.int paid), some (.ref wA), none, none] ∧ m = 40 - M.length ∧ EX T ex H1 H' ∧ H' wA = some (.lst ((M ++ [(a, x)]).map fun q => V.ref q.1)) ∧
        M.map (·.2) = r.reverse ∧ (∀ q ∈ M ++ [(a, x)], PlAt H' q.1 q.2) ∧ Way W.J W.pls S Ws e paid x r ∧ (x :: r).Pairwise (fun p q => far S Ws p < far S Ws q), ⟨_, e, eA, [], [], rfl, rfl, eW, hwW, rfl, (fun q hq => by
          rw [List.nil_append, List.mem_singleton] at hq
          rw [hq]
          exact (e1.trans eW).pl g he), Way.start D hpd, List.pairwise_singleton _ _⟩, ?_⟩
      rintro m σ H2 ⟨x, a, r, M, rfl, rfl, e2, hw2, hM, hMp, wy, pw⟩
      have hax : PlAt H2 a x := hMp (a, x) (List.mem_append_right _ (List.mem_singleton.mpr rfl))
      have hat : atI ((M ++ [(a, x)]).map fun q => V.ref q.1) (-1) = some (.ref a) := by rw [List.map_append]; exact atI_last _ _
      have g2 := e2.g g1
      have e12 := e1.trans e2
      have nodup : ∀ l : List Pl, l.Pairwise (fun p q => far S Ws p < far S Ws q) → l.Nodup := fun l h => h.imp fun {p q} hlt he => by
        rw [he] at hlt
        exact absurd hlt (Int.lt_irrefl _)
      refine ⟨_, rfl, _, rfl, wA, _, _, _, rfl, rfl, SqL.of hw2, hat, _, rfl, _, _, hax.dp, (e12.pl g hs).dp, plD_shaped _, plD_shaped _, _, rfl, ?_⟩
      rw [plD_eqv]
      refine iteB (fun hc => ?_) (fun hc => ?_)
      · have hx : x ≠ s := fun z => by
          rw [decide_eq_true z] at hc
          cases hc
        obtain ⟨p, d0, d1, b1, b2, b3, b4, b5, b6⟩ := wy.back Wd.JE hpos D hx
        have b1 : (lk L x).map (·.2) = some p := b1
        cases eL : lk L x with
        | none => rw [eL] at b1; cases b1
        | some z =>
          rw [eL] at b1
          have ez : z.2 = p := Option.some.inj b1
          have hzp : PlAt H1 z.1 p := by
            have := hB1.pl (x, z) (lk_mem eL)
            rw [← ez]
            exact this
          have hget : DGet H2 bD (.ref a) (some (.ref z.1)) := by
            have hv : valV (bkV L) x.k = some (.ref z.1) := by rw [hB1.get, eL]; rfl
            rw [← hv]
            exact DGet.t (e2.dT g1 hB1.at_) hax
          have fp : far S Ws p = d0 := by
            unfold far
            rw [b3]
          have fx : far S Ws x = d1 := by
            unfold far
            rcases b4 with h | h
            · rw [h]
            · rw [D.dis x d1 h, h]
              rfl
          have pw2 : (p :: x :: r).Pairwise (fun p q => far S Ws p < far S Ws q) := by
            refine List.pairwise_cons.mpr ⟨fun y hy => ?_, pw⟩
            rcases List.mem_cons.mp hy with h | h
            · rw [h, fp, fx]
              exact b6
            · have := (List.pairwise_cons.mp pw).1 y h
              rw [fp]
              rw [fx] at this
              omega
          have hlen := len_le_of_sub (nodup _ pw2) b2.1
          have hMl := congrArg List.length hM
          rw [List.length_map, List.length_reverse] at hMl
          rw [List.length_cons, List.length_cons] at hlen
          refine ⟨_, fun σ' H' h => h, ?_⟩
          refine ⟨_, rfl, .inl ⟨rfl, _, SqL.of hw2⟩, _, rfl, _, rfl, _, rfl, wA, _, _, _, rfl, rfl, SqL.of hw2, hat, bD, _, rfl, hget, wA, _, _, rfl, rfl, hw2, ?_, ?_⟩
          · rw [List.length_map, List.length_append, List.length_singleton]
            exact small40 (by omega)
          · refine ⟨_, ?_, p, z.1, x :: r, M ++ [(a, x)], rfl, rfl, e2.put (FrN.none hwA) hw2 rfl nwA, ?_, ?_, fun q hq => ?_, b2, pw2⟩
            · rw [List.length_append, List.length_singleton]
              omega
            · rw [upd_same, List.map_append (l₁ := M ++ [(a, x)])]
              rfl
            · rw [List.map_append, hM, List.reverse_cons]
              rfl
            · have : PlAt H2 q.1 q.2 := by
                rcases List.mem_append.mp hq with h | h
                · exact hMp q h
                · rw [List.mem_singleton.mp h]
                  exact e2.pl g1 hzp
              unfold PlAt
              rw [upd_ne (ne_of this hw2 (by intro z; cases z))]
              exact this
      · have hx : x = s := Classical.byContradiction fun z => by
          rw [decide_eq_false z] at hc
          cases hc
        subst hx
        have hS2 := e2.dT g1 hS1
        refine ⟨sD, _, hS2, trivial, fun od => ?_⟩
        have gl : Gd T ex (upd H2 sD (.frz od (.dT (dI S)))) := g2.upd hS2 rfl
        have hSl : upd H2 sD (.frz od (.dT (dI S))) sD = some (.frz od (.dT (dI S))) := upd_same
        have hwl : upd H2 sD (.frz od (.dT (dI S))) wA = some (.lst ((M ++ [(a, x)]).map fun q => V.ref q.1)) := by rw [upd_ne (ne_of hw2 hS2 (by intro z; cases z))]; exact hw2
        generalize hHl : upd H2 sD (.frz od (.dT (dI S))) = Hl at gl hSl hwl ⊢
        refine ⟨_, rfl, sD, od, rfl, .inr ⟨_, hSl, fun LD hLD => ?_⟩⟩
        have nD := gl.ne hLD
        have hlS := D.lenS
        refine lc_it walk_keysT (fun i H' => EX T ex Hl H' ∧ ∃ N : List (Addr × Pl × Int), N.map (·.2) = S.take i ∧ H' LD = some (.lst (N.map fun q => V.ref q.1)) ∧ ∀ q ∈ N, H' q.1 = some (.tup (q.2.1.v ++ [.int q.2.2])))
          ⟨EX.new hLD, [], rfl, upd_same, (fun q hq => nomatch hq)⟩ (fun i H' _ h => h.1.keep gl hSl rfl) ?_ ?_
        · rintro i y H3 H3' hi ⟨e3, N, m1, m2, m3⟩ ⟨rfl, kk, vv, qA, hk, rfl, hq⟩
          rw [dI_len] at hi
          unfold dI at hk
          rw [List.getElem?_map, List.getElem?_eq_getElem hi] at hk
          cases hk
          have hv : valV (dI S) (S[i]).1.k = some (.int (S[i]).2) := by
            rw [valV_dI, lk_of_mem D.ndS (show ((S[i]).1, (S[i]).2) ∈ S from List.getElem_mem hi)]
            rfl
          have htk : S.take (i + 1) = S.take i ++ [S[i]] := by rw [List.take_succ, List.getElem?_eq_getElem hi]; rfl
          generalize S[i] = z at hq hv htk
          have hwf := e3.keep gl hSl rfl
          have hq : H3' qA = some (.tup z.1.v) := hq
          have g3 := e3.g gl
          refine ⟨rfl, _, rfl, _, rfl, _, rfl, sD, _, rfl, .inr ⟨_, z.1.k, qA, .inr ⟨od, hwf⟩, rfl, hq, hv.symm⟩, (by show 1 ≤ sizeLine; decide), fun t1 ht1 => ?_⟩
          have e4 : EX T ex H3' (upd H3' t1 (.tup [.int z.2])) := EX.new ht1
          have hq4 := e4.tup g3 hq
          have ht4 : upd H3' t1 (.tup [.int z.2]) t1 = some (.tup [.int z.2]) := upd_same
          have hD4 := e4.k LD _ m2 nD (fun ps z => nomatch z)
          have m4 : ∀ q ∈ N, upd H3' t1 (.tup [.int z.2]) q.1 = some (.tup (q.2.1.v ++ [.int q.2.2])) := fun q hq => e4.tup g3 (m3 q hq)
          have e34 := e3.trans e4
          generalize upd H3' t1 (.tup [.int z.2]) = H4 at e34 hq4 ht4 hD4 m4 ⊢
          refine ⟨qA, t1, _, _, rfl, rfl, SqT.of hq4, SqT.of ht4, (by intro z; cases z), (by show 4 ≤ sizeLine; decide), (fun h => nomatch h), fun _ t2 ht2 => ?_⟩
          have g4 := e34.g gl
          have e5 : EX T ex H4 (upd H4 t2 (.tup (z.1.v ++ [.int z.2]))) := EX.new ht2
          have ht5 : upd H4 t2 (.tup (z.1.v ++ [.int z.2])) t2 = some (.tup (z.1.v ++ [.int z.2])) := upd_same
          have hD5 := e5.k LD _ hD4 nD (fun ps z => nomatch z)
          have m5 : ∀ q ∈ N, upd H4 t2 (.tup (z.1.v ++ [.int z.2])) q.1 = some (.tup (q.2.1.v ++ [.int q.2.2])) := fun q hq => e5.tup g4 (m4 q hq)
          have e35 := e34.trans e5
          generalize upd H4 t2 (.tup (z.1.v ++ [.int z.2])) = H5 at e35 ht5 hD5 m5 ⊢
          refine ⟨_, hD5, ?_, e35.put (FrN.none hLD) hD5 rfl nD, N ++ [(t2, z)], ?_, ?_, fun q hq => ?_⟩
          · rw [List.length_map]
            have h1 := congrArg List.length m1
            rw [List.length_map] at h1
            have h2 := (List.take_sublist i S).length_le
            exact small40 (by omega)
          · rw [List.map_append, m1, htk]
            rfl
          · rw [upd_same, List.map_append]
            rfl
          · have : H5 q.1 = some (.tup (q.2.1.v ++ [.int q.2.2])) := by
              rcases List.mem_append.mp hq with h | h
              · exact m5 q h
              · rw [List.mem_singleton] at h
                rw [h]
                exact ht5
            rw [upd_ne (ne_of this hD5 (by intro z; cases z))]
            exact this
        · rintro H3 ⟨e3, N, m1, m2, m3⟩
          rw [dI_len, List.take_length] at m1
          have hwf := e3.keep gl hSl rfl
          have hw3 := e3.k wA _ hwl nwA (fun ps z => nomatch z)
          rw [← hHl] at e3
          have e4 := e3.lockOut g2 hS2 rfl rfl hwf
          have hD4 : upd H3 sD (.dT (dI S)) LD = some (.lst (N.map fun q => V.ref q.1)) := by rw [upd_ne (ne_of m2 hwf (by intro z; cases z))]; exact m2
          have hw4 : upd H3 sD (.dT (dI S)) wA = some (.lst ((M ++ [(a, x)]).map fun q => V.ref q.1)) := by rw [upd_ne (ne_of hw3 hwf (by intro z; cases z))]; exact hw3
          have m4 : ∀ q ∈ N, upd H3 sD (.dT (dI S)) q.1 = some (.tup (q.2.1.v ++ [.int q.2.2])) := fun q hq => by rw [upd_ne (ne_of (m3 q hq) hwf (by intro z; cases z))]; exact m3 q hq
          refine ⟨hwf, ?_⟩
          generalize upd H3 sD (.dT (dI S)) = H4 at e4 hD4 hw4 m4 ⊢
          have g4 := e4.g g2
          refine ⟨g4.tabs, fun H5 ex5 T5 => ?_⟩
          have e5 : EX T ex H4 H5 := EX.ofN ex5 T5
          have g5 := e5.g g4
          have hD5 := e5.k LD _ hD4 nD (fun ps z => nomatch z)
          have hw5 := e5.k wA _ hw4 nwA (fun ps z => nomatch z)
          have m5 : ∀ q ∈ N, H5 q.1 = some (.tup (q.2.1.v ++ [.int q.2.2])) := fun q hq => e5.tup g4 (m4 q hq)
          refine ⟨LD, N.map fun q => (q.1, q.2.1.n ++ [q.2.2]), rfl, ?_, ?_, fun p L' hp hperm => ?_⟩
          · rw [List.map_map]
            exact SqL.of hD5
          · intro z hz
            obtain ⟨q, hq, rfl⟩ := List.mem_map.mp hz
            exact ⟨m5 q hq, fun i hi => by
              simp only [List.mem_cons, List.not_mem_nil, or_false] at hi
              show i < 4
              omega⟩
          · obtain ⟨N', hN', rfl⟩ := perm_map hperm
            rw [List.map_map]
            have e6 : EX T ex H5 (upd H5 p (.lst (N'.map fun q => V.ref q.1))) := EX.new hp
            have l6 : LI ex (upd H5 p (.lst (N'.map fun q => V.ref q.1))) p (N'.map fun q => V.ref q.1) := LI.new g5 hp
            have m6 : MksAt ex (upd H5 p (.lst (N'.map fun q => V.ref q.1))) p (N'.map (·.2)) := ⟨N', rfl, l6, fun q hq => e6.tup g5 (m5 q (hN'.mem_iff.mp hq))⟩
            have hw6 := e6.k wA _ hw5 nwA (fun ps z => nomatch z)
            have e46 := (e4.trans e5).trans e6
            change EX T ex H2 (upd H5 p (.lst (N'.map ((fun z => V.ref z.1) ∘ fun q => (q.1, q.2.1.n ++ [q.2.2]))))) at e46
            change MksAt ex (upd H5 p (.lst (N'.map ((fun z => V.ref z.1) ∘ fun q => (q.1, q.2.1.n ++ [q.2.2]))))) p (N'.map (·.2)) at m6
            change upd H5 p (.lst (N'.map ((fun z => V.ref z.1) ∘ fun q => (q.1, q.2.1.n ++ [q.2.2])))) wA = _ at hw6
            generalize upd H5 p (.lst (N'.map ((fun z => V.ref z.1) ∘ fun q => (q.1, q.2.1.n ++ [q.2.2])))) = H6 at e46 m6 hw6 ⊢
            have g6 := e46.g g2
            refine ⟨_, rfl, _, rfl, wA, _, rfl, SqL.of hw6, fun wB hwB => ?_⟩
            have e7 : EX T ex H6 (upd H6 wB (.lst ((M ++ [(a, x)]).map fun q => V.ref q.1).reverse)) := EX.new hwB
            have l7 : LI ex (upd H6 wB (.lst ((M ++ [(a, x)]).map fun q => V.ref q.1).reverse)) wB ((M ++ [(a, x)]).map fun q => V.ref q.1).reverse := LI.new g6 hwB
            have m7 := e7.mks g6 m6
            have e27 := e46.trans e7
            generalize upd H6 wB (.lst ((M ++ [(a, x)]).map fun q => V.ref q.1).reverse) = H7 at e27 l7 m7 ⊢
            have g7 := e27.g g2
            have w7 : PlsAt ex H7 wB (x :: r) := ⟨(M ++ [(a, x)]).reverse, by
              rw [List.map_reverse, List.map_append, hM, List.reverse_append, List.reverse_reverse]
              rfl, by rw [List.map_reverse]; exact l7, fun q hq => e27.pl g2 (hMp q (List.mem_reverse.mp hq))⟩
            refine ⟨_, rfl, (by show 4 ≤ sizeLine; decide), fun pp hpp => ?_⟩
            have e8 : EX T ex H7 (upd H7 pp (.tup [.str "price", .int paid, .ref wB, .ref p])) := EX.new hpp
            have hperm2 : (N'.map (·.2)).Perm S := by rw [← m1]; exact hN'.map _
            have hlw := len_le_of_sub (nodup _ pw) wy.1
            refine k pp paid (x :: r) (N'.map (·.2)) _ (e12.trans (e27.trans e8)) ⟨wB, p, upd_same, e8.pls g7 w7, e8.mks g7 m7⟩ (D.taken Wd.JE (fun q hq => Wd.mem_pls.mp hq) hpd hmin wy hperm2) (by omega) ?_
            rw [hperm2.length_eq]
            omega
end
end K76
namespace K76
open PySem PySem.Spec PyProof.Rows L2 LamX
theorem wl_take {α : Type} {J : α → α → Option Int} : ∀ {r : List α} {p : α} {i : Nat} {t : Int} {x y : α}, wl J p (r.take i) = some t → (p :: r)[i]? = some x → r[i]? = some y →
    (∀ c, J x y = some c → wl J p (r.take (i + 1)) = some (t + c)) ∧ (J x y = none → wl J p r = none)
  | [], _, _, _, _, _, _, _, h => by simp at h
  | q :: r, p, 0, t, x, y, h1, h2, h3 => by
    simp at h2 h3
    subst h2 h3
    have ht : t = 0 := (Option.some.inj h1).symm
    subst ht
    refine ⟨fun c hc => ?_, fun hc => ?_⟩
    · show wl J p [q] = _
      unfold wl
      rw [hc]
      show some (c + 0) = some (0 + c)
      congr 1
      omega
    · unfold wl
      rw [hc]
  | q :: r, p, i + 1, t, x, y, h1, h2, h3 => by
    rw [List.take_succ_cons] at h1 ⊢
    rw [List.getElem?_cons_succ] at h2 h3
    unfold wl at h1 ⊢
    cases e : J p q with
    | none => rw [e] at h1; cases h1
    | some c0 =>
      rw [e] at h1
      cases e2 : wl J q (r.take i) with
      | none => rw [e2] at h1; cases h1
      | some t2 =>
        rw [e2] at h1
        have h1 : c0 + t2 = t := Option.some.inj h1
        obtain ⟨a, b⟩ := wl_take e2 h2 h3
        refine ⟨fun c hc => ?_, fun hc => ?_⟩
        · show (wl J q (r.take (i + 1))).map (fun x => c0 + x) = _
          rw [a c hc]
          show some (c0 + (t2 + c)) = some (t + c)
          congr 1
          omega
        · show (wl J q r).map (fun x => c0 + x) = none
          rw [b hc]
          rfl
/-- what a way costs, as data: none, or a number -/
def spWayCost (G C : Addr) (T : TbT) (ex : List Addr) : Sp := fun vs H Q _ => ∃ (gA wA : Addr) (W : Wd) (way : List Pl), vs = [.ref gA, .ref wA] ∧ Gd T ex H ∧ W.Ok ∧ GrAt G C ex H gA W ∧ PlsAt ex H wA way ∧ way.length ≤ 100 ∧
  ∀ H', EX T ex H H' → (∀ paid, wcost W.J W.fl way paid → Q (.int paid) H') ∧ ((∀ paid, ¬ wcost W.J W.fl way paid) → Q .non H')
section
variable {P : Program} {w : World} {K : PySem.W.Frag} {mg : Str → Option Value} {base : Heap} {T : TbT} {ex : List Addr} {G C : Addr}
def nWayCost : List Str := ["ground", "way", "total", "at", "paid", "place"]
theorem scWayCost : FnScope nWayCost ["ground", "way"] (defScope sWayCost) := ⟨rfl, rfl, rfl, by decide +kernel, rfl, by decide +kernel, by decide +kernel⟩
theorem ok_way_cost {f : Addr} {fd : FuncData} (F : FnP K "way_cost" "way_cost" sWayCost f fd) (X : GTxt K G) (mA : mg "all" = none) (mR : mg "range" = none) (mL : mg "len" = none)
    (DH : Dm P w K mg base G 1 "has" ["self", "place"] (spHas G C T ex)) (DJ : Dm P w K mg base G 5 "joined_cost" ["self", "one", "other"] (spJoined G C T ex)) :
    FnOk P w K mg base CX0 6 f fd ["ground", "way"] (spWayCost G C T ex) := by
  refine fn_rule F scWayCost (fun vs H Q E h => ?_) (fun cdv A outer s0 H vs Q E hr h => ?_)
  · obtain ⟨gA, wA, W, way, rfl, _⟩ := h
    rfl
  · obtain ⟨gA, wA, W, way, rfl, g, hW, hG, hway, hlen, k⟩ := h
    have hu := hu_of hr
    refine ⟨_, pss_cons (ps_if (PW.pt (pw_or (pt_not (pt_truth (pv 1) (fun _ => rfl))) (pw_or1 (pt_not (pt_val (pe_callB (cr_all rfl) (by rfl) mA (by decide +kernel) (pa_cons (pe_lc (own := [("place", 5)]) (g := gName 5) (tt := tYes) rfl scWayCost.nd (pi_list (pv 1)) (blkOk_by (N := nWayCost) (sc := defScope sWayCost) (by decide +kernel)) (fun _ _ _ _ _ => pg_name (i := 5) scWayCost.nd rfl (Or.inl rfl)) (fun _ _ _ _ _ => pts_nil)
        (fun _ _ _ _ _ => pe_dm DH X.cl (hr.mono (by decide)) (pv 0) (pa_cons (pv 5) pa_nil))) pa_nil))))))) (pss_one (ps_ret pe_non)) pss_nil)
      (pss_cons (ps_set (i := 2) scWayCost.nd rfl (.inl rfl) pe_int)
      (pss_cons (ps_for PassesOwn.never rfl (pi_range1 rfl mR (pa_cons (pe_op op_sub (pe_callB call_len (by rfl) mL (by decide +kernel) (pa_cons (pv 1) pa_nil)) pe_int) pa_nil)) (pg_name (i := 3) scWayCost.nd rfl (.inl rfl))
        (pss_cons (ps_set (i := 4) scWayCost.nd rfl (.inl rfl) (pe_dm DJ X.cl hr (pv 0) (pa_cons (pe_ix (ix_listK (K := K)) (pv 1) (pv 3) (fun _ _ => rfl)) (pa_cons (pe_ix (ix_listK (K := K)) (pv 1) (pe_op op_add (pv 3) pe_int) (fun _ _ => rfl)) pa_nil))))
        (pss_cons (ps_if (pt_cmp (pc_isN (pv 4))) (pss_one (ps_ret pe_non)) pss_nil)
        (pss_one (ps_set (i := 2) scWayCost.nd rfl (.inl rfl) (pe_op op_add (pv 2) (pv 4)))))))
      (pss_one (ps_ret (pv 2))))), ?_⟩
    obtain ⟨dx, stA, fA, aA, hGo, hS, hF, hA⟩ := id hG
    obtain ⟨L, eL, hLl, hLt⟩ := id hway
    refine ⟨_, rfl, !(L.map fun q => V.ref q.1).isEmpty, .inl ⟨_, hLl.sq, rfl⟩, ?_⟩
    refine iteB (fun hc => ?_) (fun hc => ?_)
    · have : way = [] := by
        cases L with
        | nil => exact eL
        | cons a b => cases hc
      refine (k H (EX.refl H)).2 fun paid h => ?_
      obtain ⟨_, p, r, h, _⟩ := h
      rw [this] at h
      cases h
    · have hne : way ≠ [] := by
        rw [eL]
        cases L with
        | nil => cases hc
        | cons a b => intro z; cases z
      refine ⟨_, rfl, wA, rfl, ⟨_, hLl.sq⟩, fun D hD => ?_⟩
      have nD := g.ne hD
      have hLlen : L.length = way.length := by rw [eL, List.length_map]
      refine lc_list (K := K) (a := wA) (xs := L.map fun q => V.ref q.1) (fun i H' => EX T ex H H' ∧ ∃ bs : List Bool, H' D = some (.lst (bs.map V.bl)) ∧ bs.length ≤ i ∧ (bs.all id = true ↔ ∀ p ∈ way.take i, W.fl p))
        ⟨EX.new hD, [], upd_same, Nat.le_refl 0, ⟨fun _ p hp => (nomatch hp), fun _ => rfl⟩⟩ (fun i H' _ h => (h.1.li hLl).sq) ?_ ?_
      · rintro i y H' hi ⟨e1, bs, hDl, hbl, hbs⟩
        have hi40 := (List.getElem?_eq_some_iff.mp hi).1
        rw [List.length_map, hLlen] at hi40
        rw [List.getElem?_map] at hi
        cases ez : L[i]? with
        | none => rw [ez] at hi; cases hi
        | some z =>
          rw [ez] at hi
          obtain rfl : V.ref z.1 = y := Option.some.inj hi
          have hz := e1.pl g (hLt z (List.mem_of_getElem? ez))
          have hwi : way[i]? = some z.2 := by rw [eL, List.getElem?_map, ez]; rfl
          have htk : way.take (i + 1) = way.take i ++ [z.2] := by rw [List.take_succ, hwi]; rfl
          refine ⟨rfl, _, rfl, gA, dx, _, rfl, e1.ins g hGo, gfs_no _ _ _ _ (by decide +kernel) (by decide +kernel) (by decide +kernel) (by decide +kernel), _, rfl, gA, z.1, W, z.2, rfl, e1.g g, hW, e1.gr g hG, hz, fun bb H2 e2 hb => ?_⟩
          have hD2 := e2.k D _ hDl nD (fun ps z => nomatch z)
          refine ⟨_, hD2, by rw [List.length_map]; exact small40 (by omega), (e1.trans e2).put (FrN.none hD) hD2 rfl nD, bs ++ [bb], ?_, ?_, ?_⟩
          · rw [upd_same, List.map_append]
            rfl
          · rw [List.length_append, List.length_singleton]
            omega
          · rw [htk, List.all_append, Bool.and_eq_true, hbs]
            constructor
            · rintro ⟨h1, h2⟩ p hp
              rcases List.mem_append.mp hp with h | h
              · exact h1 p h
              · rw [List.mem_singleton.mp h]
                refine hb.mp ?_
                simpa using h2
            · intro h
              refine ⟨fun p hp => h p (List.mem_append_left _ hp), ?_⟩
              have := hb.mpr (h z.2 (List.mem_append_right _ (List.mem_singleton.mpr rfl)))
              simpa using this
      · rintro H1 ⟨e1, bs, hDl, hbl, hbs⟩
        rw [List.length_map, hLlen, List.take_length] at hbs
        refine ⟨D, bs, rfl, SqL.of hDl, _, rfl, ?_⟩
        refine iteB (fun hc => ?_) (fun hc => ?_)
        · refine (k H1 e1).2 fun paid h => ?_
          rw [hbs.mpr h.1] at hc
          cases hc
        · have hall : ∀ p ∈ way, W.fl p := hbs.mp (by cases e : bs.all id with
            | true => rfl
            | false => rw [e] at hc; cases hc)
          have g1 := e1.g g
          have hL1 := e1.li hLl
          obtain ⟨p, r, hpr⟩ : ∃ p r, way = p :: r := by
            cases way with
            | nil => exact absurd rfl hne
            | cons a b => exact ⟨a, b, rfl⟩
          have hwl : way.length = r.length + 1 := by rw [hpr]; rfl
          refine ⟨_, rfl, _, (L.map fun q => V.ref q.1).length, rfl, .inl ⟨_, hL1.sq, rfl⟩, _, _, rfl, rfl, _, rfl, ?_, ?_, ?_⟩
          · rw [List.length_map]
            omega
          · rw [List.length_map]
            omega
          refine for_range (fun i σ H' => EX T ex H1 H' ∧ ∃ (t : Int) (o3 o4 : Option V), σ = [some (.ref gA), some (.ref wA), some (.int t), o3, o4, none] ∧ wl W.J p (r.take i) = some t) ⟨EX.refl _, 0, none, none, rfl, rfl⟩ ?_ ?_
          · rintro i σ H2 hi ⟨e2, t, o3, o4, rfl, ht⟩
            rw [List.length_map] at hi
            have hir : i < r.length := by omega
            have hL2 := e2.li hL1
            obtain ⟨z1, hz1⟩ : ∃ z, L[i]? = some z := ⟨_, List.getElem?_eq_getElem (by omega)⟩
            obtain ⟨z2, hz2⟩ : ∃ z, L[i + 1]? = some z := ⟨_, List.getElem?_eq_getElem (by omega)⟩
            have hw1 : (p :: r)[i]? = some z1.2 := by rw [← hpr, eL, List.getElem?_map, hz1]; rfl
            have hw2 : r[i]? = some z2.2 := by
              have : (p :: r)[i + 1]? = some z2.2 := by rw [← hpr, eL, List.getElem?_map, hz2]; rfl
              rw [List.getElem?_cons_succ] at this
              exact this
            have p1 := e2.pl g1 (e1.pl g (hLt z1 (List.mem_of_getElem? hz1)))
            have p2 := e2.pl g1 (e1.pl g (hLt z2 (List.mem_of_getElem? hz2)))
            obtain ⟨ws, wn⟩ := wl_take ht hw1 hw2
            have e12 := e1.trans e2
            refine ⟨_, rfl, gA, dx, _, rfl, e12.ins g hGo, gfs_no _ _ _ _ (by decide +kernel) (by decide +kernel) (by decide +kernel) (by decide +kernel), _, rfl, _, rfl, wA, _, _, _, rfl, rfl, hL2.sq, at_of (j := i) (by omega) (by rw [List.getElem?_map, hz1]; rfl),
              _, rfl, _, rfl, _, _, rfl, rfl, wA, _, _, _, rfl, rfl, hL2.sq, at_of (j := i + 1) (by omega) (by rw [List.getElem?_map, hz2]; rfl), gA, z1.1, z2.1, W, z1.2, z2.2, rfl, e12.g g, hW, e12.gr g hG, p1, p2, fun H3 e3 => ⟨fun c hc => ?_, fun hc => ?_⟩⟩
            · refine ⟨_, rfl, _, rfl, ite2 (fun h => absurd (of_decide_eq_true h) (by intro z; cases z)) (fun _ => ?_)⟩
              refine ⟨_, rfl, _, rfl, _, _, rfl, rfl, ?_⟩
              exact ⟨e2.trans e3, _, _, _, rfl, ws c hc⟩
            · refine ⟨_, rfl, _, rfl, ite2 (fun h => ?_) (fun h => absurd (decide_eq_true rfl) h)⟩
              refine (k H3 (e12.trans e3)).2 fun paid hp => ?_
              obtain ⟨_, p', r', h1, h2⟩ := hp
              rw [hpr] at h1
              cases h1
              rw [wn hc] at h2
              cases h2
          · rintro σ H2 ⟨e2, t, o3, o4, rfl, ht⟩
            refine ⟨_, rfl, (k H2 (e1.trans e2)).1 t ⟨hall, p, r, hpr, ?_⟩⟩
            rw [List.take_of_length_le (by rw [List.length_map]; omega)] at ht
            exact ht
end
end K76
namespace K76
open PySem PySem.Spec PyProof.Rows L2 LamX
/-- what the marks must keep -/
structure MarksOk (W : Wd) (s : Pl) (paid : Int) (marks : List (Pl × Int)) : Prop where
  nd : (marks.map (·.1)).Nodup
  fls : ∀ m ∈ marks, W.fl m.1
  le : ∀ m ∈ marks, m.2 ≤ paid
  st : (lk marks s).getD paid ≤ 0
  step : ∀ m ∈ marks, ∀ q c, W.J m.1 q = some c → (lk marks q).getD paid ≤ m.2 + c
def spMarksHold (G C : Addr) (T : TbT) (ex : List Addr) : Sp := fun vs H Q _ => ∃ (gA sA mA : Addr) (W : Wd) (s : Pl) (paid : Int) (marks : List (Pl × Int)), vs = [.ref gA, .ref sA, .int paid, .ref mA] ∧ Gd T ex H ∧ W.Ok ∧ GrAt G C ex H gA W ∧ PlAt H sA s ∧ MksAt ex H mA marks ∧ marks.length ≤ 100 ∧
  ∀ (b : Bool) H', EX T ex H H' → (b = true ↔ MarksOk W s paid marks) → Q (.bl b) H'
theorem nodup_snoc {α β : Type} {l : List (α × β)} {i : Nat} {z : α × β} (hz : l[i]? = some z) (hn : (l.map (·.1)).Nodup) : ∀ v, (z.1, v) ∉ l.take i := by
  intro v hv
  have ht : l.take (i + 1) = l.take i ++ [z] := by rw [List.take_succ, hz]; rfl
  have h4 : ((l.take (i + 1)).map (·.1)).Nodup := hn.sublist (List.Sublist.map _ (List.take_sublist _ _))
  rw [ht, List.map_append, List.nodup_append] at h4
  exact h4.2.2 z.1 (List.mem_map.mpr ⟨_, hv, rfl⟩) z.1 (by simp) rfl
section
variable {P : Program} {w : World} {K : PySem.W.Frag} {mg : Str → Option Value} {base : Heap} {T : TbT} {ex : List Addr} {G C : Addr}
def nMarksHold : List Str := ["ground", "start", "paid", "marks", "known", "mark", "place", "other", "more"]
theorem scMarksHold : FnScope nMarksHold ["ground", "start", "paid", "marks"] (defScope sMarksHold) := ⟨rfl, rfl, rfl, by decide +kernel, rfl, by decide +kernel, by decide +kernel⟩
theorem ok_marks_hold {f : Addr} {fd : FuncData} (F : FnP K "marks_hold" "marks_hold" sMarksHold f fd) (X : GTxt K G)
    (DH : Dm P w K mg base G 1 "has" ["self", "place"] (spHas G C T ex)) (DS : Dm P w K mg base G 4 "steps" ["self", "place"] (spSteps G C T ex)) :
    FnOk P w K mg base CX0 5 f fd ["ground", "start", "paid", "marks"] (spMarksHold G C T ex) := by
  refine fn_rule F scMarksHold (fun vs H Q E h => ?_) (fun cdv A outer s0 H vs Q E hr h => ?_)
  · obtain ⟨gA, sA, mA, W, s, paid, marks, rfl, _⟩ := h
    rfl
  · obtain ⟨gA, sA, mA, W, s, paid, marks, rfl, g, hW, hG, hs, hM, hlen, k⟩ := h
    have hu := hu_of hr
    refine ⟨_, pss_cons (ps_set (i := 4) scMarksHold.nd rfl (.inl rfl) pe_dnewT)
      (pss_cons (ps_for PassesOwn.never rfl (pi_list (pv 3)) (pg_name (i := 5) scMarksHold.nd rfl (.inl rfl))
        (pss_cons (ps_set (i := 6) scMarksHold.nd rfl (.inl rfl) (pe_slice sl_tup (pv 5) po_none (po_some pe_int)))
        (pss_cons (ps_if (PW.pt (pw_or (pt_cmp (pc_din hu (pv 6) (pv 4))) (pw_or (pt_not (pt_val (pe_dm DH X.cl (hr.mono (by decide)) (pv 0) (pa_cons (pv 6) pa_nil)))) (pw_or1 (pt_cmpR op_gt (pe_ix ix_tup (pv 5) pe_int (fun _ _ => rfl)) (pv 2) (nomark _)))))) (pss_one (ps_ret pe_bl)) pss_nil)
        (pss_one (ps_dput hu (pv 4) (pv 6) (pe_ix ix_tup (pv 5) pe_int (fun _ _ => rfl)) rfl)))))
      (pss_cons (ps_if (pt_cmpR op_gt (pe_dget2 hu (pv 4) (pv 1) (pv 2) ⟨rfl, rfl, rfl, rfl⟩) pe_int (nomark _)) (pss_one (ps_ret pe_bl)) pss_nil)
      (pss_cons (ps_lock (ps_for PassesOwn.never rfl (pi_keys (pv 4)) (pg_name (i := 6) scMarksHold.nd rfl (.inl rfl))
        (pss_one (ps_for PassesOwn.never rfl (pi_list (pe_dm DS X.cl hr (pv 0) (pa_cons (pv 6) pa_nil))) (pg_tup (by rfl) (pgs_cons (pg_name (i := 7) scMarksHold.nd rfl (.inl rfl)) (pgs_cons (pg_name (i := 8) scMarksHold.nd rfl (.inl rfl)) pgs_nil)))
          (pss_one (ps_if (pt_cmpR op_gt (pe_dget2 hu (pv 4) (pv 7) (pv 2) ⟨rfl, rfl, rfl, rfl⟩) (pe_op op_add (pe_dget hu (pv 4) (pv 6) (fun _ _ => rfl)) (pv 8)) (nomark _)) (pss_one (ps_ret pe_bl)) pss_nil))))))
      (pss_one (ps_ret pe_bl))))), ?_⟩
    obtain ⟨dx, stA, fA, aA, hGo, hS, hF, hA⟩ := id hG
    obtain ⟨L, eL, hLl, hLt⟩ := id hM
    have hLlen : L.length = marks.length := by rw [eL, List.length_map]
    intro kD hkD
    have nk := g.ne hkD
    have e0 : EX T ex H (upd H kD (.dT [])) := EX.new hkD
    have hk0 : upd H kD (.dT []) kD = some (.dT (dI [])) := upd_same
    generalize upd H kD (.dT []) = H0 at e0 hk0 ⊢
    refine ⟨_, rfl, mA, rfl, ⟨_, (e0.li hLl).sq⟩, for_list (K := K) (a := mA) (xs := L.map fun q => V.ref q.1) (fun i σ H' => EX T ex H H' ∧ ∃ o5 o6 : Option V, σ = [some (.ref gA), some (.ref sA), some (.int paid), some (.ref mA), some (.ref kD), o5, o6, none, none] ∧ H' kD = some (.dT (dI (marks.take i))) ∧
      ((marks.take i).map (·.1)).Nodup ∧ ∀ m ∈ marks.take i, W.fl m.1 ∧ m.2 ≤ paid) ⟨e0, none, none, rfl, hk0, List.nodup_nil, fun m hm => nomatch hm⟩ (fun i σ H' _ h => (h.1.li hLl).sq) ?_ ?_⟩
    · rintro i y σ H1 hi ⟨e1, o5, o6, rfl, hk1, hnd, hok⟩
      have hi40 := (List.getElem?_eq_some_iff.mp hi).1
      rw [List.length_map, hLlen] at hi40
      rw [List.getElem?_map] at hi
      cases ez : L[i]? with
      | none => rw [ez] at hi; cases hi
      | some z =>
        rw [ez] at hi
        obtain rfl : V.ref z.1 = y := Option.some.inj hi
        have hz := e1.tup g (hLt z (List.mem_of_getElem? ez))
        have hmi : marks[i]? = some z.2 := by rw [eL, List.getElem?_map, ez]; rfl
        have hmm := List.mem_of_getElem? hmi
        have htk : marks.take (i + 1) = marks.take i ++ [z.2] := by rw [List.take_succ, hmi]; rfl
        have g1 := e1.g g
        refine ⟨_, rfl, _, rfl, z.1, z.2.1.v ++ [.int z.2.2], rfl, SqT.of hz, (by show ¬ (0 = 0 ∧ 3 = 4); omega), fun pA hpA => ?_⟩
        rw [show cutV (z.2.1.v ++ [.int z.2.2]) none (some 3) = z.2.1.v from rfl]
        have e2 : EX T ex H1 (upd H1 pA (.tup z.2.1.v)) := EX.new hpA
        have hp2 : PlAt (upd H1 pA (.tup z.2.1.v)) pA z.2.1 := upd_same
        have hz2 := e2.tup g1 hz
        have hk2 := e2.dT g1 hk1
        have e12 := e1.trans e2
        generalize upd H1 pA (.tup z.2.1.v) = H2 at e12 hp2 hz2 hk2 ⊢
        have no : (¬ MarksOk W s paid marks) → ∀ H', EX T ex H H' → Q (.bl false) H' := fun h H' e => k false H' e ⟨(fun z => nomatch z), fun z => absurd z h⟩
        refine ⟨_, rfl, _, rfl, kD, _, rfl, DGet.t (k := z.2.1.k) hk2 hp2, _, rfl, ?_⟩
        rw [valV_dI, Option.isSome_map]
        refine iteB (fun hc => ?_) (fun hc => ?_)
        · refine no (fun h => ?_) H2 e12
          cases e : lk (marks.take i) z.2.1 with
          | none => rw [e] at hc; cases hc
          | some v => exact nodup_snoc hmi h.nd v (lk_mem e)
        · have hnew : lk (marks.take i) z.2.1 = none := by
            cases e : lk (marks.take i) z.2.1 with
            | none => rfl
            | some v => rw [e] at hc; cases hc
          refine ⟨_, rfl, gA, dx, _, rfl, e12.ins g hGo, gfs_no _ _ _ _ (by decide +kernel) (by decide +kernel) (by decide +kernel) (by decide +kernel), _, rfl, gA, pA, W, z.2.1, rfl, e12.g g, hW, e12.gr g hG, hp2, fun bb H3 e3 hb => ?_⟩
          have e13 := e12.trans e3
          have g2 := e12.g g
          have g3 := e13.g g
          have hz3 := e3.tup g2 hz2
          have hk3 := e3.dT g2 hk2
          have hp3 := e3.pl g2 hp2
          refine ⟨_, rfl, ?_⟩
          refine iteB (fun hc2 => ?_) (fun hc2 => ?_)
          · refine no (fun h => ?_) H3 e13
            have := hb.mpr (h.fls z.2 hmm)
            rw [this] at hc2
            cases hc2
          · have hfl : W.fl z.2.1 := hb.mp (by cases bb with
              | true => rfl
              | false => cases hc2)
            refine ⟨_, rfl, z.1, _, _, _, rfl, rfl, SqT.of hz3, at_of (j := 3) rfl rfl, _, rfl, _, _, rfl, rfl, _, rfl, ?_⟩
            refine ite2 (fun hc3 => ?_) (fun hc3 => ?_)
            · refine no (fun h => ?_) H3 e13
              have := h.le z.2 hmm
              have : z.2.2 > paid := of_decide_eq_true hc3
              omega
            · have hle : z.2.2 ≤ paid := by
                have : ¬ z.2.2 > paid := fun h => hc3 (decide_eq_true h)
                omega
              refine ⟨_, rfl, z.1, _, _, _, rfl, rfl, SqT.of hz3, at_of (j := 3) rfl rfl, _, rfl, _, rfl, kD, _, rfl, DPut.t (k := z.2.1.k) hk3 hp3 (by rw [dI_len]; exact small40 (by have := (List.take_sublist i marks).length_le; omega)), ?_⟩
              rw [dI_put]
              refine ⟨e13.put (FrN.none hkD) hk3 rfl nk, _, _, rfl, ?_, ?_, fun m hm => ?_⟩
              · rw [upd_same, pt_new _ hnew, htk]
              · rw [htk, List.map_append, List.nodup_append]
                refine ⟨hnd, by simp, fun a ha b hb => ?_⟩
                rw [List.map_cons, List.map_nil, List.mem_singleton] at hb
                rw [hb]
                rintro rfl
                exact lk_keys_iff.mp ha hnew
              · rw [htk] at hm
                rcases List.mem_append.mp hm with h | h
                · exact hok m h
                · rw [List.mem_singleton.mp h]
                  exact ⟨hfl, hle⟩
    · rintro σ H1 ⟨e1, o5, o6, rfl, hk1, hnd, hok⟩
      rw [List.length_map, hLlen, List.take_length] at hk1 hnd hok
      have g1 := e1.g g
      have no : (¬ MarksOk W s paid marks) → ∀ H', EX T ex H H' → Q (.bl false) H' := fun h H' e => k false H' e ⟨(fun z => nomatch z), fun z => absurd z h⟩
      refine ⟨_, rfl, kD, rfl, .inr ⟨_, .inl hk1⟩, _, rfl, _, rfl, _, DGet.t (k := s.k) hk1 (e1.pl g hs), ?_⟩
      rw [valV_dI, getD_int]
      refine ⟨_, _, rfl, rfl, _, rfl, ?_⟩
      refine ite2 (fun hc => ?_) (fun hc => ?_)
      · refine no (fun h => ?_) H1 e1
        have h1 := h.st
        have : (lk marks s).getD paid > 0 := of_decide_eq_true hc
        omega
      · have hst : (lk marks s).getD paid ≤ 0 := by
          have : ¬ (lk marks s).getD paid > 0 := fun h => hc (decide_eq_true h)
          omega
        refine ⟨kD, _, hk1, trivial, fun od => ?_⟩
        have eHl : EX T ex H (upd H1 kD (.frz od (.dT (dI marks)))) := e1.put (FrN.none hkD) hk1 rfl nk
        have hkl : upd H1 kD (.frz od (.dT (dI marks))) kD = some (.frz od (.dT (dI marks))) := upd_same
        have gl := eHl.g g
        generalize upd H1 kD (.frz od (.dT (dI marks))) = Hl at eHl hkl gl ⊢
        have out : ∀ H2, EX T ex H H2 → H2 kD = some (.frz od (.dT (dI marks))) → EX T ex H (upd H2 kD (.dT (dI marks))) := fun H2 e h => e.put (FrN.none hkD) h rfl nk
        refine ⟨_, rfl, kD, od, rfl, .inr ⟨_, hkl, for_it walk_keysT (fun i σ H' => EX T ex Hl H' ∧ ∃ o6 o7 o8 : Option V, σ = [some (.ref gA), some (.ref sA), some (.int paid), some (.ref mA), some (.ref kD), o5, o6, o7, o8] ∧
          ∀ m ∈ marks.take i, ∀ q c, W.J m.1 q = some c → (lk marks q).getD paid ≤ m.2 + c) ⟨EX.refl _, _, _, _, rfl, fun m hm => nomatch hm⟩ (fun i σ H' _ h => h.1.keep gl hkl rfl) ?_ ?_⟩⟩
        · rintro i y σ H2 H2' hi ⟨e2, o6, o7, o8, rfl, hst2⟩ ⟨rfl, kk, vv, qA, hk, rfl, hq⟩
          rw [dI_len] at hi
          unfold dI at hk
          rw [List.getElem?_map, List.getElem?_eq_getElem hi] at hk
          cases hk
          have hv : valV (dI marks) (marks[i]).1.k = some (.int (marks[i]).2) := by
            rw [valV_dI, lk_of_mem hnd (show ((marks[i]).1, (marks[i]).2) ∈ marks from List.getElem_mem hi)]
            rfl
          have htk : marks.take (i + 1) = marks.take i ++ [marks[i]] := by rw [List.take_succ, List.getElem?_eq_getElem hi]; rfl
          have hzm : marks[i] ∈ marks := List.getElem_mem hi
          generalize marks[i] = z at hq hv htk hzm
          have hq : PlAt H2' qA z.1 := hq
          have eH2 := eHl.trans e2
          have g2 := eH2.g g
          refine ⟨_, rfl, gA, dx, _, rfl, eH2.ins g hGo, gfs_no _ _ _ _ (by decide +kernel) (by decide +kernel) (by decide +kernel) (by decide +kernel), _, rfl, gA, qA, W, z.1, rfl, g2, hW, eH2.gr g hG, hq, fun l es H3 e3 hst3 hes => ?_⟩
          obtain ⟨Ls, eLs, hLsl, hLst⟩ := hst3
          have e23 := e2.trans e3
          have eH3 := eHl.trans e23
          have g3 := eH3.g g
          refine ⟨l, rfl, ⟨_, hLsl.sq⟩, for_list (K := K) (a := l) (xs := Ls.map fun q => V.ref q.1) (fun j σ H' => H' = H3 ∧ ∃ o7 o8 : Option V, σ = [some (.ref gA), some (.ref sA), some (.int paid), some (.ref mA), some (.ref kD), o5, some (.ref qA), o7, o8] ∧ ∀ x ∈ es.take j, (lk marks x.1).getD paid ≤ z.2 + x.2)
            ⟨rfl, _, _, rfl, fun x hx => nomatch hx⟩ (fun j σ H' _ h => by rw [h.1]; exact hLsl.sq) ?_ ?_⟩
          · rintro j y σ H4 hj ⟨rfl, o7, o8, rfl, hjs⟩
            rw [List.getElem?_map] at hj
            cases ez : Ls[j]? with
            | none => rw [ez] at hj; cases hj
            | some u =>
              rw [ez] at hj
              obtain rfl : V.ref u.1 = y := Option.some.inj hj
              have hu1 := hLst u (List.mem_of_getElem? ez)
              have hej : es[j]? = some u.2.2 := by rw [eLs, List.getElem?_map, ez]; rfl
              have hjk : es.take (j + 1) = es.take j ++ [u.2.2] := by rw [List.take_succ, hej]; rfl
              have hk4 := e23.keep gl hkl rfl
              refine ⟨u.1, _, rfl, SqT.of hu1.1, rfl, _, _, rfl, _, _, rfl, rfl, ?_⟩
              refine ⟨_, rfl, kD, rfl, .inr ⟨_, .inr ⟨od, hk4⟩⟩, _, rfl, _, rfl, _, .inr ⟨_, u.2.2.1.k, u.2.1, .inr ⟨od, hk4⟩, rfl, hu1.2, rfl⟩, ?_⟩
              rw [valV_dI, getD_int]
              refine ⟨_, rfl, _, rfl, kD, _, rfl, .inr ⟨_, z.1.k, qA, .inr ⟨od, hk4⟩, rfl, e3.pl g2 hq, hv.symm⟩, _, rfl, _, _, rfl, rfl, _, _, rfl, rfl, _, rfl, ?_⟩
              refine ite2 (fun hc => ?_) (fun hc => ?_)
              · refine ⟨hk4, no (fun h => ?_) _ (out _ eH3 hk4)⟩
                have h1 := h.step z hzm u.2.2.1 u.2.2.2 ((Wd.JE _ _ _).mpr ((hes.2 _ _).mp (List.mem_of_getElem? hej)))
                have : (lk marks u.2.2.1).getD paid > z.2 + u.2.2.2 := of_decide_eq_true hc
                omega
              · refine ⟨rfl, _, _, rfl, fun x hx => ?_⟩
                rw [hjk] at hx
                rcases List.mem_append.mp hx with h | h
                · exact hjs x h
                · rw [List.mem_singleton.mp h]
                  have : ¬ (lk marks u.2.2.1).getD paid > z.2 + u.2.2.2 := fun h => hc (decide_eq_true h)
                  omega
          · rintro σ H4 ⟨rfl, o7, o8, rfl, hjs⟩
            refine ⟨e23, _, _, _, rfl, fun m hm q c hJ => ?_⟩
            rw [htk] at hm
            rcases List.mem_append.mp hm with h | h
            · exact hst2 m h q c hJ
            · rw [List.mem_singleton.mp h] at hJ ⊢
              refine hjs (q, c) ?_
              have hle : (Ls.map fun q => V.ref q.1).length = es.length := by rw [eLs, List.length_map, List.length_map]
              rw [hle, List.take_length]
              exact (hes.2 q c).mpr ((Wd.JE _ _ _).mp hJ)
        · rintro σ H2 ⟨e2, o6, o7, o8, rfl, hst2⟩
          rw [dI_len, List.take_length] at hst2
          have hk2 := e2.keep gl hkl rfl
          refine ⟨hk2, ?_⟩
          exact k true _ (out _ (eHl.trans e2) hk2) ⟨fun _ => ⟨hnd, fun m hm => (hok m hm).1, fun m hm => (hok m hm).2, hst, hst2⟩, fun _ => rfl⟩
end
end K76
namespace K76
open PySem PySem.Spec PyProof.Rows L2 LamX
theorem op_eqDK {X : Cx} {K : PySem.W.Frag} (hu : X.A.units + 64 < cLine) (h : X.K = K := by rfl) : OpR X (compareOp .Eq) (rEqD K) := h ▸ op_eqD hu
theorem sl_tupK {X : Cx} {K : PySem.W.Frag} (h : X.K = K := by rfl) : SlR X (rSlT K) := h ▸ sl_tup
theorem int_shaped (n : Int) : SeqAt.shaped (.int n) = true := by
  show ((PyData.int n).canLay0 && decide ((PyData.int n).depth ≤ 64)) = true
  simp [PyData.canLay0, PyData.depth]
theorem none_shaped : SeqAt.shaped .none = true := by
  show ((PyData.none).canLay0 && decide ((PyData.none).depth ≤ 64)) = true
  simp [PyData.canLay0, PyData.depth]
theorem int_eqv (a b : Int) : PyData.eqv (.int a) (.int b) = decide (a = b) := by
  have : PyData.eqv (.int a) (.int b) = (a == b) := by simp only [PyData.eqv]
  rw [this]
  by_cases h : a = b
  · simp [h]
  · simp [h]
theorem none_eqv (b : Int) : PyData.eqv .none (.int b) = false := by simp only [PyData.eqv]
theorem wcost_uniq {α : Type} {J : α → α → Option Int} {fl : α → Prop} {way : List α} {a b : Int} (h : wcost J fl way a) (h' : wcost J fl way b) : a = b := by
  obtain ⟨_, p, r, h1, h2⟩ := h
  obtain ⟨_, p', r', h3, h4⟩ := h'
  rw [h1] at h3
  cases h3
  rw [h2] at h4
  exact Option.some.inj h4
def spCheckPrice (G C : Addr) (T : TbT) (ex : List Addr) : Sp := fun vs H Q _ => ∃ (gA sA eA pA : Addr) (W : Wd) (s e : Pl) (paid : Int) (way : List Pl) (marks : List (Pl × Int)), vs = [.ref gA, .ref sA, .ref eA, .ref pA] ∧ Gd T ex H ∧ W.Ok ∧ GrAt G C ex H gA W ∧ PlAt H sA s ∧ PlAt H eA e ∧ PaperAt ex H pA paid way marks ∧ way.length ≤ 100 ∧ marks.length ≤ 100 ∧
  ∀ (b : Bool) H', EX T ex H H' → (b = true ↔ Taken W.J W.fl s e paid way marks) → Q (.bl b) H'
section
variable {P : Program} {w : World} {K : PySem.W.Frag} {mg : Str → Option Value} {base : Heap} {T : TbT} {ex : List Addr} {G C : Addr}
def nCheckPrice : List Str := ["ground", "start", "goal", "paper", "_", "paid", "way", "marks", "mark"]
theorem scCheckPrice : FnScope nCheckPrice ["ground", "start", "goal", "paper"] (defScope sCheckPrice) := ⟨rfl, rfl, rfl, by decide +kernel, rfl, by decide +kernel, by decide +kernel⟩
theorem ok_check_price {f : Addr} {fd : FuncData} (F : FnP K "check_price" "check_price" sCheckPrice f fd) (mA : mg "all" = none)
    (DW : Df P w K mg base 6 "way_cost" ["ground", "way"] (spWayCost G C T ex)) (DM : Df P w K mg base 5 "marks_hold" ["ground", "start", "paid", "marks"] (spMarksHold G C T ex)) :
    FnOk P w K mg base CX0 7 f fd ["ground", "start", "goal", "paper"] (spCheckPrice G C T ex) := by
  refine fn_rule F scCheckPrice (fun vs H Q E h => ?_) (fun cdv A outer s0 H vs Q E hr h => ?_)
  · obtain ⟨gA, sA, eA, pA, W, s, e, paid, way, marks, rfl, _⟩ := h
    rfl
  · obtain ⟨gA, sA, eA, pA, W, s, e, paid, way, marks, rfl, g, hW, hG, hs, he, hP, hwl, hml, k⟩ := h
    have hu := hu_of hr
    refine ⟨_, pss_cons (ps_asg (pv 3) (pg_tup (by rfl) (pgs_cons (pg_name (i := 4) scCheckPrice.nd rfl (.inl rfl)) (pgs_cons (pg_name (i := 5) scCheckPrice.nd rfl (.inr rfl)) (pgs_cons (pg_name (i := 6) scCheckPrice.nd rfl (.inl rfl)) (pgs_cons (pg_name (i := 7) scCheckPrice.nd rfl (.inl rfl)) pgs_nil))))))
      (pss_cons (ps_if (PW.pt (pw_or (pt_cmpR (op_neD hr.units) (pe_df DW hr rfl (pa_cons (pv 0) (pa_cons (pv 6) pa_nil))) (pv 5) (nomark _)) (pw_or (pt_cmpR (op_neD hr.units) (pe_ix ix_list (pv 6) pe_int (fun _ _ => rfl)) (pv 1) (nomark _)) (pw_or1 (pt_cmpR (op_neD hr.units) (pe_ix ix_list (pv 6) (pe_un un_neg pe_int) (fun _ _ => rfl)) (pv 2) (nomark _)))))) (pss_one (ps_ret pe_bl)) pss_nil)
      (pss_cons (ps_if (pt_not (pt_val (pe_df DM (hr.mono (by decide)) rfl (pa_cons (pv 0) (pa_cons (pv 1) (pa_cons (pv 5) (pa_cons (pv 7) pa_nil))))))) (pss_one (ps_ret pe_bl)) pss_nil)
      (pss_one (ps_ret (pe_callB (cr_all rfl) (by rfl) mA (by decide +kernel) (pa_cons (pe_lc (own := [("mark", 8)]) (g := gName 8) rfl scCheckPrice.nd (pi_list (pv 7)) (blkOk_by (N := nCheckPrice) (sc := defScope sCheckPrice) (by decide +kernel)) (fun _ _ _ _ _ => pg_name (i := 8) scCheckPrice.nd rfl (Or.inl rfl))
        (fun _ _ _ _ _ => pts_one (pt_cmpR (op_eqDK (K := K) hr.units) (pe_slice (sl_tupK (K := K)) (pv 8) po_none (po_some pe_int)) (pv 2) (nomark _)))
        (fun _ _ _ _ _ => pe_cmpR (op_eqDK (K := K) hr.units) (pe_ix (ix_tupK (K := K)) (pv 8) pe_int (fun _ _ => rfl)) (pv 5) (nomark _))) pa_nil)))))), ?_⟩
    obtain ⟨wA, mkA, hPo, hwy, hmk⟩ := id hP
    obtain ⟨LW, eLW, hLW, hLWp⟩ := id hwy
    obtain ⟨L, eL, hLl, hLt⟩ := id hmk
    have no : (¬ Taken W.J W.fl s e paid way marks) → ∀ H', EX T ex H H' → Q (.bl false) H' := fun h H' e => k false H' e ⟨(fun z => nomatch z), fun z => absurd z h⟩
    refine ⟨_, rfl, pA, _, rfl, SqT.of hPo, rfl, _, _, rfl, _, _, rfl, _, _, rfl, _, _, rfl, rfl, ?_⟩
    refine ⟨_, rfl, _, rfl, gA, wA, W, way, rfl, g, hW, hG, hwy, hwl, fun H1 e1 => ⟨fun cst hcst => ?_, fun hno => ?_⟩⟩
    · refine ⟨_, rfl, _, _, .int _, .int _, int_shaped _, int_shaped _, _, rfl, ?_⟩
      rw [int_eqv]
      refine iteB (fun hc => no (fun h => ?_) H1 e1) (fun hc => ?_)
      · rw [decide_eq_true (wcost_uniq hcst h.wy)] at hc
        cases hc
      · have ecp : cst = paid := Classical.byContradiction fun z => by
          rw [decide_eq_false z] at hc
          cases hc
        rw [ecp] at hcst
        obtain ⟨hfl, p, r, hpr, hwlp⟩ := id hcst
        have g1 := e1.g g
        have hL1 := e1.li hLW
        obtain ⟨z0, L0, eL0⟩ : ∃ z l, LW = z :: l := by
          cases LW with
          | nil => rw [eLW] at hpr; cases hpr
          | cons a b => exact ⟨a, b, rfl⟩
        obtain ⟨L1, z1, eL1⟩ : ∃ l z, LW = l ++ [z] := ⟨LW.dropLast, LW.getLast (by rw [eL0]; intro z; cases z), (List.dropLast_concat_getLast _).symm⟩
        have hz0 := e1.pl g (hLWp z0 (by rw [eL0]; exact List.mem_cons_self))
        have hz1 := e1.pl g (hLWp z1 (by rw [eL1]; exact List.mem_append_right _ (List.mem_singleton.mpr rfl)))
        have hhd : way.head? = some z0.2 := by rw [eLW, eL0]; rfl
        have hlst : way.getLast? = some z1.2 := by rw [eLW, eL1]; simp
        have hs1 := e1.pl g hs
        have he1 := e1.pl g he
        refine ⟨_, rfl, wA, _, _, _, rfl, rfl, hL1.sq, at_of (j := 0) rfl (by rw [eL0]; rfl), _, rfl, _, _, hz0.dp, hs1.dp, plD_shaped _, plD_shaped _, _, rfl, ?_⟩
        rw [plD_eqv]
        refine iteB (fun hc => no (fun h => ?_) H1 e1) (fun hc => ?_)
        · have h1 := h.hd
          rw [hhd] at h1
          rw [decide_eq_true (Option.some.inj h1)] at hc
          cases hc
        have ehd : z0.2 = s := Classical.byContradiction fun z => by
          rw [decide_eq_false z] at hc
          cases hc
        refine ⟨_, rfl, _, rfl, wA, _, _, _, rfl, rfl, hL1.sq, (by rw [eL1, List.map_append]; exact atI_last _ _), _, rfl, _, _, hz1.dp, he1.dp, plD_shaped _, plD_shaped _, _, rfl, ?_⟩
        rw [plD_eqv]
        refine iteB (fun hc => no (fun h => ?_) H1 e1) (fun hc => ?_)
        · have h1 := h.lst
          rw [hlst] at h1
          rw [decide_eq_true (Option.some.inj h1)] at hc
          cases hc
        have elst : z1.2 = e := Classical.byContradiction fun z => by
          rw [decide_eq_false z] at hc
          cases hc
        refine ⟨_, rfl, _, rfl, _, rfl, _, rfl, gA, sA, mkA, W, s, paid, marks, rfl, g1, hW, e1.gr g hG, hs1, e1.mks g hmk, hml, fun b H2 e2 hb => ?_⟩
        have e12 := e1.trans e2
        have g2 := e12.g g
        refine ⟨_, rfl, ?_⟩
        refine iteB (fun hc => no (fun h => ?_) H2 e12) (fun hc => ?_)
        · rw [hb.mpr ⟨h.nd, h.fls, h.le, h.st, h.step⟩] at hc
          cases hc
        have hok : MarksOk W s paid marks := hb.mp (by cases b with
          | true => rfl
          | false => cases hc)
        have hL2 := e12.li hLl
        have hLlen : L.length = marks.length := by rw [eL, List.length_map]
        refine ⟨_, rfl, mkA, rfl, ⟨_, hL2.sq⟩, fun D hD => ?_⟩
        have nD := g2.ne hD
        refine lc_list (K := K) (a := mkA) (xs := L.map fun q => V.ref q.1) (fun i H' => EX T ex H2 H' ∧ ∃ bs : List Bool, H' D = some (.lst (bs.map V.bl)) ∧ bs.length ≤ i ∧ (bs.all id = true ↔ ∀ m ∈ marks.take i, m.1 = e → m.2 = paid))
          ⟨EX.new hD, [], upd_same, Nat.le_refl 0, ⟨fun _ p hp => (nomatch hp), fun _ => rfl⟩⟩ (fun i H' _ h => (h.1.li hL2).sq) ?_ ?_
        · rintro i y H' hi ⟨e3, bs, hDl, hbl, hbs⟩
          have hi40 := (List.getElem?_eq_some_iff.mp hi).1
          rw [List.length_map, hLlen] at hi40
          rw [List.getElem?_map] at hi
          cases ez : L[i]? with
          | none => rw [ez] at hi; cases hi
          | some z =>
            rw [ez] at hi
            obtain rfl : V.ref z.1 = y := Option.some.inj hi
            have hz := e3.tup g2 (e12.tup g (hLt z (List.mem_of_getElem? ez)))
            have hmi : marks[i]? = some z.2 := by rw [eL, List.getElem?_map, ez]; rfl
            have htk : marks.take (i + 1) = marks.take i ++ [z.2] := by rw [List.take_succ, hmi]; rfl
            refine ⟨rfl, _, rfl, _, rfl, z.1, z.2.1.v ++ [.int z.2.2], rfl, SqT.of hz, (by show ¬ (0 = 0 ∧ 3 = 4); omega), fun qA hqA => ?_⟩
            rw [show cutV (z.2.1.v ++ [.int z.2.2]) none (some 3) = z.2.1.v from rfl]
            have g3 := e3.g g2
            have e4 : EX T ex H' (upd H' qA (.tup z.2.1.v)) := EX.new hqA
            have hp4 : PlAt (upd H' qA (.tup z.2.1.v)) qA z.2.1 := upd_same
            have hz4 := e4.tup g3 hz
            have hD4 := e4.k D _ hDl nD (fun ps z => nomatch z)
            have e34 := e3.trans e4
            generalize upd H' qA (.tup z.2.1.v) = H4 at e34 hp4 hz4 hD4 ⊢
            refine ⟨_, rfl, _, _, hp4.dp, (e34.pl g2 (e12.pl g he)).dp, plD_shaped _, plD_shaped _, _, rfl, ?_⟩
            rw [plD_eqv]
            refine ite2 (fun hc => ?_) (fun hc => ?_)
            · have hc : z.2.1 = e := of_decide_eq_true hc
              refine ⟨_, rfl, z.1, _, _, _, rfl, rfl, SqT.of hz4, at_of (j := 3) rfl rfl, _, rfl, _, _, .int _, .int _, int_shaped _, int_shaped _, _, hD4, by rw [List.length_map]; exact small40 (by omega), e34.put (FrN.none hD) hD4 rfl nD, bs ++ [decide (z.2.2 = paid)], ?_, ?_, ?_⟩
              · rw [upd_same, List.map_append, int_eqv]
                rfl
              · rw [List.length_append, List.length_singleton]
                omega
              · rw [htk, List.all_append, Bool.and_eq_true, hbs]
                constructor
                · rintro ⟨h1, h2⟩ m hm hme
                  rcases List.mem_append.mp hm with h | h
                  · exact h1 m h hme
                  · rw [List.mem_singleton.mp h]
                    simpa using h2
                · intro h
                  refine ⟨fun m hm => h m (List.mem_append_left _ hm), ?_⟩
                  have := h z.2 (List.mem_append_right _ (List.mem_singleton.mpr rfl)) hc
                  simpa using this
            · have hc : ¬ z.2.1 = e := fun h => hc (decide_eq_true h)
              refine ⟨e34, bs, hD4, by omega, ?_⟩
              rw [htk, hbs]
              constructor
              · intro h1 m hm hme
                rcases List.mem_append.mp hm with h | h
                · exact h1 m h hme
                · rw [List.mem_singleton.mp h] at hme
                  exact absurd hme hc
              · exact fun h m hm => h m (List.mem_append_left _ hm)
        · rintro H3 ⟨e3, bs, hDl, hbl, hbs⟩
          rw [List.length_map, hLlen, List.take_length] at hbs
          refine ⟨D, bs, rfl, SqL.of hDl, k _ H3 (e12.trans e3) ?_⟩
          rw [hbs]
          constructor
          · intro h
            exact ⟨hcst, by rw [hhd, ehd], by rw [hlst, elst], hok.nd, hok.fls, hok.le, hok.st, hok.step, fun n hn => h (e, n) (lk_mem hn) rfl⟩
          · intro h m hm hme
            exact h.gl m.2 (by
              rw [← hme]
              exact lk_of_mem hok.nd hm)
    · refine ⟨_, rfl, _, _, .non, .int _, none_shaped, int_shaped _, _, rfl, ?_⟩
      rw [none_eqv]
      exact no (fun h => hno paid h.wy) H1 e1
end
end K76
namespace K76
open PySem PySem.Spec PyProof.Rows L2 LamX
section
variable {X : Cx} {a b c d : Expr} {ta tb tc td : TE} {pos : Pos}
/-- a op b op c op d -/
def tChain3 (r r' r2 : R2) (ta tb tc td : TE) : TE := fun σ H Q => ta σ H fun x H1 => tb σ H1 fun y H2 => r x y H2 fun z H3 => ∃ k, z = .bl k ∧
  (if k = true then tc σ H3 fun w' H4 => r' y w' H4 fun z2 H5 => ∃ k2, z2 = .bl k2 ∧ (if k2 = true then td σ H5 fun w2 H6 => r2 w' w2 H6 Q else Q (.bl false) H5) else Q (.bl false) H3)
theorem pe_chain3 {op op' op2 : CmpOp} {r r' r2 : R2} (ho : OpR X (compareOp op) r) (ho' : OpR X (compareOp op') r') (ho2 : OpR X (compareOp op2) r2) (ha : PE X a ta) (hb : PE X b tb) (hc : PE X c tc) (hd : PE X d td)
    (hm : lastMarks [op, op', op2] [b, c, d] = false := by with_unfolding_all rfl) : PE X (.Compare a [op, op', op2] [b, c, d] pos) (tChain3 r r' r2 ta tb tc td) := by
  refine ⟨fun pins s σ H Q I h => ?_⟩
  refine Compare_chain (thn (ha.run pins s σ H _ I h) fun v s1 ⟨x, H1, I1, r1, q1⟩ => chain_link (thn (hb.run pins s1 σ H1 _ I1 q1) fun u s2 ⟨y, H2, I2, r2, q2⟩ =>
    thn (ho pins s2 σ H2 x y v u _ I2 r1 r2 q2) fun d s3 ⟨z, H3, I3, r3, k, e, q3⟩ => ?_)) hm
  subst e
  cases r3
  refine wpAny_truthy_bool ?_
  cases k with
  | false => exact ite_ff ⟨.bl false, H3, I3, rfl, q3⟩
  | true =>
    refine ite_tt (chain_link (thn (hc.run pins s3 σ H3 _ I3 q3) fun w' s4 ⟨z', H4, I4, r4, q4⟩ => thn (ho' pins s4 σ H4 y z' u w' _ I4 r2 r4 q4) fun d2 s5 ⟨z2, H5, I5, r5, k2, e2, q5⟩ => ?_))
    subst e2
    cases r5
    refine wpAny_truthy_bool ?_
    cases k2 with
    | false => exact ite_ff ⟨.bl false, H5, I5, rfl, q5⟩
    | true => exact ite_tt (chain_last (thn (hd.run pins s5 σ H5 _ I5 q5) fun w2 s6 ⟨z3, H6, I6, r6, q6⟩ => ho2 pins s6 σ H6 z' z3 w' w2 Q I6 r4 r6 q6))
end
theorem iteP {c : Bool} {A B : Prop} (h : c = true) (a : A) : if c = true then A else B := by
  rw [if_pos h]
  exact a
def spRequire : Sp := fun vs H Q _ => ∃ (b : Bool) (x : V), vs = [.bl b, x] ∧ b = true ∧ Q .non H
def spCeiled : Sp := fun vs H Q _ => ∃ a b : Int, vs = [.int a, .int b] ∧ 0 < b ∧ b < 1073741824 ∧ Q (.int (-(-a / b))) H
structure STxt (K : PySem.W.Frag) (mg : Str → Option Value) (C : Addr) : Prop where
  cl : Cls K C
  n1 : NoAttr K C "tall"
  n2 : NoAttr K C "rise"
  n3 : NoAttr K C "columns"
  n4 : NoAttr K C "rows"
  n5 : NoAttr K C "cell"
  n6 : NoAttr K C "level"
  n7 : NoAttr K C "width"
  n8 : NoAttr K C "height"
  n9 : NoAttr K C "step"
  n10 : NoAttr K C "slope"
  n11 : NoAttr K C "slack"
  n12 : NoAttr K C "tile"
  n13 : NoAttr K C "reach"
  mc : ∃ t, mg "MOST_CELLS" = some (.int 64 t)
  ml : ∃ t, mg "MOST_LENGTH" = some (.int 1000 t)
  mt : mg "tuple" = none
/-- a settings object, also its columns and rows -/
structure SeAt (C : Addr) (H : Hp) (a : Addr) (rise level cols rows : Int) : Prop where
  ob : ∃ dx fs, H a = some (.ins C dx fs) ∧ fs.lookup ("rise" : Str) = some (.int rise) ∧ fs.lookup ("cell" : Str) = some (.int 4) ∧ fs.lookup ("level" : Str) = some (.int level) ∧ fs.lookup ("columns" : Str) = some (.int cols) ∧ fs.lookup ("rows" : Str) = some (.int rows)
theorem SeAt.st {C : Addr} {H : Hp} {a : Addr} {rise level cols rows : Int} (h : SeAt C H a rise level cols rows) : StAt C H a rise level := by
  obtain ⟨dx, fs, h1, h2, h3, h4, _⟩ := h
  exact ⟨dx, fs, h1, h2, h3, h4⟩
theorem EX.se {T : TbT} {ex : List Addr} {H H' : Hp} (e : EX T ex H H') (g : Gd T ex H) {C a : Addr} {r l c w : Int} (h : SeAt C H a r l c w) : SeAt C H' a r l c w := by
  obtain ⟨dx, fs, h1, h2⟩ := h
  exact ⟨dx, fs, e.ins g h1, h2⟩
def spSInit (C : Addr) (T : TbT) (ex : List Addr) : Sp := fun vs H Q _ => ∃ (H0 : Hp) (self dx slA : Addr) (cols rows level step : Int), vs = [.ref self, .int cols, .int rows, .int 4, .int level, .int 0, .int 14, .int step, .ref slA, .int 0, .int 8] ∧ EX T ex H0 H ∧ Gd T ex H0 ∧ FrN H0 self ∧ self ∉ ex ∧ H self = some (.ins C dx []) ∧ H slA = some (.tup [.int 1, .int 2]) ∧
  (1 ≤ cols ∧ cols ≤ 64) ∧ (1 ≤ rows ∧ rows ≤ 64) ∧ (1 ≤ level ∧ level ≤ 2) ∧ (1 ≤ step ∧ step ≤ 3) ∧ ∀ H', EX T ex H0 H' → SeAt C H' self (step / level) level cols rows → Q .non H'
section
variable {P : Program} {w : World} {K : PySem.W.Frag} {mg : Str → Option Value} {base : Heap} {T : TbT} {ex : List Addr} {G C : Addr}
theorem scRequire : FnScope ["holds", "name"] ["holds", "name"] (defScope sRequire) := ⟨rfl, rfl, rfl, by decide +kernel, rfl, by decide +kernel, by decide +kernel⟩
theorem ok_require {f : Addr} {fd : FuncData} (F : FnP K "require" "require" sRequire f fd) : FnOk P w K mg base CX0 1 f fd ["holds", "name"] spRequire := by
  refine fn_rule F scRequire (fun vs H Q E h => ?_) (fun cdv A outer s0 H vs Q E hr h => ?_)
  · obtain ⟨b, x, rfl, _⟩ := h
    rfl
  · obtain ⟨b, x, rfl, rfl, k⟩ := h
    refine ⟨_, pss_one (ps_if (pt_not (pt_val (pv 0))) (pss_one ps_never) pss_nil), ?_⟩
    exact ⟨_, rfl, _, rfl, k⟩
theorem scCeiled : FnScope ["number", "unit"] ["number", "unit"] (defScope sCeiled) := ⟨rfl, rfl, rfl, by decide +kernel, rfl, by decide +kernel, by decide +kernel⟩
theorem ok_ceiled {f : Addr} {fd : FuncData} (F : FnP K "ceiled" "ceiled" sCeiled f fd) : FnOk P w K mg base CX0 1 f fd ["number", "unit"] spCeiled := by
  refine fn_rule F scCeiled (fun vs H Q E h => ?_) (fun cdv A outer s0 H vs Q E hr h => ?_)
  · obtain ⟨a, b, rfl, _⟩ := h
    rfl
  · obtain ⟨a, b, rfl, h1, h2, k⟩ := h
    refine ⟨_, pss_one (ps_ret (pe_un un_neg (pe_op op_fdiv (pe_un un_neg (pv 0)) (pv 1)))), ?_⟩
    exact ⟨_, rfl, _, rfl, _, rfl, _, _, rfl, rfl, ⟨h1, h2⟩, _, rfl, k⟩
theorem fn_ruleK {x q : Str} {st : Stmt} {f : Addr} {fd : FuncData} {N ps : List Str} {k : Nat} {sp : Sp} {kws : List (Str × V)} (F : FunD K x q (defArgs st) (defBody st) (defScope st) [] kws f fd) (S : FnScope N ps (defScope st)) (len : ∀ vs H Q E, sp vs H Q E → vs.length = ps.length)
    (hbody : ∀ (cdv : Value) (A : Around) (outer : List Env) (s : Shared) (H : Hp) (vs : List V) (Q : VK) (E : XK), Room k (A.deeper (envOfC q (defScope st) s.heap.objs.size f cdv)) → sp vs H Q E →
      ∃ t, PSs (cxOf CX0 P w K mg base N q (defScope st) f cdv A outer s H E).nox (defBody st) t ∧ t { nx := fun _ H' => Q .non H', rt := Q } (start N vs) H) : FnOk P w K mg base CX0 (k + 1) f fd ps sp :=
  FunD.ok F S len fun cdv A outer s H vs Q E hr h => by
    obtain ⟨t, h1, h2⟩ := hbody cdv A outer s H vs Q E hr h
    exact ⟨t, h1.nox, h2⟩
def nSInit : List Str := ["self", "columns", "rows", "cell", "level", "width", "height", "step", "slope", "slack", "tile"]
theorem scSInit : FnScope nSInit nSInit (defScope sSInit) := ⟨rfl, rfl, rfl, by decide +kernel, rfl, by decide +kernel, by decide +kernel⟩
theorem ok_sinit {f : Addr} {fd : FuncData} (F : FunD K "__init__" "Settings.__init__" (defArgs sSInit) (defBody sSInit) (defScope sSInit) [] [("slack", .int 0), ("tile", .int 8)] f fd) (X : STxt K mg C) (DR : Df P w K mg base 1 "require" ["holds", "name"] spRequire) (DC : Df P w K mg base 1 "ceiled" ["number", "unit"] spCeiled) :
    FnOk P w K mg base CX0 2 f fd nSInit (spSInit C T ex) := by
  obtain ⟨tc, mc⟩ := X.mc
  obtain ⟨tl, ml⟩ := X.ml
  refine fn_ruleK F scSInit (fun vs H Q E h => ?_) (fun cdv A outer s0 H vs Q E hr h => ?_)
  · obtain ⟨H0, self, dx, slA, cols, rows, level, step, rfl, _⟩ := h
    rfl
  · obtain ⟨H0, self, dx, slA, cols, rows, level, step, rfl, e0, g0, nS, nX, hself, hsl, hcols, hrows, hlevel, hstep, k⟩ := h
    have gMC : ∀ {X : Cx} {p : Pos}, Gl X "MOST_CELLS" → X.mg = mg → PE X (.Name "MOST_CELLS" p) (tC (.int 64)) := fun {X p} h e => pe_glob h (by rw [e]; exact mc) ⟨tc, rfl⟩
    have gML : ∀ {X : Cx} {p : Pos}, Gl X "MOST_LENGTH" → X.mg = mg → PE X (.Name "MOST_LENGTH" p) (tC (.int 1000)) := fun {X p} h e => pe_glob h (by rw [e]; exact ml) ⟨tl, rfl⟩
    refine ⟨_, pss_cons (ps_expr (pe_df DR hr rfl (pa_cons (pe_chain op_le op_le pe_int (pv 1) (gMC rfl rfl)) (pa_cons pe_str pa_nil))))
      (pss_cons (ps_expr (pe_df DR hr rfl (pa_cons (pe_chain op_le op_le pe_int (pv 2) (gMC rfl rfl)) (pa_cons pe_str pa_nil))))
      (pss_cons (ps_expr (pe_df DR hr rfl (pa_cons (pe_chain op_le op_le pe_int (pv 3) (gML rfl rfl)) (pa_cons pe_str pa_nil))))
      (pss_cons (ps_expr (pe_df DR hr rfl (pa_cons (pe_chain op_le op_le pe_int (pv 4) (gML rfl rfl)) (pa_cons pe_str pa_nil))))
      (pss_cons (ps_expr (pe_df DR hr rfl (pa_cons (pe_chain op_le op_le pe_int (pv 5) (pe_op op_mul pe_int (pv 3))) (pa_cons pe_str pa_nil))))
      (pss_cons (ps_expr (pe_df DR hr rfl (pa_cons (pe_chain op_le op_le pe_int (pv 6) (pe_op op_mul (gML rfl rfl) (pv 4))) (pa_cons pe_str pa_nil))))
      (pss_cons (ps_fld (pv 0) (pe_df DC hr rfl (pa_cons (pv 6) (pa_cons (pv 4) pa_nil))) rfl)
      (pss_cons (ps_fld (pv 0) (pe_op op_fdiv (pv 7) (pv 4)) rfl)
      (pss_cons (ps_expr (pe_df DR hr rfl (pa_cons (pe_and (pe_cmpR op_ge (pv 7) pe_int (nomark _)) (pe_one (pe_cmpR op_lt (pe_op op_mul pe_int (pe_fld (pv 0) rfl)) (pe_fld (pv 0) rfl) (nomark _)))) (pa_cons pe_str pa_nil))))
      (pss_cons (ps_expr (pe_df DR hr rfl (pa_cons (pe_and (pe_chain3 op_le op_le op_le pe_int (pe_ix ix_tup (pv 8) pe_int (fun _ _ => rfl)) (pe_ix ix_tup (pv 8) pe_int (fun _ _ => rfl)) (gML rfl rfl)) (pe_one (pe_cmpR op_gt (pe_ix ix_tup (pv 8) pe_int (fun _ _ => rfl)) pe_int (nomark _)))) (pa_cons pe_str pa_nil))))
      (pss_cons (ps_expr (pe_df DR hr rfl (pa_cons (pe_chain op_le op_le pe_int (pv 9) (gML rfl rfl)) (pa_cons pe_str pa_nil))))
      (pss_cons (ps_expr (pe_df DR hr rfl (pa_cons (pe_chain op_le op_le pe_int (pv 10) pe_int) (pa_cons pe_str pa_nil))))
      (pss_cons (ps_fld (pv 0) (pv 1) rfl)
      (pss_cons (ps_fld (pv 0) (pv 2) rfl)
      (pss_cons (ps_fld (pv 0) (pv 3) rfl)
      (pss_cons (ps_fld (pv 0) (pv 4) rfl)
      (pss_cons (ps_fld (pv 0) (pv 5) rfl)
      (pss_cons (ps_fld (pv 0) (pv 6) rfl)
      (pss_cons (ps_fld (pv 0) (pv 7) rfl)
      (pss_cons (ps_fld (pv 0) (pe_callTy call_tupleT (by rfl) X.mt (by decide +kernel) (pa_cons (pv 8) pa_nil)) rfl)
      (pss_cons (ps_fld (pv 0) (pv 9) rfl)
      (pss_cons (ps_fld (pv 0) (pv 10) rfl)
      (pss_one (ps_fld (pv 0) (pe_df DC hr rfl (pa_cons (pv 5) (pa_cons (pv 3) pa_nil))) rfl))))))))))))))))))))))), ?_⟩
    refine ⟨_, rfl, _, _, rfl, rfl, _, rfl, iteP (decide_eq_true hcols.1) ⟨_, _, rfl, rfl, _, _, rfl, decide_eq_true hcols.2, ?_⟩⟩
    refine ⟨_, rfl, _, _, rfl, rfl, _, rfl, iteP (decide_eq_true hrows.1) ⟨_, _, rfl, rfl, _, _, rfl, decide_eq_true hrows.2, ?_⟩⟩
    refine ⟨_, rfl, _, _, rfl, rfl, _, rfl, iteP (by decide) ⟨_, _, rfl, rfl, _, _, rfl, by decide, ?_⟩⟩
    refine ⟨_, rfl, _, _, rfl, rfl, _, rfl, iteP (decide_eq_true hlevel.1) ⟨_, _, rfl, rfl, _, _, rfl, decide_eq_true (by omega), ?_⟩⟩
    refine ⟨_, rfl, _, _, rfl, rfl, _, rfl, iteP (by decide) ⟨_, rfl, _, _, rfl, rfl, .inl ⟨by decide, by decide⟩, _, _, rfl, rfl, _, _, rfl, by decide, ?_⟩⟩
    refine ⟨_, rfl, _, _, rfl, rfl, _, rfl, iteP (by decide) ⟨_, rfl, _, _, rfl, rfl, .inl ⟨by decide, by decide⟩, _, _, rfl, rfl, _, _, rfl, decide_eq_true (by omega), ?_⟩⟩
    -- self.tall
    refine ⟨_, rfl, _, rfl, _, _, rfl, by omega, by omega, _, rfl, self, C, dx, [], rfl, hself, X.cl, X.n1, (by decide), ?_⟩
    have stp : ∀ {H1 : Hp} {fs : List (Str × V)}, EX T ex H0 H1 → H1 self = some (.ins C dx fs) → ∀ fs', EX T ex H0 (upd H1 self (.ins C dx fs')) ∧ upd H1 self (.ins C dx fs') self = some (.ins C dx fs') := fun e h fs' => ⟨e.put nS h rfl nX, upd_same⟩
    have nSl : slA ≠ self := ne_of hsl hself (by intro z; cases z)
    obtain ⟨e1, h1⟩ := stp e0 hself (putF "tall" (.int (-(-14 / level))) [])
    have s1 : upd H self (.ins C dx (putF "tall" (.int (-(-14 / level))) [])) slA = some (.tup [.int 1, .int 2]) := by rw [upd_ne nSl]; exact hsl
    generalize upd H self (.ins C dx (putF "tall" (.int (-(-14 / level))) [])) = H1 at e1 h1 s1 ⊢
    refine ⟨_, rfl, _, rfl, _, _, rfl, rfl, ⟨by omega, by omega⟩, _, rfl, self, C, dx, _, rfl, h1, X.cl, X.n2, (by show 1 < 1000; decide), ?_⟩
    obtain ⟨e2, h2⟩ := stp e1 h1 (putF "rise" (.int (step / level)) (putF "tall" (.int (-(-14 / level))) []))
    have s2 : upd H1 self (.ins C dx (putF "rise" (.int (step / level)) (putF "tall" (.int (-(-14 / level))) []))) slA = some (.tup [.int 1, .int 2]) := by rw [upd_ne nSl]; exact s1
    generalize upd H1 self (.ins C dx (putF "rise" (.int (step / level)) (putF "tall" (.int (-(-14 / level))) []))) = H2 at e2 h2 s2 ⊢
    have lv : level = 1 ∨ level = 2 := by omega
    have hrt : 2 * (step / level) < -(-14 / level) := by
      rcases lv with rfl | rfl <;> omega
    have k1 : (putF "rise" (.int (step / level)) (putF "tall" (.int (-(-14 / level))) [])).lookup ("rise" : Str) = some (.int (step / level)) := by rw [lookup_putF, if_pos rfl]
    have k2 : (putF "rise" (.int (step / level)) (putF "tall" (.int (-(-14 / level))) [])).lookup ("tall" : Str) = some (.int (-(-14 / level))) := by rw [lookup_putF, if_neg (by decide +kernel), lookup_putF, if_pos rfl]
    refine ⟨_, rfl, _, _, rfl, rfl, _, rfl, iteP (decide_eq_true (by omega)) ⟨_, rfl, self, C, dx, _, _, rfl, h2, X.cl, X.n2, k1, _, _, rfl, rfl, .inl ⟨by decide, by decide⟩, ?_⟩⟩
    refine ⟨_, rfl, self, C, dx, _, _, rfl, h2, X.cl, X.n1, k2, _, _, rfl, rfl, _, _, rfl, decide_eq_true hrt, ?_⟩
    refine ⟨_, rfl, slA, _, _, _, rfl, rfl, SqT.of s2, at_of (j := 0) rfl rfl, _, _, rfl, rfl, _, rfl, iteP (by decide) ⟨_, rfl, slA, _, _, _, rfl, rfl, SqT.of s2, at_of (j := 1) rfl rfl, _, _, rfl, rfl, _, rfl, iteP (by decide) ⟨_, _, rfl, rfl, _, rfl, iteP (by decide) ⟨_, rfl, slA, _, _, _, rfl, rfl, SqT.of s2, at_of (j := 1) rfl rfl, _, _, rfl, rfl, _, _, rfl, by decide, ?_⟩⟩⟩⟩
    refine ⟨_, rfl, _, _, rfl, rfl, _, rfl, iteP (by decide) ⟨_, _, rfl, rfl, _, _, rfl, by decide, ?_⟩⟩
    refine ⟨_, rfl, _, _, rfl, rfl, _, rfl, iteP (by decide) ⟨_, _, rfl, rfl, _, _, rfl, by decide, ?_⟩⟩
    refine ⟨_, rfl, _, rfl, self, C, dx, _, rfl, h2, X.cl, X.n3, (by show 2 < 1000; decide), ?_⟩
    refine ⟨_, rfl, _, rfl, self, C, dx, _, rfl, upd_same, X.cl, X.n4, (by show 3 < 1000; decide), ?_⟩
    rw [upd_upd]
    refine ⟨_, rfl, _, rfl, self, C, dx, _, rfl, upd_same, X.cl, X.n5, (by show 4 < 1000; decide), ?_⟩
    rw [upd_upd]
    refine ⟨_, rfl, _, rfl, self, C, dx, _, rfl, upd_same, X.cl, X.n6, (by show 5 < 1000; decide), ?_⟩
    rw [upd_upd]
    refine ⟨_, rfl, _, rfl, self, C, dx, _, rfl, upd_same, X.cl, X.n7, (by show 6 < 1000; decide), ?_⟩
    rw [upd_upd]
    refine ⟨_, rfl, _, rfl, self, C, dx, _, rfl, upd_same, X.cl, X.n8, (by show 7 < 1000; decide), ?_⟩
    rw [upd_upd]
    refine ⟨_, rfl, _, rfl, self, C, dx, _, rfl, upd_same, X.cl, X.n9, (by show 8 < 1000; decide), ?_⟩
    rw [upd_upd]
    refine ⟨_, rfl, slA, _, rfl, SqT.of (by rw [upd_ne nSl]; exact s2), _, rfl, self, C, dx, _, rfl, upd_same, X.cl, X.n10, (by show 9 < 1000; decide), ?_⟩
    rw [upd_upd]
    refine ⟨_, rfl, _, rfl, self, C, dx, _, rfl, upd_same, X.cl, X.n11, (by show 10 < 1000; decide), ?_⟩
    rw [upd_upd]
    refine ⟨_, rfl, _, rfl, self, C, dx, _, rfl, upd_same, X.cl, X.n12, (by show 11 < 1000; decide), ?_⟩
    rw [upd_upd]
    refine ⟨_, rfl, _, rfl, _, _, rfl, by decide, by decide, _, rfl, self, C, dx, _, rfl, upd_same, X.cl, X.n13, (by show 12 < 1000; decide), ?_⟩
    rw [upd_upd]
    refine k _ (stp e2 h2 _).1 ⟨dx, _, upd_same, ?_, ?_, ?_, ?_, ?_⟩ <;> repeat (first | rw [lookup_putF, if_neg (by decide +kernel)] | rw [lookup_putF, if_pos rfl])
end
end K76
namespace K76
open PySem PySem.Spec PyProof.Rows L2 LamX
theorem seq0 {n : Nat} (h : 0 < n) : seqIndex? 0 n = some 0 := by
  unfold seqIndex?
  simp [h]
theorem ixN0 {n : Nat} (h : 0 < n) : ixN n 0 = some 0 := by
  unfold ixN
  rw [if_pos (by decide), if_pos (by omega)]
  rfl
def spLState (K : PySem.W.Frag) : Sp := fun vs H Q _ => ∃ (a : Addr) (ns : List Int), vs = [.ref a] ∧ SqL K H a (ns.map V.int) ∧ ns.length ≤ 100 ∧
  ∀ (sA cA : Addr) (cells : List Int) (seed : Int) (H' : Hp), (∀ b o, H b = some o → H' b = some o) → H' sA = some (.lst [.ref cA, .int seed]) → H' cA = some (.lst (cells.map V.int)) → Q (.ref sA) H'
def spDraw (T : TbT) (sA cA : Addr) : Sp := fun vs H Q _ => ∃ many : Int, vs = [.ref sA, .int many] ∧ Gd T [sA, cA] H ∧ 0 < many ∧ many < 1073741824 ∧ ∀ (r : Int) (H' : Hp), EX T [sA, cA] H H' → 0 ≤ r → r < many → Q (.int r) H'
section
variable {P : Program} {w : World} {K : PySem.W.Frag} {mg : Str → Option Value} {base : Heap} {T : TbT} {ex : List Addr} {G C : Addr}
def nLState : List Str := ["_law_script", "_law_seed", "_law_cell"]
theorem scLState : FnScope nLState ["_law_script"] (defScope sLState) := ⟨rfl, rfl, rfl, by decide +kernel, rfl, by decide +kernel, by decide +kernel⟩
theorem ok_lstate {f : Addr} {fd : FuncData} (F : FnP K "_law_state" "_law_state" sLState f fd) (mI : mg "int" = none) (mA : mg "abs" = none) : FnOk P w K mg base CX0 1 f fd ["_law_script"] (spLState K) := by
  refine fn_rule F scLState (fun vs H Q E h => ?_) (fun cdv A outer s0 H vs Q E hr h => ?_)
  · obtain ⟨a, ns, rfl, _⟩ := h
    rfl
  · obtain ⟨a, ns, rfl, hq, hlen, k⟩ := h
    refine ⟨_, pss_cons (ps_set (i := 1) scLState.nd rfl (.inl rfl) pe_int)
      (pss_cons (ps_for PassesOwn.never rfl (pi_list (pv 0)) (pg_name (i := 2) scLState.nd rfl (.inl rfl))
        (pss_one (ps_set (i := 1) scLState.nd rfl (.inl rfl) (pe_op op_mod (pe_callTy call_int1 (by rfl) mI (by decide +kernel) (pa_cons (pe_op op_add (pe_op op_mul (pv 1) pe_int) (pv 2)) pa_nil)) pe_int))))
      (pss_one (ps_ret (pe_lst (pa_cons (pe_lc (own := [("_law_cell", 2)]) (g := gName 2) (tt := tYes) rfl scLState.nd (pi_list (pv 0)) (blkOk_by (N := nLState) (sc := defScope sLState) (by decide +kernel)) (fun _ _ _ _ _ => pg_name (i := 2) scLState.nd rfl (Or.inl rfl)) (fun _ _ _ _ _ => pts_nil)
        (fun _ _ _ _ _ => pe_callB call_abs (by rfl) mA (by decide +kernel) (pa_cons (pv 2) pa_nil))) (pa_cons (pe_op op_add (pv 1) pe_int) pa_nil)))))), ?_⟩
    refine ⟨_, rfl, a, rfl, ⟨_, hq⟩, for_list (K := K) (a := a) (xs := ns.map V.int) (fun i σ H' => H' = H ∧ ∃ (n : Int) (o : Option V), σ = [some (.ref a), some (.int n), o]) ⟨rfl, 7, none, rfl⟩ (fun i σ H' _ h => by rw [h.1]; exact hq) ?_ ?_⟩
    · rintro i y σ H' hi ⟨rfl, n, o, rfl⟩
      obtain ⟨z, rfl, hz⟩ := int_of_getElem hi
      refine ⟨_, rfl, _, _, rfl, rfl, .inr ⟨by decide, by decide⟩, _, rfl, _, _, rfl, rfl, .inl ⟨_, rfl, _, _, rfl, rfl, (by show (0 : Int) < 1000003; decide), ?_⟩⟩
      exact ⟨rfl, _, _, rfl⟩
    · rintro σ H' ⟨rfl, n, o, rfl⟩
      refine ⟨_, rfl, a, rfl, ⟨_, hq⟩, fun D hD => ?_⟩
      have nDa : ∀ (H2 : Hp), (∀ b o, H' b = some o → H2 b = some o) → SqL K H2 a (ns.map V.int) := fun H2 h => by
        rcases hq with h1 | h1
        · exact .inl (by
            rcases h1 with h1 | ⟨o, h1⟩
            · exact .inl (h _ _ h1)
            · exact .inr ⟨o, h _ _ h1⟩)
        · exact .inr h1
      refine lc_list (K := K) (a := a) (xs := ns.map V.int) (fun i H2 => (∀ b o, H' b = some o → H2 b = some o) ∧ ∃ cs : List Int, H2 D = some (.lst (cs.map V.int)) ∧ cs.length ≤ i)
        ⟨fun b o e => by rw [upd_ne (ne_of_none e hD)]; exact e, [], upd_same, Nat.le_refl 0⟩ (fun i H2 _ h => nDa H2 h.1) ?_ ?_
      · rintro i y H2 hi ⟨e2, cs, hc, hcl⟩
        have hi40 := (List.getElem?_eq_some_iff.mp hi).1
        rw [List.length_map] at hi40
        obtain ⟨z, rfl, hz⟩ := int_of_getElem hi
        refine ⟨rfl, _, rfl, _, rfl, _, hc, by rw [List.length_map]; exact small40 (by omega), fun b o e => ?_, cs ++ [if z < 0 then -z else z], ?_, ?_⟩
        · have n : b ≠ D := fun h => by rw [h, hD] at e; cases e
          rw [upd_ne n]
          exact e2 b o e
        · rw [upd_same, List.map_append]
          rfl
        · rw [List.length_append, List.length_singleton]
          omega
      · rintro H2 ⟨e2, cs, hc, hcl⟩
        refine ⟨_, rfl, _, _, rfl, rfl, (by show 2 ≤ sizeLine; decide), fun p hp => ?_⟩
        refine k p D cs (n + 1) _ (fun b o e => by rw [upd_ne (ne_of_none (e2 b o e) hp)]; exact e2 b o e) upd_same (by rw [upd_ne (ne_of_none hc hp)]; exact hc)
def nLDraw : List Str := ["_law_state_here", "_law_many", "_law_cells", "_law_value", "_law_mixed"]
theorem scLDraw : FnScope nLDraw ["_law_state_here", "_law_many"] (defScope sLDraw) := ⟨rfl, rfl, rfl, by decide +kernel, rfl, by decide +kernel, by decide +kernel⟩
theorem ok_draw {f : Addr} {fd : FuncData} (F : FnP K "_law_draw" "_law_draw" sLDraw f fd) (mI : mg "int" = none) (mL : mg "len" = none) (sA cA : Addr) : FnOk P w K mg base CX0 1 f fd ["_law_state_here", "_law_many"] (spDraw T sA cA) := by
  refine fn_rule F scLDraw (fun vs H Q E h => ?_) (fun cdv A outer s0 H vs Q E hr h => ?_)
  · obtain ⟨many, rfl, _⟩ := h
    rfl
  · obtain ⟨many, rfl, g, h1, h2, k⟩ := h
    refine ⟨_, pss_cons (ps_set (i := 2) scLDraw.nd rfl (.inl rfl) (pe_ix ix_list (pv 0) pe_int (fun _ _ => rfl)))
      (pss_cons (ps_while PassesOwn.never (PW.pt (pw_and (pt_cmpR op_gt (pe_callB call_len (by rfl) mL (by decide +kernel) (pa_cons (pv 2) pa_nil)) pe_int (nomark _)) (pw_and1 (pt_cmpR (op_eqD hr.units) (pe_ix ix_list (pv 2) pe_int (fun _ _ => rfl)) pe_int (nomark _)))))
        (pss_one (ps_expr (pe_bm PySem.F.plainAttrs_list PySem.F.slot_list_pop PySem.F.type_list_pop mt_popAt (pv 2) (pa_cons pe_int pa_nil)))))
      (pss_cons (ps_if (pt_cmpR op_gt (pe_callB call_len (by rfl) mL (by decide +kernel) (pa_cons (pv 2) pa_nil)) pe_int (nomark _))
        (pss_cons (ps_set (i := 3) scLDraw.nd rfl (.inl rfl) (pe_ix ix_list (pv 2) pe_int (fun _ _ => rfl)))
        (pss_cons (ps_asg (pe_op op_fdiv (pv 3) (pv 1)) (pg_sub (pv 2) pe_int set_list))
        (pss_one (ps_ret (pe_op op_mod (pe_callTy call_int1 (by rfl) mI (by decide +kernel) (pa_cons (pv 3) pa_nil)) (pv 1)))))) pss_nil)
      (pss_cons (ps_set (i := 4) scLDraw.nd rfl (.inl rfl) (pe_op op_mod (pe_callTy call_int1 (by rfl) mI (by decide +kernel) (pa_cons (pe_op op_add (pe_op op_mul (pe_ix ix_list (pv 0) pe_int (fun _ _ => rfl)) pe_int) pe_int) pa_nil)) pe_int))
      (pss_cons (ps_asg (pv 4) (pg_sub (pv 0) pe_int set_list))
      (pss_one (ps_ret (pe_op op_mod (pe_callTy call_int1 (by rfl) mI (by decide +kernel) (pa_cons (pe_op op_fdiv (pv 4) pe_int) pa_nil)) (pv 1)))))))), ?_⟩
    obtain ⟨⟨seed, hs⟩, cells0, hc0⟩ := g.shape sA cA rfl
    have inS : sA ∈ [sA, cA] := by simp
    have inC : cA ∈ [sA, cA] := by simp
    refine ⟨_, rfl, sA, _, _, _, rfl, rfl, SqL.of hs, at_of (j := 0) rfl rfl, ?_⟩
    refine ⟨fun m σ H' => ∃ cells : List Int, σ = [some (.ref sA), some (.int many), some (.ref cA), none, none] ∧ m = cells.length ∧ EX T [sA, cA] H H' ∧ H' cA = some (.lst (cells.map V.int)), ⟨_, cells0, rfl, rfl, EX.refl _, hc0⟩, ?_⟩
    rintro m σ H1 ⟨cells, rfl, rfl, e1, hc1⟩
    have g1 := e1.g g
    cases cells with
    | nil =>
      refine ⟨_, rfl, _, _, rfl, .inl ⟨_, SqL.of hc1, rfl⟩, _, _, rfl, rfl, _, rfl, ?_⟩
      refine ite2 (fun h => absurd (of_decide_eq_true h) (by decide)) (fun _ => ?_)
      refine ⟨_, rfl, _, _, rfl, .inl ⟨_, SqL.of hc1, rfl⟩, _, _, rfl, rfl, _, rfl, ?_⟩
      refine ite2 (fun h => absurd (of_decide_eq_true h) (by decide)) (fun _ => ?_)
      obtain ⟨⟨seed1, hs1⟩, _⟩ := g1.shape sA cA rfl
      refine ⟨_, rfl, sA, _, _, _, rfl, rfl, SqL.of hs1, at_of (j := 1) rfl rfl, _, _, rfl, rfl, .inr ⟨by decide, by decide⟩, _, _, rfl, rfl, .inl ⟨_, rfl, _, _, rfl, rfl, (by show (0 : Int) < 2147483647; decide), ?_⟩⟩
      refine ⟨_, rfl, _, rfl, sA, _, _, 1, rfl, rfl, hs1, rfl, ?_⟩
      refine ⟨_, rfl, _, _, rfl, rfl, ⟨by decide, by decide⟩, .inl ⟨_, rfl, _, rfl, _, _, rfl, rfl, h1, ?_⟩⟩
      refine k _ _ (e1.putS (ys := [.ref cA, .int _]) inS fun g => g.putSeed _) (Int.emod_nonneg _ (by omega)) (Int.emod_lt_of_pos _ h1)
    | cons c cs =>
      refine ⟨_, rfl, _, _, rfl, .inl ⟨_, SqL.of hc1, rfl⟩, _, _, rfl, rfl, _, rfl, ?_⟩
      refine ite2 (fun _ => ?_) (fun h => absurd (decide_eq_true (by rw [List.length_map, List.length_cons]; omega)) h)
      refine ⟨_, rfl, cA, _, _, _, rfl, rfl, SqL.of hc1, at_of (j := 0) rfl rfl, _, _, .int _, .int _, int_shaped _, int_shaped _, _, rfl, ?_⟩
      rw [int_eqv]
      refine ite2 (fun _ => ?_) (fun _ => ?_)
      · refine ⟨_, fun σ' H' h => h, ?_⟩
        refine ⟨_, rfl, .inl ⟨rfl, _, SqL.of hc1⟩, cA, _, _, 0, _, rfl, rfl, hc1, by decide, by decide, seq0 (by rw [List.length_map]; exact Nat.succ_pos _), rfl, ?_⟩
        exact ⟨_, Nat.lt_succ_self _, cs, rfl, rfl, e1.putS (ys := cs.map V.int) inC fun g => g.putCells _, upd_same⟩
      · refine ⟨_, rfl, _, _, rfl, .inl ⟨_, SqL.of hc1, rfl⟩, _, _, rfl, rfl, _, rfl, ?_⟩
        refine ite2 (fun _ => ?_) (fun h => absurd (decide_eq_true (by rw [List.length_map, List.length_cons]; omega)) h)
        refine ⟨_, rfl, cA, _, _, _, rfl, rfl, SqL.of hc1, at_of (j := 0) rfl rfl, ?_⟩
        refine ⟨_, rfl, _, rfl, _, _, rfl, rfl, ⟨h1, h2⟩, _, rfl, cA, _, _, 0, rfl, rfl, hc1, ixN0 (by rw [List.length_map]; exact Nat.succ_pos _), ?_⟩
        refine ⟨_, rfl, .inl ⟨_, rfl, _, rfl, _, _, rfl, rfl, h1, ?_⟩⟩
        exact k _ _ (e1.putS (ys := ((c / many) :: cs).map V.int) inC fun g => g.putCells _) (Int.emod_nonneg _ (by omega)) (Int.emod_lt_of_pos _ h1)
end
end K76
namespace K76
open PySem PySem.Spec PyProof.Rows L2 LamX
def kwS : List Str := ["columns", "rows", "cell", "level", "width", "height", "step", "slope"]
theorem kb_sinit {K : PySem.W.Frag} {f : Addr} {fd : FuncData} (F : FunD K "__init__" "Settings.__init__" (defArgs sSInit) (defBody sSInit) (defScope sSInit) [] [("slack", .int 0), ("tile", .int 8)] f fd) :
    ∃ mv : List Value, KBn K fd nSInit 1 kwS (fun us ws => us ++ (ws ++ mv)) (fun vs zs => vs ++ (zs ++ [.int 0, .int 8])) := by
  refine F.kbinds0 1 kwS [("slack", .int 0), ("tile", .int 8)] (fun us mv ws => us ++ (ws ++ mv)) (by simp) (fun q hq => hq) (fun h1 h2 h3 => h1.append (h3.append h2)) (fun D doc pm an cdv ct us mv ws h1 h2 h3 => ?_)
  match us, mv, ws, h1, h2, h3 with
  | [u], [a, b], [w1, w2, w3, w4, w5, w6, w7, w8], _, _, _ =>
    refine ⟨_, _, _, _, _, _, rfl, rfl, _, _, _, _, _, _, rfl, rfl, rfl⟩
end K76
namespace K76
open PySem PySem.Spec PyProof.Rows L2 LamX
/-- two ways meet again -/
theorem ite_join {c : Bool} {A : Prop} {N : L2.St → Hp → Prop} {σ : L2.St} {H : Hp} (Pre : L2.St → Hp → Prop) (key : ∀ σ' H', Pre σ' H' → N σ' H') (h1 : c = true → (∀ σ' H', Pre σ' H' → N σ' H') → A) (h2 : c = false → Pre σ H) : if c = true then A else N σ H := by
  cases c with
  | true => exact h1 rfl key
  | false => exact key _ _ (h2 rfl)
def LvOk (ls : List Int) : Prop := ls.length ≤ 2 ∧ ∀ a ∈ ls, 0 ≤ a ∧ a ≤ 100 ∧ ∀ b ∈ ls, a ≤ b + 6 → b ≤ a + 6 → a = b
theorem one_of {ls : List Int} (hl : ls.length ≤ 1) {a b : Int} (ha : a ∈ ls) (hb : b ∈ ls) : a = b := by
  match ls, hl with
  | [], _ => cases ha
  | [c], _ => rw [List.mem_singleton.mp ha, List.mem_singleton.mp hb]
theorem lvOk_low {ls : List Int} (hl : ls.length ≤ 1) (hv : ∀ x ∈ ls, 0 ≤ x ∧ x ≤ 4) : LvOk ls := ⟨by omega, fun a ha => ⟨(hv a ha).1, by have := (hv a ha).2; omega, fun b hb _ _ => one_of hl ha hb⟩⟩
theorem lvOk_add {ls : List Int} {q : Int} (hl : ls.length ≤ 1) (hv : ∀ x ∈ ls, 0 ≤ x ∧ x ≤ 4) (h0 : 0 ≤ q) (h3 : q < 3) : LvOk (ls ++ [20 + q]) := by
  refine ⟨by rw [List.length_append, List.length_singleton]; omega, fun a ha => ?_⟩
  rcases List.mem_append.mp ha with h | h
  · have := hv a h
    refine ⟨by omega, by omega, fun b hb _ _ => ?_⟩
    rcases List.mem_append.mp hb with h' | h'
    · exact one_of hl h h'
    · rw [List.mem_singleton] at h'
      omega
  · rw [List.mem_singleton] at h
    refine ⟨by omega, by omega, fun b hb _ _ => ?_⟩
    rcases List.mem_append.mp hb with h' | h'
    · have := hv b h'
      omega
    · rw [List.mem_singleton] at h'
      omega
abbrev FlL := List ((Int × Int) × Addr × List Int)
def flV (L : FlL) : List (List Key × V) := L.map fun q => (ck q.1, V.ref q.2.1)
structure FlInv (ex : List Addr) (H : Hp) (fA : Addr) (kk ii : Nat) (L : FlL) : Prop where
  at_ : H fA = some (.dT (flV L))
  li : ∀ q ∈ L, LI ex H q.2.1 (q.2.2.map V.int)
  nd : (L.map (·.1)).Nodup
  key : ∀ q ∈ L, 0 ≤ q.1.1 ∧ q.1.1 ≤ 100 ∧ 0 ≤ q.1.2 ∧ q.1.2 ≤ 100 ∧ (q.1.2 < (kk : Int) ∨ (q.1.2 = (kk : Int) ∧ q.1.1 < (ii : Int)))
  lv : ∀ q ∈ L, LvOk q.2.2
  len : L.length ≤ kk * 5 + ii
section
variable {T : TbT} {ex : List Addr} {H H' : Hp} {fA : Addr} {kk ii : Nat} {L : FlL}
theorem FlInv.ext (h : FlInv ex H fA kk ii L) (g : Gd T ex H) (e : EX T ex H H') : FlInv ex H' fA kk ii L := ⟨e.dT g h.at_, fun q hq => e.li (h.li q hq), h.nd, h.key, h.lv, h.len⟩
theorem FlInv.wide (h : FlInv ex H fA kk ii L) {ii' : Nat} (hi : ii ≤ ii') : FlInv ex H fA kk ii' L := ⟨h.at_, h.li, h.nd, fun q hq => by
  obtain ⟨a, b, c, d, e⟩ := h.key q hq
  exact ⟨a, b, c, d, by omega⟩, h.lv, by have := h.len; omega⟩
theorem FlInv.row (h : FlInv ex H fA kk ii L) (hi : ii ≤ 5) : FlInv ex H fA (kk + 1) 0 L := ⟨h.at_, h.li, h.nd, fun q hq => by
  obtain ⟨a, b, c, d, e⟩ := h.key q hq
  exact ⟨a, b, c, d, by omega⟩, h.lv, by have := h.len; omega⟩
theorem FlInv.put (h : FlInv ex H fA kk ii L) {lA : Addr} {ls : List Int} (hl : LI ex H lA (ls.map V.int)) (hls : LvOk ls) (hk : kk ≤ 100) (hi : ii ≤ 100) :
    FlInv ex (upd H fA (.dT (putK (flV L) (ck ((ii : Int), (kk : Int))) (.ref lA)))) fA kk (ii + 1) (L ++ [(((ii : Int), (kk : Int)), lA, ls)]) := by
  have hnk : ∀ q ∈ L, q.1 ≠ ((ii : Int), (kk : Int)) := fun q hq z => by
    obtain ⟨_, _, _, _, e⟩ := h.key q hq
    rw [z] at e
    have e : (kk : Int) < kk ∨ (kk : Int) = kk ∧ (ii : Int) < ii := e
    omega
  have hnew : valV (flV L) (ck ((ii : Int), (kk : Int))) = none := by
    unfold flV
    rw [valV_lk (β := Addr × List Int) ck (fun q => V.ref q.1) (fun a b => ck_inj) L]
    have : lk L ((ii : Int), (kk : Int)) = none := by
      cases e : lk L ((ii : Int), (kk : Int)) with
      | none => rfl
      | some x => exact absurd rfl (hnk _ (lk_mem e))
    rw [this]
    rfl
  have keepLI : ∀ {a : Addr} {xs : List V}, LI ex H a xs → LI ex (upd H fA (.dT (putK (flV L) (ck ((ii : Int), (kk : Int))) (.ref lA)))) a xs := fun {a xs} hx => ⟨by rw [upd_ne (ne_of hx.1 h.at_ (by intro z; cases z))]; exact hx.1, hx.2⟩
  refine ⟨?_, fun q hq => ?_, ?_, fun q hq => ?_, fun q hq => ?_, ?_⟩
  · rw [upd_same, putK_new _ hnew]
    unfold flV
    rw [List.map_append]
    rfl
  · rcases List.mem_append.mp hq with z | z
    · exact keepLI (h.li q z)
    · rw [List.mem_singleton.mp z]
      exact keepLI hl
  · rw [List.map_append, List.nodup_append]
    refine ⟨h.nd, by simp, fun a ha b hb => ?_⟩
    rw [List.map_cons, List.map_nil, List.mem_singleton] at hb
    obtain ⟨q, hq, rfl⟩ := List.mem_map.mp ha
    rw [hb]
    exact hnk q hq
  · rcases List.mem_append.mp hq with z | z
    · obtain ⟨a, b, c, d, e⟩ := h.key q z
      exact ⟨a, b, c, d, by omega⟩
    · rw [List.mem_singleton.mp z]
      show 0 ≤ (ii : Int) ∧ (ii : Int) ≤ 100 ∧ 0 ≤ (kk : Int) ∧ (kk : Int) ≤ 100 ∧ ((kk : Int) < kk ∨ ((kk : Int) = kk ∧ (ii : Int) < ((ii + 1 : Nat) : Int)))
      omega
  · rcases List.mem_append.mp hq with z | z
    · exact h.lv q z
    · rw [List.mem_singleton.mp z]
      exact hls
  · have := h.len
    rw [List.length_append, List.length_singleton]
    omega
end
theorem at3 {a b c r : Int} (h0 : 0 ≤ r) (h3 : r < 3) : ∃ n, atI [V.int a, V.int b, V.int c] r = some (.int n) ∧ (n = a ∨ n = b ∨ n = c) := by
  have : r = 0 ∨ r = 1 ∨ r = 2 := by omega
  rcases this with rfl | rfl | rfl
  · exact ⟨a, at_of (j := 0) rfl rfl, .inl rfl⟩
  · exact ⟨b, at_of (j := 1) rfl rfl, .inr (.inl rfl)⟩
  · exact ⟨c, at_of (j := 2) rfl rfl, .inr (.inr rfl)⟩
def ArOk (a : List Int) : Prop := a.length = 7 ∧ (∀ n ∈ a, -10000 ≤ n ∧ n ≤ 10000) ∧ 1 ≤ a.getD 6 0 ∧ a.getD 6 0 ≤ 1000
def spLGround (C : Addr) (T : TbT) (sA cA : Addr) : Sp := fun vs H Q _ => vs = [.ref sA] ∧ Gd T [sA, cA] H ∧ ∀ (a : Addr) (W : Wd) (H' : Hp), EX T [sA, cA] H H' → W.Ok → WdAt C [sA, cA] H' a W → Q (.ref a) H'
section
variable {P : Program} {w : World} {K : PySem.W.Frag} {mg : Str → Option Value} {base : Heap} {T : TbT} {G C : Addr}
def nLGround : List Str := ["_law_state_here", "_law_columns", "_law_rows", "_law_settings", "_law_floors", "_law_k", "_law_i", "_law_levels", "_law_areas", "_law_x", "_law_z", "_law_y", "_law_high", "_law_cost", "_law_climb"]
theorem scLGround : FnScope nLGround ["_law_state_here"] (defScope sLGround) := ⟨rfl, rfl, rfl, by decide +kernel, rfl, by decide +kernel, by decide +kernel⟩
/-- the class Settings, as a caller sees it -/
structure MkS (P : Program) (w : World) (K : PySem.W.Frag) (mg : Str → Option Value) (base : Heap) (C : Addr) (T : TbT) (ex : List Addr) : Prop where
  mkr : ∃ f fd, Mk K C f ∧ FnOk P w K mg base CX0 2 f fd nSInit (spSInit C T ex) ∧ ∃ mv : List Value, KBn K fd nSInit 1 kwS (fun us ws => us ++ (ws ++ mv)) (fun vs zs => vs ++ (zs ++ [.int 0, .int 8]))
  gl : mg "Settings" = some (.ref C)
theorem ok_lground {f : Addr} {fd : FuncData} (F : FnP K "_law_ground" "_law_ground" sLGround f fd) (X : STxt K mg C) (mR : mg "range" = none) (mL : mg "len" = none) (sA cA : Addr) (MS : MkS P w K mg base C T [sA, cA]) (DD : Df P w K mg base 1 "_law_draw" ["_law_state_here", "_law_many"] (spDraw T sA cA)) :
    FnOk P w K mg base CX0 4 f fd ["_law_state_here"] (spLGround C T sA cA) := by
  obtain ⟨fS, fdS, hMk, hFS, mv, hKB⟩ := MS.mkr
  refine fn_rule F scLGround (fun vs H Q E h => ?_) (fun cdv A outer s0 H vs Q E hr h => ?_)
  · obtain ⟨rfl, _⟩ := h
    rfl
  · obtain ⟨rfl, g, k⟩ := h
    have hu := hu_of hr
    have hr1 : Room 1 (A.deeper (envOfC "_law_ground" (defScope sLGround) s0.heap.objs.size f cdv)) := hr.mono (by decide)
    refine ⟨_, pss_cons (ps_set (i := 1) scLGround.nd rfl (.inl rfl) (pe_op op_add pe_int (pe_df DD hr1 rfl (pa_cons (pv 0) (pa_cons pe_int pa_nil)))))
      (pss_cons (ps_set (i := 2) scLGround.nd rfl (.inl rfl) (pe_op op_add pe_int (pe_df DD hr1 rfl (pa_cons (pv 0) (pa_cons pe_int pa_nil)))))
      (pss_cons (ps_set (i := 3) scLGround.nd rfl (.inl rfl) (pe_makeK0 hMk hFS hr rfl MS.gl hKB pass0 (pk_cons (pv 1) (pk_cons (pv 2) (pk_cons pe_int (pk_cons (pe_op op_add pe_int (pe_df DD hr1 rfl (pa_cons (pv 0) (pa_cons pe_int pa_nil)))) (pk_cons pe_int (pk_cons pe_int (pk_cons (pe_op op_add pe_int (pe_df DD hr1 rfl (pa_cons (pv 0) (pa_cons pe_int pa_nil)))) (pk_cons (pe_tup (pa_cons pe_int (pa_cons pe_int pa_nil))) pk_nil))))))))))
      (pss_cons (ps_set (i := 4) scLGround.nd rfl (.inl rfl) pe_dnewT)
      (pss_cons (ps_for PassesOwn.never rfl (pi_range1 rfl mR (pa_cons (pe_fld (pv 3) rfl) pa_nil)) (pg_name (i := 5) scLGround.nd rfl (.inl rfl))
        (pss_one (ps_for PassesOwn.never rfl (pi_range1 rfl mR (pa_cons (pe_fld (pv 3) rfl) pa_nil)) (pg_name (i := 6) scLGround.nd rfl (.inl rfl))
          (pss_cons (ps_set (i := 7) scLGround.nd rfl (.inl rfl) (pe_lst pa_nil))
          (pss_cons (ps_if (pt_cmpR op_gt (pe_df DD hr1 rfl (pa_cons (pv 0) (pa_cons pe_int pa_nil))) pe_int (nomark _))
            (pss_one (ps_expr (pe_bm PySem.F.plainAttrs_list PySem.F.slot_list_append PySem.F.type_list_append mt_append (pv 7) (pa_cons (pe_df DD hr1 rfl (pa_cons (pv 0) (pa_cons (pe_ix ix_list (pe_lst (pa_cons pe_int (pa_cons pe_int (pa_cons pe_int pa_nil)))) (pe_df DD hr1 rfl (pa_cons (pv 0) (pa_cons pe_int pa_nil))) (fun _ _ => rfl)) pa_nil))) pa_nil)))) pss_nil)
          (pss_cons (ps_if (pt_cmpR (op_eqD hr.units) (pe_df DD hr1 rfl (pa_cons (pv 0) (pa_cons pe_int pa_nil))) pe_int (nomark _))
            (pss_one (ps_expr (pe_bm PySem.F.plainAttrs_list PySem.F.slot_list_append PySem.F.type_list_append mt_append (pv 7) (pa_cons (pe_op op_add pe_int (pe_df DD hr1 rfl (pa_cons (pv 0) (pa_cons pe_int pa_nil)))) pa_nil)))) pss_nil)
          (pss_one (ps_if (PW.pt (pw_or (pt_cmpR op_gt (pe_callB call_len (by rfl) mL (by decide +kernel) (pa_cons (pv 7) pa_nil)) pe_int (nomark _)) (pw_or1 (pt_cmpR (op_eqD hr.units) (pe_df DD hr1 rfl (pa_cons (pv 0) (pa_cons pe_int pa_nil))) pe_int (nomark _)))))
            (pss_one (ps_dput hu (pv 4) (pe_tup (pa_cons (pv 6) (pa_cons (pv 5) pa_nil))) (pv 7) rfl)) pss_nil))))))))
      (pss_cons (ps_set (i := 8) scLGround.nd rfl (.inl rfl) (pe_lst pa_nil))
      (pss_cons (ps_for PassesOwn.never rfl (pi_range1 rfl mR (pa_cons (pe_df DD hr1 rfl (pa_cons (pv 0) (pa_cons pe_int pa_nil))) pa_nil)) (pg_name (i := 5) scLGround.nd rfl (.inl rfl))
        (pss_cons (ps_set (i := 9) scLGround.nd rfl (.inl rfl) (pe_op op_sub (pe_df DD hr1 rfl (pa_cons (pv 0) (pa_cons pe_int pa_nil))) pe_int))
        (pss_cons (ps_set (i := 10) scLGround.nd rfl (.inl rfl) (pe_op op_sub (pe_df DD hr1 rfl (pa_cons (pv 0) (pa_cons pe_int pa_nil))) pe_int))
        (pss_cons (ps_set (i := 11) scLGround.nd rfl (.inl rfl) (pe_op op_sub (pe_df DD hr1 rfl (pa_cons (pv 0) (pa_cons pe_int pa_nil))) pe_int))
        (pss_cons (ps_set (i := 12) scLGround.nd rfl (.inl rfl) (pe_op op_add (pv 11) (pe_df DD hr1 rfl (pa_cons (pv 0) (pa_cons pe_int pa_nil)))))
        (pss_cons (ps_set (i := 13) scLGround.nd rfl (.inl rfl) (pe_op op_add pe_int (pe_df DD hr1 rfl (pa_cons (pv 0) (pa_cons (pe_ix ix_list (pe_lst (pa_cons pe_int (pa_cons pe_int (pa_cons pe_int pa_nil)))) (pe_df DD hr1 rfl (pa_cons (pv 0) (pa_cons pe_int pa_nil))) (fun _ _ => rfl)) pa_nil)))))
        (pss_one (ps_expr (pe_bm PySem.F.plainAttrs_list PySem.F.slot_list_append PySem.F.type_list_append mt_append (pv 8) (pa_cons (pe_tup (pa_cons (pv 9) (pa_cons (pv 10) (pa_cons (pe_op op_add (pv 9) (pe_df DD hr1 rfl (pa_cons (pv 0) (pa_cons pe_int pa_nil)))) (pa_cons (pe_op op_add (pv 10) (pe_df DD hr1 rfl (pa_cons (pv 0) (pa_cons pe_int pa_nil)))) (pa_cons (pv 11) (pa_cons (pv 12) (pa_cons (pv 13) pa_nil)))))))) pa_nil))))))))))
      (pss_cons (ps_set (i := 14) scLGround.nd rfl (.inl rfl) (pe_ix ix_list (pe_lst (pa_cons pe_int (pa_cons pe_int (pa_cons (pe_df DD hr1 rfl (pa_cons (pv 0) (pa_cons pe_int pa_nil))) pa_nil)))) (pe_df DD hr1 rfl (pa_cons (pv 0) (pa_cons pe_int pa_nil))) (fun _ _ => rfl)))
      (pss_one (ps_ret (pe_lst (pa_cons (pv 3) (pa_cons (pv 4) (pa_cons (pv 8) (pa_cons (pv 14) pa_nil)))))))))))))), ?_⟩
    refine ⟨_, rfl, 4, rfl, g, by decide, by decide, fun r1 H1 e1 a1 b1 => ⟨_, _, rfl, rfl, ?_⟩⟩
    have g1 := e1.g g
    refine ⟨_, rfl, 4, rfl, g1, by decide, by decide, fun r2 H2 e2 a2 b2 => ⟨_, _, rfl, rfl, ?_⟩⟩
    have g2 := e2.g g1
    refine ⟨_, rfl, _, rfl, _, rfl, 2, rfl, g2, by decide, by decide, fun r3 H3 e3 a3 b3 => ⟨_, _, rfl, rfl, ?_⟩⟩
    have g3 := e3.g g2
    refine ⟨_, rfl, 3, rfl, g3, by decide, by decide, fun r4 H4 e4 a4 b4 => ⟨_, _, rfl, rfl, (by show 2 ≤ sizeLine; decide), fun slA hslA => ⟨rfl, rfl, fun stA dx hx hdx hne => ?_⟩⟩⟩
    have g4 := e4.g g3
    have e14 := ((e1.trans e2).trans e3).trans e4
    have e5 : EX T [sA, cA] H4 (upd H4 slA (.tup [.int 1, .int 2])) := EX.new hslA
    have hsl5 : upd H4 slA (.tup [.int 1, .int 2]) slA = some (.tup [.int 1, .int 2]) := upd_same
    have e15 := e14.trans e5
    generalize upd H4 slA (.tup [.int 1, .int 2]) = H5 at e15 hsl5 hx hdx ⊢
    have g5 := e15.g g
    have e6 : EX T [sA, cA] H5 (upd H5 dx (.own stA)) := EX.new hdx
    have hx6 : upd H5 dx (.own stA) stA = none := by rw [upd_ne hne.symm]; exact hx
    have e7 := e6.trans (EX.new (o := .ins C dx []) hx6)
    refine ⟨H5, stA, dx, slA, 2 + r1, 1 + r2, 1 + r3, 1 + r4, rfl, e7, g5, FrN.none hx, g5.ne hx, upd_same, e7.tup g5 hsl5, ⟨by omega, by omega⟩, ⟨by omega, by omega⟩, ⟨by omega, by omega⟩, ⟨by omega, by omega⟩, fun H8 e8 hse => ⟨rfl, ?_⟩⟩
    have e18 := e15.trans e8
    have g8 := e18.g g
    obtain ⟨dxs, fs, hob, f1, f2, f3, f4, f5⟩ := id hse.ob
    intro fA hfA
    have nF := g8.ne hfA
    have e9 : EX T [sA, cA] H8 (upd H8 fA (.dT [])) := EX.new hfA
    have hF9 : upd H8 fA (.dT []) fA = some (.dT (flV [])) := upd_same
    generalize upd H8 fA (.dT []) = H9 at e9 hF9 ⊢
    refine ⟨_, rfl, stA, C, dxs, fs, _, rfl, e9.ins g8 hob, X.cl, X.n4, f5, _, rfl, by omega, by omega, for_range (fun kk σ H' => EX T [sA, cA] H8 H' ∧ ∃ (L : FlL) (o5 o6 o7 : Option V), σ = [some (.ref sA), some (.int (2 + r1)), some (.int (1 + r2)), some (.ref stA), some (.ref fA), o5, o6, o7, none, none, none, none, none, none, none] ∧ FlInv [sA, cA] H' fA kk 0 L)
      ⟨e9, [], none, none, none, rfl, hF9, (fun q hq => nomatch hq), List.nodup_nil, (fun q hq => nomatch hq), (fun q hq => nomatch hq), Nat.le_refl 0⟩ ?_ ?_⟩
    · rintro kk σ H10 hkk ⟨e10, L, o5, o6, o7, rfl, hI⟩
      refine ⟨_, rfl, stA, C, dxs, fs, _, rfl, e10.ins g8 hob, X.cl, X.n3, f4, _, rfl, by omega, by omega, for_range (fun ii σ H' => EX T [sA, cA] H8 H' ∧ ∃ (L : FlL) (o6 o7 : Option V), σ = [some (.ref sA), some (.int (2 + r1)), some (.int (1 + r2)), some (.ref stA), some (.ref fA), some (.int (0 + (kk : Int))), o6, o7, none, none, none, none, none, none, none] ∧ FlInv [sA, cA] H' fA kk ii L)
        ⟨e10, L, _, _, rfl, hI⟩ ?_ ?_⟩
      · rintro ii σ Hb hii ⟨eb, L, o6, o7, rfl, hI⟩
        have gb := eb.g g8
        refine ⟨Nat.zero_le _, fun lA hlA => ?_⟩
        have nl := gb.ne hlA
        have xl : FrN Hb lA := FrN.none hlA
        have ec : EX T [sA, cA] Hb (upd Hb lA (.lst [])) := EX.new hlA
        have hlc : upd Hb lA (.lst []) lA = some (.lst (([] : List Int).map V.int)) := upd_same
        generalize upd Hb lA (.lst []) = Hc at ec hlc ⊢
        have gc := ec.g gb
        refine ⟨_, rfl, 6, rfl, gc, by decide, by decide, fun r Hd ed ra rb => ⟨_, _, rfl, rfl, _, rfl, ?_⟩⟩
        have ebd := ec.trans ed
        have gd := ed.g gc
        have hld := ed.k lA _ hlc nl (fun ps z => nomatch z)
        have fFA : ∀ {H'}, EX T [sA, cA] Hb H' → EX T [sA, cA] H8 H' := fun e => eb.trans e
        refine ite_join (fun σ' H' => σ' = [some (.ref sA), some (.int (2 + r1)), some (.int (1 + r2)), some (.ref stA), some (.ref fA), some (.int (0 + (kk : Int))), some (.int (0 + (ii : Int))), some (.ref lA), none, none, none, none, none, none, none] ∧ EX T [sA, cA] Hb H' ∧ ∃ ls : List Int, H' lA = some (.lst (ls.map V.int)) ∧ ls.length ≤ 1 ∧ ∀ x ∈ ls, 0 ≤ x ∧ x ≤ 4) ?_ (fun _ key => ?_) (fun _ => ⟨rfl, ebd, [], hld, Nat.zero_le _, fun x hx => nomatch hx⟩)
        rotate_left
        · refine ⟨_, rfl, .inl ⟨rfl, _, SqL.of hld⟩, _, rfl, (by show 3 ≤ sizeLine; decide), fun l3 hl3 => ?_⟩
          have e3' : EX T [sA, cA] Hd (upd Hd l3 (.lst [.int 1, .int 3, .int 5])) := EX.new hl3
          have h3 : upd Hd l3 (.lst [.int 1, .int 3, .int 5]) l3 = some (.lst [.int 1, .int 3, .int 5]) := upd_same
          have n3 := gd.ne hl3
          have hl3' := e3'.k lA _ hld nl (fun ps z => nomatch z)
          generalize upd Hd l3 (.lst [.int 1, .int 3, .int 5]) = Hd3 at e3' h3 hl3' ⊢
          have gd3 := e3'.g gd
          refine ⟨_, rfl, 3, rfl, gd3, by decide, by decide, fun q He ee qa qb => ?_⟩
          obtain ⟨n, hn, hnn⟩ := at3 (a := 1) (b := 3) (c := 5) qa qb
          have ge := ee.g gd3
          refine ⟨l3, _, _, _, rfl, rfl, SqL.of (ee.k l3 _ h3 n3 (fun ps z => nomatch z)), hn, n, rfl, ge, by omega, by omega, fun u Hf ef ua ub => ?_⟩
          have hlf := ef.k lA _ (ee.k lA _ hl3' nl (fun ps z => nomatch z)) nl (fun ps z => nomatch z)
          refine ⟨lA, _, _, rfl, rfl, hlf, by decide, key _ _ ⟨rfl, (((ebd.trans e3').trans ee).trans ef).put xl hlf rfl nl, [u], upd_same, Nat.le_refl 1, fun x hx => ?_⟩⟩
          rw [List.mem_singleton.mp hx]
          omega
        rintro _ Hg ⟨rfl, eg, ls, hlg, hll, hlv⟩
        have gg := eg.g gb
        refine ⟨_, rfl, 5, rfl, gg, by decide, by decide, fun r' Hh eh ra' rb' => ⟨_, _, .int _, .int _, int_shaped _, int_shaped _, _, rfl, ?_⟩⟩
        rw [int_eqv]
        have ebh := eg.trans eh
        have gh := eh.g gg
        have hlh := eh.k lA _ hlg nl (fun ps z => nomatch z)
        refine ite_join (fun σ' H' => σ' = [some (.ref sA), some (.int (2 + r1)), some (.int (1 + r2)), some (.ref stA), some (.ref fA), some (.int (0 + (kk : Int))), some (.int (0 + (ii : Int))), some (.ref lA), none, none, none, none, none, none, none] ∧ EX T [sA, cA] Hb H' ∧ ∃ ls : List Int, H' lA = some (.lst (ls.map V.int)) ∧ LvOk ls) ?_ (fun _ key => ?_) (fun _ => ⟨rfl, ebh, ls, hlh, lvOk_low hll hlv⟩)
        rotate_left
        · refine ⟨_, rfl, .inl ⟨rfl, _, SqL.of hlh⟩, _, rfl, 3, rfl, gh, by decide, by decide, fun q He ee qa qb => ⟨_, _, rfl, rfl, ?_⟩⟩
          have hle := ee.k lA _ hlh nl (fun ps z => nomatch z)
          exact ⟨lA, _, _, rfl, rfl, hle, by rw [List.length_map]; exact small40 (by omega), key _ _ ⟨rfl, (ebh.trans ee).put xl hle rfl nl, ls ++ [20 + q], by rw [upd_same, List.map_append]; rfl, lvOk_add hll hlv qa qb⟩⟩
        rintro _ Hg ⟨rfl, eg, ls, hlg, hok⟩
        have gg := eg.g gb
        have ez : ∀ n : Nat, (0 + (n : Int)) = (n : Int) := fun n => Int.zero_add _
        have store : ∀ Hs, EX T [sA, cA] Hb Hs → Hs lA = some (.lst (ls.map V.int)) → ∀ t, Hs t = none → ∃ H4, DPut (upd Hs t (.tup [.int (0 + (ii : Int)), .int (0 + (kk : Int))])) fA (.ref t) (.ref lA) H4 ∧ EX T [sA, cA] H8 H4 ∧ ∃ L, FlInv [sA, cA] H4 fA kk (ii + 1) L := by
          intro Hs es hls t ht
          have gs := es.g gb
          rw [ez, ez]
          have et : EX T [sA, cA] Hs (upd Hs t (.tup [.int (ii : Int), .int (kk : Int)])) := EX.new ht
          have htt : upd Hs t (.tup [.int (ii : Int), .int (kk : Int)]) t = some (.tup [.int (ii : Int), .int (kk : Int)]) := upd_same
          have hlt := et.k lA _ hls nl (fun ps z => nomatch z)
          generalize upd Hs t (.tup [.int (ii : Int), .int (kk : Int)]) = Ht at et htt hlt ⊢
          have hI2 := hI.ext gb (es.trans et)
          refine ⟨_, DPut.t (k := ck ((ii : Int), (kk : Int))) hI2.at_ htt ?_, (fFA (es.trans et)).put (FrN.none hfA) hI2.at_ rfl nF, _, hI2.put ⟨hlt, nl⟩ hok (by omega) (by omega)⟩
          unfold flV
          rw [List.length_map]
          have := hI2.len
          exact small40 (by omega)
        refine ⟨_, rfl, _, _, rfl, .inl ⟨_, SqL.of hlg, rfl⟩, _, _, rfl, rfl, _, rfl, ?_⟩
        refine ite2 (fun _ => ?_) (fun _ => ?_)
        · refine ⟨_, rfl, _, rfl, _, rfl, _, rfl, (by show 2 ≤ sizeLine; decide), fun t ht => ?_⟩
          obtain ⟨H4, h1, h2, L4, h3⟩ := store Hg eg hlg t ht
          exact ⟨fA, H4, rfl, h1, h2, L4, _, _, rfl, h3⟩
        · refine ⟨_, rfl, 2, rfl, gg, by decide, by decide, fun r2' Hh eh _ _ => ⟨_, _, .int _, .int _, int_shaped _, int_shaped _, _, rfl, ?_⟩⟩
          rw [int_eqv]
          have egh := eg.trans eh
          refine ite2 (fun _ => ?_) (fun _ => ?_)
          · refine ⟨_, rfl, _, rfl, _, rfl, _, rfl, (by show 2 ≤ sizeLine; decide), fun t ht => ?_⟩
            obtain ⟨H4, h1, h2, L4, h3⟩ := store Hh egh (eh.k lA _ hlg nl (fun ps z => nomatch z)) t ht
            exact ⟨fA, H4, rfl, h1, h2, L4, _, _, rfl, h3⟩
          · exact ⟨fFA egh, L, _, _, rfl, (hI.ext gb egh).wide (Nat.le_succ _)⟩
      · rintro σ H11 ⟨e11, L2, o6, o7, rfl, hI2⟩
        exact ⟨e11, L2, _, _, _, rfl, hI2.row (by omega)⟩
    · rintro σ H10 ⟨e10, L, o5, o6, o7, rfl, hI⟩
      have g10 := e10.g g8
      refine ⟨Nat.zero_le _, fun aA haA => ?_⟩
      have nA := g10.ne haA
      have e11 : EX T [sA, cA] H10 (upd H10 aA (.lst [])) := EX.new haA
      have hA11 : upd H10 aA (.lst []) aA = some (.lst (([] : TL).map fun q => V.ref q.1)) := upd_same
      generalize upd H10 aA (.lst []) = H11 at e11 hA11 ⊢
      have g11 := e11.g g10
      refine ⟨_, rfl, 5, rfl, g11, by decide, by decide, fun r5 H12 e12 a5 b5 => ⟨_, rfl, by omega, by omega, for_range (fun i σ H' => EX T [sA, cA] H10 H' ∧ ∃ (LA : TL) (o5 o9 o10 o11 o12 o13 : Option V), σ = [some (.ref sA), some (.int (2 + r1)), some (.int (1 + r2)), some (.ref stA), some (.ref fA), o5, o6, o7, some (.ref aA), o9, o10, o11, o12, o13, none] ∧
        H' aA = some (.lst (LA.map fun q => V.ref q.1)) ∧ (∀ q ∈ LA, H' q.1 = some (.tup (q.2.map V.int)) ∧ ArOk q.2) ∧ LA.length ≤ i) ⟨e11.trans e12, [], _, _, _, _, _, _, rfl, e12.k aA _ hA11 nA (fun ps z => nomatch z), (fun q hq => nomatch hq), Nat.le_refl 0⟩ ?_ ?_⟩⟩
      · rintro i σ Ha hi ⟨ea, LA, o5', o9, o10, o11, o12, o13, rfl, hAa, hLA, hLAl⟩
        have ga := ea.g g10
        refine ⟨_, rfl, 24, rfl, ga, by decide, by decide, fun x Hb eb x0 x1 => ⟨_, _, rfl, rfl, ?_⟩⟩
        have gb := eb.g ga
        refine ⟨_, rfl, 20, rfl, gb, by decide, by decide, fun z Hc ec z0 z1 => ⟨_, _, rfl, rfl, ?_⟩⟩
        have gc := ec.g gb
        refine ⟨_, rfl, 8, rfl, gc, by decide, by decide, fun y Hd ed y0 y1 => ⟨_, _, rfl, rfl, ?_⟩⟩
        have gd := ed.g gc
        refine ⟨_, rfl, _, rfl, 60, rfl, gd, by decide, by decide, fun hh He ee h0 h1 => ⟨_, _, rfl, rfl, ?_⟩⟩
        have ge := ee.g gd
        refine ⟨_, rfl, (by show 3 ≤ sizeLine; decide), fun l3 hl3 => ?_⟩
        have ef : EX T [sA, cA] He (upd He l3 (.lst [.int 3, .int 20, .int 1000])) := EX.new hl3
        have h3 : upd He l3 (.lst [.int 3, .int 20, .int 1000]) l3 = some (.lst [.int 3, .int 20, .int 1000]) := upd_same
        have n3 := ge.ne hl3
        generalize upd He l3 (.lst [.int 3, .int 20, .int 1000]) = Hf at ef h3 ⊢
        have gf := ef.g ge
        refine ⟨_, rfl, 3, rfl, gf, by decide, by decide, fun q Hg eg qa qb => ?_⟩
        obtain ⟨n, hn, hnn⟩ := at3 (a := 3) (b := 20) (c := 1000) qa qb
        have gg := eg.g gf
        refine ⟨l3, _, _, _, rfl, rfl, SqL.of (eg.k l3 _ h3 n3 (fun ps z => nomatch z)), hn, n, rfl, gg, by omega, by omega, fun u Hh eh ua ub => ⟨_, _, rfl, rfl, ?_⟩⟩
        have gh := eh.g gg
        have eah := (((((eb.trans ec).trans ed).trans ee).trans ef).trans eg).trans eh
        have hAh := eah.k aA _ hAa nA (fun ps z => nomatch z)
        refine ⟨_, rfl, .inl ⟨rfl, _, SqL.of hAh⟩, _, rfl, _, rfl, _, rfl, _, rfl, 12, rfl, gh, by decide, by decide, fun d1 Hi ei d10 d11 => ⟨_, _, rfl, rfl, ?_⟩⟩
        have gi := ei.g gh
        refine ⟨_, rfl, _, rfl, 12, rfl, gi, by decide, by decide, fun d2 Hj ej d20 d21 => ⟨_, _, rfl, rfl, ?_⟩⟩
        have gj := ej.g gi
        refine ⟨_, rfl, _, rfl, _, rfl, (by show 7 ≤ sizeLine; decide), fun t ht => ?_⟩
        have eaj := (eah.trans ei).trans ej
        have et : EX T [sA, cA] Hj (upd Hj t (.tup [.int (x - 2), .int (z - 2), .int (x - 2 + d1), .int (z - 2 + d2), .int (y - 2), .int (y - 2 + hh), .int (1 + u)])) := EX.new ht
        have htt : upd Hj t (.tup [.int (x - 2), .int (z - 2), .int (x - 2 + d1), .int (z - 2 + d2), .int (y - 2), .int (y - 2 + hh), .int (1 + u)]) t = some (.tup ([x - 2, z - 2, x - 2 + d1, z - 2 + d2, y - 2, y - 2 + hh, 1 + u].map V.int)) := upd_same
        generalize upd Hj t (.tup [.int (x - 2), .int (z - 2), .int (x - 2 + d1), .int (z - 2 + d2), .int (y - 2), .int (y - 2 + hh), .int (1 + u)]) = Hk at et htt ⊢
        have eak := eaj.trans et
        have hAk := eak.k aA _ hAa nA (fun ps z => nomatch z)
        have hLAk : ∀ q ∈ LA, Hk q.1 = some (.tup (q.2.map V.int)) ∧ ArOk q.2 := fun q hq => ⟨eak.tup ga (hLA q hq).1, (hLA q hq).2⟩
        refine ⟨aA, _, _, rfl, rfl, hAk, by rw [List.length_map]; exact small40 (by omega), (ea.trans eak).put (FrN.none haA) hAk rfl nA, LA ++ [(t, [x - 2, z - 2, x - 2 + d1, z - 2 + d2, y - 2, y - 2 + hh, 1 + u])], _, _, _, _, _, _, rfl, ?_, fun q hq => ?_, ?_⟩
        · rw [upd_same, List.map_append]
          rfl
        · have : Hk q.1 = some (.tup (q.2.map V.int)) ∧ ArOk q.2 := by
            rcases List.mem_append.mp hq with h | h
            · exact hLAk q h
            · rw [List.mem_singleton.mp h]
              refine ⟨htt, rfl, fun m hm => ?_, ?_, ?_⟩
              · simp only [List.mem_cons, List.not_mem_nil, or_false] at hm
                omega
              · show 1 ≤ 1 + u
                omega
              · show 1 + u ≤ 1000
                omega
          exact ⟨by rw [upd_ne (ne_of this.1 hAk (by intro z; cases z))]; exact this.1, this.2⟩
        · rw [List.length_append, List.length_singleton]
          omega
      · rintro σ Ha ⟨ea, LA, o5', o9, o10, o11, o12, o13, rfl, hAa, hLA, hLAl⟩
        have ga := ea.g g10
        refine ⟨_, rfl, 30, rfl, ga, by decide, by decide, fun c Hb eb c0 c1 => ?_⟩
        have gb := eb.g ga
        refine ⟨(by show 3 ≤ sizeLine; decide), fun l3 hl3 => ?_⟩
        have ef : EX T [sA, cA] Hb (upd Hb l3 (.lst [.int 0, .int 1, .int c])) := EX.new hl3
        have h3 : upd Hb l3 (.lst [.int 0, .int 1, .int c]) l3 = some (.lst [.int 0, .int 1, .int c]) := upd_same
        have n3 := gb.ne hl3
        generalize upd Hb l3 (.lst [.int 0, .int 1, .int c]) = Hf at ef h3 ⊢
        have gf := ef.g gb
        refine ⟨_, rfl, 3, rfl, gf, by decide, by decide, fun q Hg eg qa qb => ?_⟩
        obtain ⟨n, hn, hnn⟩ := at3 (a := 0) (b := 1) (c := c) qa qb
        have gg := eg.g gf
        refine ⟨l3, _, _, _, rfl, rfl, SqL.of (eg.k l3 _ h3 n3 (fun ps z => nomatch z)), hn, ?_⟩
        refine ⟨_, rfl, _, rfl, _, rfl, _, rfl, (by show 4 ≤ sizeLine; decide), fun p hp => ?_⟩
        have eh : EX T [sA, cA] Hg (upd Hg p (.lst [.ref stA, .ref fA, .ref aA, .int n])) := EX.new hp
        have hph : LI [sA, cA] (upd Hg p (.lst [.ref stA, .ref fA, .ref aA, .int n])) p [.ref stA, .ref fA, .ref aA, .int n] := LI.new gg hp
        have eah := ((eb.trans ef).trans eg).trans eh
        have e10h := ea.trans eah
        have e8h := e10.trans e10h
        have hI2 := hI.ext g10 e10h
        refine k p ⟨(1 + r4) / (1 + r3), 1 + r3, n, L.map fun q => (q.1, q.2.2), LA.map (·.2)⟩ _ (e18.trans e8h) ⟨?_, ?_, ?_, ?_, fun c hc => ?_, ?_, ?_, fun a ha => ?_⟩ ⟨stA, fA, aA, hph, (e8h.se g8 hse).st, ⟨L, rfl, hI2.at_, hI2.li⟩, LA, rfl, ⟨eah.k aA _ hAa nA (fun ps z => nomatch z), nA⟩, fun q hq => eah.tup ga (hLA q hq).1⟩
        · show 0 ≤ (1 + r4) / (1 + r3) ∧ (1 + r4) / (1 + r3) ≤ 3
          have : r3 = 0 ∨ r3 = 1 := by omega
          rcases this with rfl | rfl <;> omega
        · show 1 ≤ 1 + r3 ∧ 1 + r3 ≤ 2
          omega
        · show 0 ≤ n ∧ n ≤ 1000
          omega
        · show ((L.map fun q => (q.1, q.2.2)).map (·.1)).Nodup
          rw [List.map_map]
          exact hI.nd
        · obtain ⟨q, hq, rfl⟩ := List.mem_map.mp (show c ∈ L.map fun q => (q.1, q.2.2) from hc)
          obtain ⟨b1', b2', b3', b4', _⟩ := hI.key q hq
          exact ⟨b1', b2', b3', b4', (hI.lv q hq).1, (hI.lv q hq).2⟩
        · show (L.map fun q => (q.1, q.2.2)).length ≤ 20
          rw [List.length_map]
          have := hI.len
          omega
        · show (LA.map (·.2)).length ≤ 10
          rw [List.length_map]
          omega
        · obtain ⟨q, hq, rfl⟩ := List.mem_map.mp (show a ∈ LA.map (·.2) from ha)
          exact (hLA q hq).2
end
end K76
namespace K76
open PySem PySem.Spec PyProof.Rows L2 LamX
def spLHalf (C : Addr) (T : TbT) (ex : List Addr) : Sp := fun vs H Q _ => ∃ (wA pA : Addr) (W : Wd) (p : Pl), vs = [.ref wA, .ref pA] ∧ Gd T ex H ∧ W.Ok ∧ WdAt C ex H wA W ∧ PlAt H pA p ∧ Q (.int (W.half p)) H
section
variable {P : Program} {w : World} {K : PySem.W.Frag} {mg : Str → Option Value} {base : Heap} {T : TbT} {ex : List Addr} {G C : Addr}
def nLHalf : List Str := ["_law_world", "_law_place", "_law_settings", "_law_floors", "_law_areas", "_law_climb", "_law_i", "_law_k", "_law_level", "_law_found", "_law_x0", "_law_z0", "_law_x1", "_law_z1", "_law_y0", "_law_y1", "_law_cost", "_law_wide"]
theorem scLHalf : FnScope nLHalf ["_law_world", "_law_place"] (defScope sLHalf) := ⟨rfl, rfl, rfl, by decide +kernel, rfl, by decide +kernel, by decide +kernel⟩
theorem ok_lhalf {f : Addr} {fd : FuncData} (F : FnP K "_law_half" "_law_half" sLHalf f fd) (X : STxt K mg C) (mM : mg "max" = none) : FnOk P w K mg base CX0 1 f fd ["_law_world", "_law_place"] (spLHalf C T ex) := by
  refine fn_rule F scLHalf (fun vs H Q E h => ?_) (fun cdv A outer s0 H vs Q E hr h => ?_)
  · obtain ⟨wA, pA, W, p, rfl, _⟩ := h
    rfl
  · obtain ⟨wA, pA, W, p, rfl, g, hW, hWd, hp, k⟩ := h
    refine ⟨_, pss_cons (ps_asg (pv 0) (pg_lst (by rfl) (pgs_cons (pg_name (i := 2) scLHalf.nd rfl (.inl rfl)) (pgs_cons (pg_name (i := 3) scLHalf.nd rfl (.inl rfl)) (pgs_cons (pg_name (i := 4) scLHalf.nd rfl (.inl rfl)) (pgs_cons (pg_name (i := 5) scLHalf.nd rfl (.inl rfl)) pgs_nil))))))
      (pss_cons (ps_asg (pv 1) (pg_tup (by rfl) (pgs_cons (pg_name (i := 6) scLHalf.nd rfl (.inl rfl)) (pgs_cons (pg_name (i := 7) scLHalf.nd rfl (.inl rfl)) (pgs_cons (pg_name (i := 8) scLHalf.nd rfl (.inl rfl)) pgs_nil)))))
      (pss_cons (ps_set (i := 9) scLHalf.nd rfl (.inl rfl) pe_int)
      (pss_cons (ps_for PassesOwn.never rfl (pi_list (pv 4)) (pg_tup (by rfl) (pgs_cons (pg_name (i := 10) scLHalf.nd rfl (.inl rfl)) (pgs_cons (pg_name (i := 11) scLHalf.nd rfl (.inl rfl)) (pgs_cons (pg_name (i := 12) scLHalf.nd rfl (.inl rfl)) (pgs_cons (pg_name (i := 13) scLHalf.nd rfl (.inl rfl)) (pgs_cons (pg_name (i := 14) scLHalf.nd rfl (.inl rfl)) (pgs_cons (pg_name (i := 15) scLHalf.nd rfl (.inl rfl)) (pgs_cons (pg_name (i := 16) scLHalf.nd rfl (.inl rfl)) pgs_nil))))))))
        (pss_cons (ps_set (i := 17) scLHalf.nd rfl (.inl rfl) (pe_and (pe_cmpR op_le (pv 10) (pe_op op_add (pe_op op_mul pe_int (pv 6)) pe_int) (nomark _)) (pe_and (pe_cmpR op_ge (pv 12) (pe_op op_mul pe_int (pv 6)) (nomark _)) (pe_and (pe_cmpR op_le (pv 11) (pe_op op_add (pe_op op_mul pe_int (pv 7)) pe_int) (nomark _)) (pe_one (pe_cmpR op_ge (pv 13) (pe_op op_mul pe_int (pv 7)) (nomark _)))))))
        (pss_one (ps_if (PW.pt (pw_and (pt_val (pv 17)) (pw_and1 (pt_chain op_le op_le (pv 14) (pe_op op_mul (pv 8) (pe_fld (pv 2) rfl)) (pv 15)))))
          (pss_one (ps_set (i := 9) scLHalf.nd rfl (.inl rfl) (pe_callB (call_max2 rfl) (by rfl) mM (by decide +kernel) (pa_cons (pv 9) (pa_cons (pv 16) pa_nil))))) pss_nil))))
      (pss_one (ps_ret (pv 9)))))), ?_⟩
    obtain ⟨stA, fA, aA, hWl, hS, hF, hA⟩ := id hWd
    obtain ⟨dx, fs, hSo, _, _, hLe⟩ := id hS.ob
    obtain ⟨L, eL, hAl, hAt⟩ := id hA
    refine ⟨_, rfl, wA, _, rfl, hWl.sq, rfl, _, _, rfl, _, _, rfl, _, _, rfl, _, _, rfl, rfl, ?_⟩
    refine ⟨_, rfl, pA, p.v, rfl, SqT.of hp, rfl, _, _, rfl, _, _, rfl, _, _, rfl, rfl, ?_⟩
    refine ⟨_, rfl, aA, rfl, ⟨_, hAl.sq⟩, for_list (K := K) (a := aA) (xs := L.map fun q => V.ref q.1) (fun i σ H' => H' = H ∧ ∃ (m : Int) (o10 o11 o12 o13 o14 o15 o16 o17 : Option V), σ = [some (.ref wA), some (.ref pA), some (.ref stA), some (.ref fA), some (.ref aA), some (.int W.climb), some (.int p.1), some (.int p.2.1), some (.int p.2.2), some (.int m), o10, o11, o12, o13, o14, o15, o16, o17] ∧
      halfOf W.level (W.areas.drop i) p m = W.half p) ⟨rfl, 1, none, none, none, none, none, none, none, none, rfl, rfl⟩ (fun i σ H' _ h => by rw [h.1]; exact hAl.sq) ?_ ?_⟩
    · rintro i y σ H' hi ⟨rfl, m, o10, o11, o12, o13, o14, o15, o16, o17, rfl, hm⟩
      rw [List.getElem?_map] at hi
      cases eq : L[i]? with
      | none => rw [eq] at hi; cases hi
      | some z =>
        rw [eq] at hi
        obtain rfl : V.ref z.1 = y := Option.some.inj hi
        have hz := hAt z (List.mem_of_getElem? eq)
        have haz : W.areas[i]? = some z.2 := by rw [eL, List.getElem?_map, eq]; rfl
        have h7 := (hW.area z.2 (List.mem_of_getElem? haz)).1
        have hdr : W.areas.drop i = z.2 :: W.areas.drop (i + 1) := by
          obtain ⟨hil, hx⟩ := List.getElem?_eq_some_iff.mp haz
          rw [← hx]
          exact List.drop_eq_getElem_cons hil
        rw [hdr] at hm
        unfold halfOf at hm
        clear haz hdr eq
        obtain ⟨zA, za⟩ := z
        match za, h7 with
        | [x0, z0, x1, z1, y0, y1, cost], _ =>
        have no : inArea W.level [x0, z0, x1, z1, y0, y1, cost] p = false → halfOf W.level (W.areas.drop (i + 1)) p m = W.half p := fun h => by
          rw [h] at hm
          exact hm
        have e1 : ∀ n : Int, (n + 1) * 4 = 4 * n + 4 := fun n => by omega
        have e2 : ∀ n : Int, n * 4 = 4 * n := fun n => by omega
        have ein : inArea W.level [x0, z0, x1, z1, y0, y1, cost] p = (decide (y0 ≤ p.2.2 * W.level) && (decide (p.2.2 * W.level ≤ y1) && ((decide (x0 ≤ 4 * p.1 + 4) && decide (4 * p.1 ≤ x1)) && (decide (z0 ≤ 4 * p.2.1 + 4) && decide (4 * p.2.1 ≤ z1))))) := by
          unfold inArea
          rw [e1, e1, e2, e2]
          rfl
        refine ⟨zA, _, rfl, SqT.of hz, rfl, _, _, rfl, _, _, rfl, _, _, rfl, _, _, rfl, _, _, rfl, _, _, rfl, _, _, rfl, rfl, ?_⟩
        refine ⟨_, rfl, _, rfl, _, _, rfl, rfl, .inl ⟨by decide, by decide⟩, _, _, rfl, rfl, _, _, rfl, rfl, _, rfl, ?_⟩
        refine iteB (fun c1 => ?_) (fun c1 => ?_)
        · refine ⟨_, rfl, _, rfl, _, _, rfl, rfl, .inl ⟨by decide, by decide⟩, _, _, rfl, rfl, _, rfl, ?_⟩
          refine iteB (fun c2 => ?_) (fun c2 => ?_)
          · refine ⟨_, rfl, _, rfl, _, _, rfl, rfl, .inl ⟨by decide, by decide⟩, _, _, rfl, rfl, _, _, rfl, rfl, _, rfl, ?_⟩
            refine iteB (fun c3 => ?_) (fun c3 => ?_)
            · refine ⟨_, rfl, _, rfl, _, _, rfl, rfl, .inl ⟨by decide, by decide⟩, _, _, rfl, rfl, ?_⟩
              refine ⟨_, rfl, _, rfl, ?_⟩
              refine iteB (fun c4 => ?_) (fun c4 => ?_)
              · refine ⟨_, rfl, _, rfl, _, rfl, stA, C, dx, fs, _, rfl, hSo, X.cl, X.n6, hLe, _, _, rfl, rfl, .inr ⟨by have := hW.level; omega, by have := hW.level; omega⟩, _, _, rfl, rfl, _, rfl, ?_⟩
                refine iteB (fun c5 => ?_) (fun c5 => ?_)
                · refine ⟨_, rfl, _, _, rfl, rfl, _, rfl, ?_⟩
                  refine iteB (fun c6 => ?_) (fun c6 => ?_)
                  · refine ⟨_, rfl, _, rfl, _, _, rfl, rfl, _, _, _, _, _, _, _, _, _, rfl, ?_⟩
                    rw [ein, c1, c2, c3, c4, c5, c6] at hm
                    exact hm
                  · refine ⟨rfl, _, _, _, _, _, _, _, _, _, rfl, no ?_⟩
                    rw [ein, c6, Bool.false_and, Bool.and_false]
                · refine ⟨_, rfl, rfl, _, _, _, _, _, _, _, _, _, rfl, no ?_⟩
                  rw [ein, c5, Bool.false_and]
              · refine ⟨rfl, _, _, _, _, _, _, _, _, _, rfl, no ?_⟩
                rw [ein, c4, Bool.and_false, Bool.and_false, Bool.and_false, Bool.and_false]
            · refine ⟨_, rfl, _, rfl, ?_⟩
              refine ⟨rfl, _, _, _, _, _, _, _, _, _, rfl, no ?_⟩
              rw [ein, c3, Bool.false_and, Bool.and_false, Bool.and_false, Bool.and_false]
          · refine ⟨_, rfl, _, rfl, ?_⟩
            refine ⟨rfl, _, _, _, _, _, _, _, _, _, rfl, no ?_⟩
            rw [ein, c2, Bool.and_false, Bool.false_and, Bool.and_false, Bool.and_false]
        · refine ⟨_, rfl, _, rfl, ?_⟩
          refine ⟨rfl, _, _, _, _, _, _, _, _, _, rfl, no ?_⟩
          rw [ein, c1, Bool.false_and, Bool.false_and, Bool.and_false, Bool.and_false]
    · rintro σ H' ⟨rfl, m, o10, o11, o12, o13, o14, o15, o16, o17, rfl, hm⟩
      have hlen : (L.map fun q => V.ref q.1).length = W.areas.length := by rw [eL, List.length_map, List.length_map]
      rw [hlen, List.drop_length] at hm
      have hm : m = W.half p := hm
      rw [hm]
      exact ⟨_, rfl, k⟩
end
end K76
namespace K76
open PySem PySem.Spec PyProof.Rows L2 LamX
/-- all floors, in some order -/
structure AllPls (W : Wd) (ps : List Pl) : Prop where
  mem : ∀ p, p ∈ ps ↔ W.fl p
  len : ps.length ≤ 40
def spLPlaces (C : Addr) (T : TbT) (ex : List Addr) : Sp := fun vs H Q _ => ∃ (wA : Addr) (W : Wd), vs = [.ref wA] ∧ Gd T ex H ∧ W.Ok ∧ WdAt C ex H wA W ∧ ∀ (l : Addr) (ps : List Pl) (H' : Hp), EX T ex H H' → PlsAt ex H' l ps → AllPls W ps → Q (.ref l) H'
section
variable {P : Program} {w : World} {K : PySem.W.Frag} {mg : Str → Option Value} {base : Heap} {T : TbT} {ex : List Addr} {G C : Addr}
def nLPlaces : List Str := ["_law_world", "_law_found", "_law_i", "_law_k", "_law_level"]
theorem scLPlaces : FnScope nLPlaces ["_law_world"] (defScope sLPlaces) := ⟨rfl, rfl, rfl, by decide +kernel, rfl, by decide +kernel, by decide +kernel⟩
def qLPlaces : Str := "_law_places.<locals>.<lambda>"
theorem ok_lplaces {f : Addr} {fd : FuncData} (F : FnP K "_law_places" "_law_places" sLPlaces f fd) (hf : f = He.fAd K ("_law_places", none)) (TB : TbOk T base mg (He.cT K ("_law_places", none)).1 (He.cT K ("_law_places", none)).2 qLPlaces) (mS : mg "sorted" = none) :
    FnOk P w K mg base CX0 2 f fd ["_law_world"] (spLPlaces C T ex) := by
  refine fn_ruleC F hf scLPlaces (fun vs H Q E h => ?_) (fun A outer s0 H vs Q E hr h => ?_)
  · obtain ⟨wA, W, rfl, _⟩ := h
    rfl
  · obtain ⟨wA, W, rfl, g, hW, hWd, k⟩ := h
    have hu := hu_of hr
    refine ⟨_, pss_cons (ps_set (i := 1) scLPlaces.nd rfl (.inl rfl) (pe_lst pa_nil))
      (pss_cons (ps_for PassesOwn.never rfl (pi_list (pe_sortLamD (ns := [1, 0]) (a := "_law_cell") ⟨TB.tb, rfl, TB.mem, TB.uniq, show ("_law_places" ++ ".<locals>." ++ "<lambda>" : Str) = qLPlaces from by decide +kernel⟩ ⟨rfl, rfl, rfl, by decide +kernel, by decide +kernel, rfl, fun _ _ _ _ _ => rfl, by decide, ⟨_, _, _, rfl, .cons (.cons .nil)⟩, by decide, by decide⟩ rfl hr rfl mS (pe_ix ix_list (pv 0) pe_int (fun _ _ => rfl))))
          (pg_tup (by rfl) (pgs_cons (pg_name (i := 2) scLPlaces.nd rfl (.inr rfl)) (pgs_cons (pg_name (i := 3) scLPlaces.nd rfl (.inr rfl)) pgs_nil)))
        (pss_one (ps_set (i := 1) scLPlaces.nd rfl (.inl rfl) (pe_op op_cat (pv 1) (pe_lc (own := [("_law_level", 4)]) (g := gName 4) (tt := tYes) rfl scLPlaces.nd (pi_list (pe_callB cr_sorted (by rfl) mS (by decide +kernel) (pa_cons (pe_dget hu (pe_ix ix_list (pv 0) pe_int (fun _ _ => rfl)) (pe_tup (pa_cons (pv 2) (pa_cons (pv 3) pa_nil))) (fun _ _ => rfl)) pa_nil))) (blkOk_by (N := nLPlaces) (sc := defScope sLPlaces) (by decide +kernel)) (fun _ _ _ _ _ => pg_name (i := 4) scLPlaces.nd rfl (Or.inl rfl)) (fun _ _ _ _ _ => pts_nil)
          (fun _ _ _ _ _ => pe_tup (pa_cons (pv 2) (pa_cons (pv 3) (pa_cons (pv 4) pa_nil)))))))))
      (pss_one (ps_ret (pv 1)))), ?_⟩
    obtain ⟨stA, fA, aA, hWl, hS, hF, hA⟩ := id hWd
    obtain ⟨L, eL, hFd, hFl⟩ := id hF
    have hLlen : L.length = W.cells.length := by rw [eL, List.length_map]
    have hfew := hW.few
    refine ⟨Nat.zero_le _, fun l0 hl0 => ?_⟩
    have e1 : EX T ex H (upd H l0 (.lst [])) := EX.new hl0
    have hl1 : LI ex (upd H l0 (.lst [])) l0 (([] : List (Addr × Pl)).map fun q => V.ref q.1) := LI.new g hl0
    generalize upd H l0 (.lst []) = H1 at e1 hl1 ⊢
    have g1 := e1.g g
    refine ⟨_, rfl, wA, _, _, _, rfl, rfl, (e1.li hWl).sq, at_of (j := 1) rfl rfl, g1.tabs, fun H2 ex2 T2 => ?_⟩
    have e2 : EX T ex H1 H2 := EX.ofN ex2 T2
    have g2 := e2.g g1
    have e02 := e1.trans e2
    refine ⟨fA, _, L.map fun q => [q.1.1, q.1.2], rfl, .inl (e02.dT g hFd), by rw [List.map_map, List.map_map]; rfl, fun m hm i hi => ?_, fun TLs hTL hTt p L' hp hperm => ?_⟩
    · obtain ⟨q, hq, rfl⟩ := List.mem_map.mp hm
      simp only [List.mem_cons, List.not_mem_nil, or_false] at hi
      show i < 2
      omega
    have e3 : EX T ex H2 (upd H2 p (.lst (L'.map fun z => V.ref z.1))) := EX.new hp
    have hp3 : LI ex (upd H2 p (.lst (L'.map fun z => V.ref z.1))) p (L'.map fun z => V.ref z.1) := LI.new g2 hp
    generalize upd H2 p (.lst (L'.map fun z => V.ref z.1)) = H3 at e3 hp3 ⊢
    have g3 := e3.g g2
    have e03 := e02.trans e3
    have hTLlen : L'.length = L.length := by
      rw [hperm.length_eq]
      have := congrArg List.length hTL
      rw [List.length_map, List.length_map] at this
      exact this
    have hL' : ∀ z ∈ L', ∃ q ∈ L, z.2 = [q.1.1, q.1.2] ∧ H3 z.1 = some (.tup [.int q.1.1, .int q.1.2]) := fun z hz => by
      have h1 := hperm.mem_iff.mp hz
      have h2 : z.2 ∈ L.map fun q => [q.1.1, q.1.2] := by rw [← hTL]; exact List.mem_map.mpr ⟨z, h1, rfl⟩
      obtain ⟨q, hq, e⟩ := List.mem_map.mp h2
      refine ⟨q, hq, e.symm, ?_⟩
      have := e3.tup g2 (hTt z h1)
      rw [← e] at this
      exact this
    refine ⟨p, rfl, ⟨_, hp3.sq⟩, for_list (K := K) (a := p) (xs := L'.map fun z => V.ref z.1) (fun i σ H' => EX T ex H3 H' ∧ ∃ (fl : Addr) (o2 o3 : Option V) (N : List (Addr × Pl)), σ = [some (.ref wA), some (.ref fl), o2, o3, none] ∧ LI ex H' fl (N.map fun q => V.ref q.1) ∧ (∀ q ∈ N, PlAt H' q.1 q.2) ∧
      (∀ q, q ∈ N.map (·.2) ↔ [q.1, q.2.1] ∈ (L'.take i).map (·.2) ∧ W.fl q) ∧ N.length ≤ 2 * i) ⟨EX.refl _, l0, none, none, [], rfl, (e2.trans e3).li hl1, (fun q hq => nomatch hq), fun q => ⟨(fun h => nomatch h), fun h => nomatch h.1⟩, Nat.le_refl 0⟩ (fun i σ H' _ h => (h.1.li hp3).sq) ?_ ?_⟩
    · rintro i y σ H4 hi ⟨e4, fl, o2, o3, N, rfl, hfl, hN, hmem, hNl⟩
      have hi40 := (List.getElem?_eq_some_iff.mp hi).1
      rw [List.length_map, hTLlen, hLlen] at hi40
      rw [List.getElem?_map] at hi
      cases ez : L'[i]? with
      | none => rw [ez] at hi; cases hi
      | some z =>
        rw [ez] at hi
        obtain rfl : V.ref z.1 = y := Option.some.inj hi
        obtain ⟨q, hq, hzq, hz3⟩ := hL' z (List.mem_of_getElem? ez)
        have hz4 := e4.tup g3 hz3
        have htk : L'.take (i + 1) = L'.take i ++ [z] := by rw [List.take_succ, ez]; rfl
        have g4 := e4.g g3
        have e04 := e03.trans e4
        refine ⟨z.1, _, rfl, SqT.of hz4, rfl, _, _, rfl, _, _, rfl, rfl, ?_⟩
        refine ⟨_, rfl, _, rfl, wA, _, _, _, rfl, rfl, (e04.li hWl).sq, at_of (j := 1) rfl rfl, _, rfl, _, rfl, (by show 2 ≤ sizeLine; decide), fun t ht => ?_⟩
        have e5 : EX T ex H4 (upd H4 t (.tup [.int q.1.1, .int q.1.2])) := EX.new ht
        have ht5 : upd H4 t (.tup [.int q.1.1, .int q.1.2]) t = some (.tup [.int q.1.1, .int q.1.2]) := upd_same
        generalize upd H4 t (.tup [.int q.1.1, .int q.1.2]) = H5 at e5 ht5 ⊢
        have g5 := e5.g g4
        have e05 := e04.trans e5
        have ndL : (L.map (·.1)).Nodup := by
          have := hW.nd
          rw [eL, List.map_map] at this
          exact this
        have hval : valV (L.map fun q => (ck q.1, V.ref q.2.1)) (ck q.1) = some (.ref q.2.1) := by
          rw [valV_lk (β := Addr × List Int) ck (fun q => V.ref q.1) (fun a b => ck_inj) L, lk_of_mem (v := q.2) ndL hq]
          rfl
        have hcell : (q.1, q.2.2) ∈ W.cells := by rw [eL]; exact List.mem_map.mpr ⟨q, hq, rfl⟩
        have hl2 := (hW.cell _ hcell).2.2.2.2.1
        have hget : DGet H5 fA (.ref t) (some (.ref q.2.1)) := by
          rw [← hval]
          exact DGet.t (k := ck q.1) (e05.dT g hFd) ht5
        refine ⟨fA, _, rfl, hget, q.2.1, q.2.2, rfl, (e05.li (hFl q hq)).sq, by have : q.2.2.length ≤ 2 := hl2; omega, fun ns' sl hns _ hsl => ?_⟩
        have e6 : EX T ex H5 (upd H5 sl (.lst (ns'.map V.int))) := EX.new hsl
        have hs6 : LI ex (upd H5 sl (.lst (ns'.map V.int))) sl (ns'.map V.int) := LI.new g5 hsl
        generalize upd H5 sl (.lst (ns'.map V.int)) = H6 at e6 hs6 ⊢
        have g6 := e6.g g5
        have e46 := e5.trans e6
        refine ⟨sl, rfl, ⟨_, hs6.sq⟩, fun D hD => ?_⟩
        have nD := g6.ne hD
        have hnl : ns'.length ≤ 2 := by rw [hns.length_eq]; exact hl2
        refine lc_list (K := K) (a := sl) (xs := ns'.map V.int) (fun j H' => EX T ex H6 H' ∧ ∃ M : List (Addr × Pl), H' D = some (.lst (M.map fun q => V.ref q.1)) ∧ M.map (·.2) = (ns'.take j).map (fun x => ((q.1.1, q.1.2, x) : Pl)) ∧ ∀ z ∈ M, PlAt H' z.1 z.2)
          ⟨EX.new hD, [], upd_same, rfl, (fun q hq => nomatch hq)⟩ (fun j H' _ h => (h.1.li hs6).sq) ?_ ?_
        · rintro j y H7 hj ⟨e7, M, hM, hMs, hMp⟩
          obtain ⟨x, rfl, hx⟩ := int_of_getElem hj
          have g7 := e7.g g6
          refine ⟨rfl, _, rfl, _, rfl, _, rfl, (by show 3 ≤ sizeLine; decide), fun b hb => ?_⟩
          have e8 : EX T ex H7 (upd H7 b (.tup [.int q.1.1, .int q.1.2, .int x])) := EX.new hb
          have hb8 : PlAt (upd H7 b (.tup [.int q.1.1, .int q.1.2, .int x])) b (q.1.1, q.1.2, x) := upd_same
          have hM8 := e8.k D _ hM nD (fun ps z => nomatch z)
          have hMp8 : ∀ z ∈ M, PlAt (upd H7 b (.tup [.int q.1.1, .int q.1.2, .int x])) z.1 z.2 := fun z hz => e8.pl g7 (hMp z hz)
          have e78 := e7.trans e8
          generalize upd H7 b (.tup [.int q.1.1, .int q.1.2, .int x]) = H8 at e78 hb8 hM8 hMp8 ⊢
          have hMl : M.length ≤ 2 := by
            have h1 := congrArg List.length hMs
            rw [List.length_map, List.length_map] at h1
            have h2 := (List.take_sublist j ns').length_le
            omega
          refine ⟨_, hM8, by rw [List.length_map]; exact small40 (by omega), e78.put (FrN.none hD) hM8 rfl nD, M ++ [(b, (q.1.1, q.1.2, x))], ?_, ?_, fun z hz => ?_⟩
          · rw [upd_same, List.map_append]
            rfl
          · rw [List.take_succ, hx, List.map_append, List.map_append, hMs]
            rfl
          · have : PlAt H8 z.1 z.2 := by
              rcases List.mem_append.mp hz with h | h
              · exact hMp8 z h
              · rw [List.mem_singleton.mp h]
                exact hb8
            unfold PlAt
            rw [upd_ne (ne_of this hM8 (by intro z; cases z))]
            exact this
        · rintro H7 ⟨e7, M, hM, hMs, hMp⟩
          rw [List.length_map, List.take_length] at hMs
          have g7 := e7.g g6
          have e47 := e46.trans e7
          have hfl7 := e47.li hfl
          have hMl : M.length = ns'.length := by
            have h1 := congrArg List.length hMs
            rw [List.length_map, List.length_map] at h1
            exact h1
          refine ⟨fl, D, _, _, rfl, rfl, hfl7.1, hM, ?_, fun p2 hp2 => ?_⟩
          · rw [List.length_map, List.length_map]
            exact Nat.le_of_lt (small40 (by omega))
          rw [← List.map_append]
          have e8 : EX T ex H7 (upd H7 p2 (.lst ((N ++ M).map fun q => V.ref q.1))) := EX.new hp2
          refine ⟨(e4.trans e47).trans e8, p2, _, _, N ++ M, rfl, LI.new g7 hp2, fun z hz => ?_, fun u => ?_, ?_⟩
          · rcases List.mem_append.mp hz with h | h
            · exact (e47.trans e8).pl g4 (hN z h)
            · exact e8.pl g7 (hMp z h)
          · rw [List.map_append, List.mem_append, hmem u, hMs, htk, List.map_append, List.mem_append]
            show _ ∨ _ ↔ ([u.1, u.2.1] ∈ _ ∨ [u.1, u.2.1] ∈ [z.2]) ∧ _
            rw [List.mem_singleton, hzq]
            have key : u ∈ ns'.map (fun x => ((q.1.1, q.1.2, x) : Pl)) ↔ [u.1, u.2.1] = [q.1.1, q.1.2] ∧ W.fl u := by
              constructor
              · intro h
                obtain ⟨x, hx, rfl⟩ := List.mem_map.mp h
                exact ⟨rfl, q.2.2, hcell, hns.mem_iff.mp hx⟩
              · rintro ⟨h1, ls, h2, h3⟩
                injection h1 with h4 h5
                injection h5 with h5 _
                have h2' : (q.1, ls) ∈ W.cells := by
                  rw [h4, h5] at h2
                  exact h2
                have e1 := lk_of_mem hW.nd h2'
                have e2 := lk_of_mem hW.nd hcell
                rw [e1] at e2
                have e3 : ls = q.2.2 := Option.some.inj e2
                exact List.mem_map.mpr ⟨u.2.2, hns.mem_iff.mpr (by rw [← e3]; exact h3), by rw [← h4, ← h5]⟩
            rw [key]
            constructor
            · rintro (⟨a, b⟩ | ⟨a, b⟩)
              · exact ⟨.inl a, b⟩
              · exact ⟨.inr a, b⟩
            · rintro ⟨a | a, b⟩
              · exact .inl ⟨a, b⟩
              · exact .inr ⟨a, b⟩
          · rw [List.length_append]
            omega
    · rintro σ H4 ⟨e4, fl, o2, o3, N, rfl, hfl, hN, hmem, hNl⟩
      rw [List.length_map] at hNl
      refine ⟨_, rfl, k fl (N.map (·.2)) H4 (e03.trans e4) ⟨N, rfl, hfl, hN⟩ ⟨fun u => ?_, by rw [List.length_map]; omega⟩⟩
      rw [hmem u, List.length_map, List.take_length]
      refine ⟨fun h => h.2, fun h => ⟨?_, h⟩⟩
      obtain ⟨ls, h1, h2⟩ := h
      have h3 : [u.1, u.2.1] ∈ L.map fun q => [q.1.1, q.1.2] := by
        rw [eL] at h1
        obtain ⟨q, hq, e⟩ := List.mem_map.mp h1
        exact List.mem_map.mpr ⟨q, hq, by
          have : q.1 = (u.1, u.2.1) := congrArg (·.1) e
          rw [this]⟩
      rw [← hTL] at h3
      obtain ⟨z, hz, e⟩ := List.mem_map.mp h3
      exact List.mem_map.mpr ⟨z, hperm.mem_iff.mpr hz, e⟩
end
end K76
namespace K76
open PySem PySem.Spec PyProof.Rows L2 LamX
def spLStep (C : Addr) (T : TbT) (ex : List Addr) : Sp := fun vs H Q _ => ∃ (wA oA tA : Addr) (W : Wd) (p q : Pl), vs = [.ref wA, .ref oA, .ref tA] ∧ Gd T ex H ∧ W.Ok ∧ WdAt C ex H wA W ∧ PlAt H oA p ∧ PlAt H tA q ∧ (W.adj p q → Q (.int (W.cost p q)) H) ∧ (¬ W.adj p q → Q .non H)
def spLSteps (C : Addr) (T : TbT) (ex : List Addr) : Sp := fun vs H Q _ => ∃ (wA pA : Addr) (W : Wd) (p : Pl), vs = [.ref wA, .ref pA] ∧ Gd T ex H ∧ W.Ok ∧ WdAt C ex H wA W ∧ PlAt H pA p ∧
  ∀ (l : Addr) (es : List (Pl × Int)) H', EX T ex H H' → StsAt ex H' l es → StepsOf W p es → Q (.ref l) H'
section
variable {P : Program} {w : World} {K : PySem.W.Frag} {mg : Str → Option Value} {base : Heap} {T : TbT} {ex : List Addr} {G C : Addr}
def nLStep : List Str := ["_law_world", "_law_one", "_law_other"]
theorem scLStep : FnScope nLStep nLStep (defScope sLStep) := ⟨rfl, rfl, rfl, by decide +kernel, rfl, by decide +kernel, by decide +kernel⟩
theorem ok_lstep {f : Addr} {fd : FuncData} (F : FnP K "_law_step" "_law_step" sLStep f fd) (X : STxt K mg C) (mA : mg "abs" = none) (DH : Df P w K mg base 1 "_law_half" ["_law_world", "_law_place"] (spLHalf C T ex)) : FnOk P w K mg base CX0 2 f fd nLStep (spLStep C T ex) := by
  refine fn_rule F scLStep (fun vs H Q E h => ?_) (fun cdv A outer s0 H vs Q E hr h => ?_)
  · obtain ⟨wA, oA, tA, W, p, q, rfl, _⟩ := h
    rfl
  · obtain ⟨wA, oA, tA, W, p, q, rfl, g, hW, hWd, hp, hq, kA, kN⟩ := h
    refine ⟨_, pss_cons (ps_if (PW.pt (pw_or (pt_cmpR (op_neD hr.units) (pe_op op_add (pe_callB call_abs (by rfl) mA (by decide +kernel) (pa_cons (pe_op op_sub (pe_ix ix_tup (pv 1) pe_int (fun _ _ => rfl)) (pe_ix ix_tup (pv 2) pe_int (fun _ _ => rfl))) pa_nil)) (pe_callB call_abs (by rfl) mA (by decide +kernel) (pa_cons (pe_op op_sub (pe_ix ix_tup (pv 1) pe_int (fun _ _ => rfl)) (pe_ix ix_tup (pv 2) pe_int (fun _ _ => rfl))) pa_nil))) pe_int (nomark _))
        (pw_or1 (pt_cmpR op_gt (pe_callB call_abs (by rfl) mA (by decide +kernel) (pa_cons (pe_op op_sub (pe_ix ix_tup (pv 1) pe_int (fun _ _ => rfl)) (pe_ix ix_tup (pv 2) pe_int (fun _ _ => rfl))) pa_nil)) (pe_fld (pe_ix ix_list (pv 0) pe_int (fun _ _ => rfl)) rfl) (nomark _))))) (pss_one (ps_ret pe_non)) pss_nil)
      (pss_one (ps_ret (pe_op op_add (pe_op op_add (pe_df DH hr rfl (pa_cons (pv 0) (pa_cons (pv 1) pa_nil))) (pe_df DH hr rfl (pa_cons (pv 0) (pa_cons (pv 2) pa_nil)))) (pe_op op_mul (pe_ix ix_list (pv 0) pe_int (fun _ _ => rfl)) (pe_callB call_abs (by rfl) mA (by decide +kernel) (pa_cons (pe_op op_sub (pe_ix ix_tup (pv 1) pe_int (fun _ _ => rfl)) (pe_ix ix_tup (pv 2) pe_int (fun _ _ => rfl))) pa_nil)))))), ?_⟩
    obtain ⟨stA, fA, aA, hWl, hS, hF, hA⟩ := id hWd
    obtain ⟨dx, fs, hSo, hRi, _, _⟩ := id hS.ob
    refine ⟨_, rfl, oA, _, _, _, rfl, rfl, SqT.of hp, at_of (j := 0) rfl rfl, _, rfl, tA, _, _, _, rfl, rfl, SqT.of hq, at_of (j := 0) rfl rfl, _, _, rfl, rfl, _, rfl, ?_⟩
    refine ⟨_, rfl, oA, _, _, _, rfl, rfl, SqT.of hp, at_of (j := 1) rfl rfl, _, rfl, tA, _, _, _, rfl, rfl, SqT.of hq, at_of (j := 1) rfl rfl, _, _, rfl, rfl, _, rfl, ?_⟩
    rw [abs_eq, abs_eq]
    refine ⟨_, _, rfl, rfl, _, _, .int _, .int _, int_shaped _, int_shaped _, _, rfl, ?_⟩
    rw [int_eqv]
    have hadj : W.adj p q ↔ (((p.1 - q.1).natAbs : Int) + ((p.2.1 - q.2.1).natAbs : Int) = 1 ∧ ((p.2.2 - q.2.2).natAbs : Int) ≤ W.rise) := by
      unfold Wd.adj
      omega
    refine iteB (fun hc => ?_) (fun hc => ?_)
    · refine kN fun h => ?_
      rw [decide_eq_true (hadj.mp h).1] at hc
      cases hc
    · have h1 : ((p.1 - q.1).natAbs : Int) + ((p.2.1 - q.2.1).natAbs : Int) = 1 := Classical.byContradiction fun z => by
        rw [decide_eq_false z] at hc
        cases hc
      refine ⟨_, rfl, oA, _, _, _, rfl, rfl, SqT.of hp, at_of (j := 2) rfl rfl, _, rfl, tA, _, _, _, rfl, rfl, SqT.of hq, at_of (j := 2) rfl rfl, _, _, rfl, rfl, _, rfl, ?_⟩
      rw [abs_eq]
      refine ⟨_, rfl, wA, _, _, _, rfl, rfl, hWl.sq, at_of (j := 0) rfl rfl, stA, C, dx, fs, _, rfl, hSo, X.cl, X.n2, hRi, _, _, rfl, rfl, _, rfl, ?_⟩
      refine ite2 (fun hc2 => ?_) (fun hc2 => ?_)
      · refine kN fun h => ?_
        have := (hadj.mp h).2
        have : W.rise < ((p.2.2 - q.2.2).natAbs : Int) := of_decide_eq_true hc2
        omega
      · have h2 : ((p.2.2 - q.2.2).natAbs : Int) ≤ W.rise := by
          have : ¬ W.rise < ((p.2.2 - q.2.2).natAbs : Int) := fun h => hc2 (decide_eq_true h)
          omega
        refine ⟨_, rfl, _, rfl, wA, oA, W, p, rfl, g, hW, hWd, hp, _, rfl, _, rfl, wA, tA, W, q, rfl, g, hW, hWd, hq, _, _, rfl, rfl, ?_⟩
        refine ⟨_, rfl, wA, _, _, _, rfl, rfl, hWl.sq, at_of (j := 3) rfl rfl, _, rfl, oA, _, _, _, rfl, rfl, SqT.of hp, at_of (j := 2) rfl rfl, _, rfl, tA, _, _, _, rfl, rfl, SqT.of hq, at_of (j := 2) rfl rfl, _, _, rfl, rfl, _, rfl, ?_⟩
        rw [abs_eq]
        refine ⟨_, _, rfl, rfl, .inl ⟨?_, ?_⟩, _, _, rfl, rfl, kA (hadj.mpr ⟨h1, h2⟩)⟩
        · have := hW.climb
          omega
        · have := hW.climb
          omega
def nLSteps : List Str := ["_law_world", "_law_place", "_law_found", "_law_other", "_law_paid"]
theorem scLSteps : FnScope nLSteps ["_law_world", "_law_place"] (defScope sLSteps) := ⟨rfl, rfl, rfl, by decide +kernel, rfl, by decide +kernel, by decide +kernel⟩
theorem ok_lsteps {f : Addr} {fd : FuncData} (F : FnP K "_law_steps" "_law_steps" sLSteps f fd) (DP : Df P w K mg base 2 "_law_places" ["_law_world"] (spLPlaces C T ex)) (DS : Df P w K mg base 2 "_law_step" nLStep (spLStep C T ex)) : FnOk P w K mg base CX0 3 f fd ["_law_world", "_law_place"] (spLSteps C T ex) := by
  refine fn_rule F scLSteps (fun vs H Q E h => ?_) (fun cdv A outer s0 H vs Q E hr h => ?_)
  · obtain ⟨wA, pA, W, p, rfl, _⟩ := h
    rfl
  · obtain ⟨wA, pA, W, p, rfl, g, hW, hWd, hp, k⟩ := h
    refine ⟨_, pss_cons (ps_set (i := 2) scLSteps.nd rfl (.inl rfl) (pe_lst pa_nil))
      (pss_cons (ps_for PassesOwn.never rfl (pi_list (pe_df DP hr rfl (pa_cons (pv 0) pa_nil))) (pg_name (i := 3) scLSteps.nd rfl (.inl rfl))
        (pss_cons (ps_set (i := 4) scLSteps.nd rfl (.inl rfl) (pe_df DS hr rfl (pa_cons (pv 0) (pa_cons (pv 1) (pa_cons (pv 3) pa_nil)))))
        (pss_one (ps_if (pt_cmp (pc_notN (pv 4))) (pss_one (ps_expr (pe_bm PySem.F.plainAttrs_list PySem.F.slot_list_append PySem.F.type_list_append mt_append (pv 2) (pa_cons (pe_tup (pa_cons (pv 3) (pa_cons (pv 4) pa_nil))) pa_nil)))) pss_nil))))
      (pss_one (ps_ret (pv 2)))), ?_⟩
    refine ⟨Nat.zero_le _, fun l hl => ?_⟩
    have nl := g.ne hl
    have e1 : EX T ex H (upd H l (.lst [])) := EX.new hl
    have hl1 : upd H l (.lst []) l = some (.lst (([] : List (Addr × Addr × Pl × Int)).map fun q => V.ref q.1)) := upd_same
    generalize upd H l (.lst []) = H1 at e1 hl1 ⊢
    have g1 := e1.g g
    refine ⟨_, rfl, wA, W, rfl, g1, hW, e1.wd g hWd, fun pl ps H2 e2 hps hall => ?_⟩
    obtain ⟨LP, eLP, hLP, hLPt⟩ := id hps
    have g2 := e2.g g1
    have e12 := e1.trans e2
    have hLPl : LP.length = ps.length := by rw [eLP, List.length_map]
    have hpl := hall.len
    refine ⟨pl, rfl, ⟨_, hLP.sq⟩, for_list (K := K) (a := pl) (xs := LP.map fun q => V.ref q.1) (fun i σ H' => EX T ex H H' ∧ LI ex H' pl (LP.map fun q => V.ref q.1) ∧ (∀ q ∈ LP, PlAt H' q.1 q.2) ∧ ∃ (o3 o4 : Option V) (M : List (Addr × Addr × Pl × Int)), σ = [some (.ref wA), some (.ref pA), some (.ref l), o3, o4] ∧ H' l = some (.lst (M.map fun q => V.ref q.1)) ∧
      (∀ q ∈ M, H' q.1 = some (.tup [.ref q.2.1, .int q.2.2.2]) ∧ PlAt H' q.2.1 q.2.2.1) ∧ M.length ≤ i ∧ ∀ q c, (q, c) ∈ M.map (·.2.2) ↔ q ∈ ps.take i ∧ W.adj p q ∧ c = W.cost p q)
      ⟨e12, hLP, hLPt, none, none, [], rfl, e2.k l _ hl1 nl (fun ps z => nomatch z), (fun q hq => nomatch hq), Nat.le_refl 0, fun q c => ⟨(fun h => nomatch h), (fun h => nomatch h.1)⟩⟩ (fun i σ H' _ h => h.2.1.sq) ?_ ?_⟩
    · rintro i y σ H3 hi ⟨e3, hP3, hPt3, o3, o4, M, rfl, hl3, hM, hMl, hmem⟩
      have hi40 := (List.getElem?_eq_some_iff.mp hi).1
      rw [List.length_map, hLPl] at hi40
      rw [List.getElem?_map] at hi
      cases ez : LP[i]? with
      | none => rw [ez] at hi; cases hi
      | some z =>
        rw [ez] at hi
        obtain rfl : V.ref z.1 = y := Option.some.inj hi
        have hz := hPt3 z (List.mem_of_getElem? ez)
        have hpi : ps[i]? = some z.2 := by rw [eLP, List.getElem?_map, ez]; rfl
        have htk : ps.take (i + 1) = ps.take i ++ [z.2] := by rw [List.take_succ, hpi]; rfl
        have g3 := e3.g g
        refine ⟨_, rfl, _, rfl, _, rfl, wA, pA, z.1, W, p, z.2, rfl, g3, hW, e3.wd g hWd, e3.pl g hp, hz, fun had => ?_, fun had => ?_⟩
        · refine ⟨_, rfl, _, rfl, iteNN (by intro z; cases z) ?_⟩
          refine ⟨_, rfl, .inl ⟨rfl, _, SqL.of hl3⟩, _, rfl, _, rfl, (by show 2 ≤ sizeLine; decide), fun t ht => ?_⟩
          have e4 : EX T ex H3 (upd H3 t (.tup [.ref z.1, .int (W.cost p z.2)])) := EX.new ht
          have ht4 : upd H3 t (.tup [.ref z.1, .int (W.cost p z.2)]) t = some (.tup [.ref z.1, .int (W.cost p z.2)]) := upd_same
          have hl4 := e4.k l _ hl3 nl (fun ps z => nomatch z)
          have hP4 := e4.li hP3
          have hPt4 : ∀ q ∈ LP, PlAt (upd H3 t (.tup [.ref z.1, .int (W.cost p z.2)])) q.1 q.2 := fun q hq => e4.pl g3 (hPt3 q hq)
          have hM4 : ∀ q ∈ M, upd H3 t (.tup [.ref z.1, .int (W.cost p z.2)]) q.1 = some (.tup [.ref q.2.1, .int q.2.2.2]) ∧ PlAt (upd H3 t (.tup [.ref z.1, .int (W.cost p z.2)])) q.2.1 q.2.2.1 := fun q hq => ⟨e4.tup g3 (hM q hq).1, e4.pl g3 (hM q hq).2⟩
          have e34 := e3.trans e4
          generalize upd H3 t (.tup [.ref z.1, .int (W.cost p z.2)]) = H4 at e34 ht4 hl4 hP4 hPt4 hM4 ⊢
          have nt : ∀ {a xs}, H4 a = some (.tup xs) → a ≠ l := fun h => ne_of h hl4 (by intro z; cases z)
          have npl : pl ≠ l := fun h => by
            have h1 := hP4.1
            have h2 := hLP.1
            rw [h] at h2
            have h3 := e2.k l _ hl1 nl (fun ps z => nomatch z)
            have h5 : LP = [] := by
              rw [h3] at h2
              have : ([] : List V) = LP.map fun q => V.ref q.1 := by
                injection h2 with h2
                injection h2
              exact List.map_eq_nil_iff.mp this.symm
            rw [h5] at ez
            cases ez
          refine ⟨l, _, _, rfl, rfl, hl4, by rw [List.length_map]; exact small40 (by omega), e34.put (FrN.none hl) hl4 rfl nl, ⟨by rw [upd_ne npl]; exact hP4.1, hP4.2⟩, fun q hq => ?_, _, _, M ++ [(t, z.1, z.2, W.cost p z.2)], rfl, ?_, fun q hq => ?_, ?_, fun q c => ?_⟩
          · unfold PlAt
            rw [upd_ne (nt (hPt4 q hq))]
            exact hPt4 q hq
          · rw [upd_same, List.map_append]
            rfl
          · have : H4 q.1 = some (.tup [.ref q.2.1, .int q.2.2.2]) ∧ PlAt H4 q.2.1 q.2.2.1 := by
              rcases List.mem_append.mp hq with h | h
              · exact hM4 q h
              · rw [List.mem_singleton.mp h]
                exact ⟨ht4, hPt4 z (List.mem_of_getElem? ez)⟩
            exact ⟨by rw [upd_ne (nt this.1)]; exact this.1, by unfold PlAt; rw [upd_ne (nt this.2)]; exact this.2⟩
          · rw [List.length_append, List.length_singleton]
            omega
          · rw [List.map_append, List.mem_append, hmem q c, htk, List.mem_append]
            show _ ∨ (q, c) ∈ [(z.2, W.cost p z.2)] ↔ _
            rw [List.mem_singleton, List.mem_singleton]
            constructor
            · rintro (⟨a, b⟩ | h)
              · exact ⟨.inl a, b⟩
              · cases h
                exact ⟨.inr rfl, had, rfl⟩
            · rintro ⟨a | a, b, c1⟩
              · exact .inl ⟨a, b, c1⟩
              · right
                rw [c1, a]
        · refine ⟨_, rfl, _, rfl, iteNS rfl ?_⟩
          refine ⟨e3, hP3, hPt3, _, _, M, rfl, hl3, hM, by omega, fun q c => ?_⟩
          rw [hmem q c, htk, List.mem_append, List.mem_singleton]
          constructor
          · rintro ⟨a, b⟩
            exact ⟨.inl a, b⟩
          · rintro ⟨a | a, b, c1⟩
            · exact ⟨a, b, c1⟩
            · rw [a] at b
              exact absurd b had
    · rintro σ H3 ⟨e3, hP3, hPt3, o3, o4, M, rfl, hl3, hM, hMl, hmem⟩
      rw [List.length_map] at hMl
      refine ⟨_, rfl, k l (M.map (·.2.2)) H3 e3 ⟨M, rfl, ⟨hl3, nl⟩, hM⟩ ⟨by rw [List.length_map]; omega, fun q c => ?_⟩⟩
      rw [hmem q c, List.length_map, hLPl, List.take_length, hall.mem q]
      rfl
end
end K76
namespace K76
open PySem PySem.Spec PyProof.Rows L2 LamX
def Best (W : Wd) (s : Pl) (best : List (Pl × Int)) : Prop := best.length ≤ 40 ∧ ∀ g, (∀ d, lk best g = some d → IsD W.E s g d) ∧ (lk best g = none → ∀ d, ¬ Wk W.E s g d)
def spLCosts (C : Addr) (T : TbT) (ex : List Addr) : Sp := fun vs H Q _ => ∃ (wA sA : Addr) (W : Wd) (s : Pl), vs = [.ref wA, .ref sA] ∧ Gd T ex H ∧ W.Ok ∧ WdAt C ex H wA W ∧ PlAt H sA s ∧ W.fl s ∧
  ∀ (bA : Addr) (best : List (Pl × Int)) (H' : Hp), EX T ex H H' → H' bA = some (.dT (dI best)) → Best W s best → Q (.ref bA) H'
/-- a step from p that cannot lower -/
def Low (best : List (Pl × Int)) (p q : Pl) (c : Int) : Prop := ∀ d, lk best p = some d → ∃ d', lk best q = some d' ∧ d' ≤ d + c
theorem Pl.n_inj {p q : Pl} (h : p.n = q.n) : p = q := by
  obtain ⟨a, b, c⟩ := p
  obtain ⟨a', b', c'⟩ := q
  unfold Pl.n at h
  simp only [List.cons.injEq, and_true] at h
  obtain ⟨h1, h2, h3⟩ := h
  rw [h1, h2, h3]
/-- the table while it is lowered (best: as the round began) -/
structure CInv (T : TbT) (ex : List Addr) (H : Hp) (W : Wd) (s : Pl) (bA : Addr) (best : List (Pl × Int)) (p : Addr) (L' : TL) (H' : Hp) (best' : List (Pl × Int)) (b : Bool) : Prop where
  e : EX T ex H H'
  at_ : H' bA = some (.dT (dI best'))
  ci : CI W.E W.pls 5000 s best'
  li : LI ex H' p (L'.map fun q => V.ref q.1)
  tup : ∀ z ∈ L', H' z.1 = some (.tup (z.2.map V.int))
  keep : ∀ r, lk best r ≠ none → lk best' r ≠ none
  dec : b = true → mu W.pls 5000 best' < mu W.pls 5000 best
  same : b = false → best' = best
theorem CInv.ext {T : TbT} {ex : List Addr} {H : Hp} {W : Wd} {s : Pl} {bA : Addr} {best : List (Pl × Int)} {p : Addr} {L' : TL} {H' H'' : Hp} {best' : List (Pl × Int)} {b : Bool} (h : CInv T ex H W s bA best p L' H' best' b) (g : Gd T ex H) (e : EX T ex H' H'') : CInv T ex H W s bA best p L' H'' best' b :=
  ⟨h.e.trans e, e.dT (h.e.g g) h.at_, h.ci, e.li h.li, fun z hz => e.tup (h.e.g g) (h.tup z hz), h.keep, h.dec, h.same⟩
theorem CInv.put {T : TbT} {ex : List Addr} {H : Hp} {W : Wd} {s : Pl} {bA : Addr} {best : List (Pl × Int)} {p : Addr} {L' : TL} {H' : Hp} {best' : List (Pl × Int)} {b : Bool} (h : CInv T ex H W s bA best p L' H' best' b) (xb : FrN H bA) (nb : bA ∉ ex) (hpos : ∀ p q c, W.E p q c → 0 < c ∧ c ≤ 5000) {r q : Pl} {d c : Int} (hd : lk best' r = some d) (hE : W.E r q c) (hq : q ∈ W.pls) (hl : ∀ d', lk best' q = some d' → d + c < d') :
    CInv T ex H W s bA best p L' (upd H' bA (.dT (dI (pt best' q (d + c))))) (pt best' q (d + c)) true := by
  obtain ⟨c1, c2⟩ := h.ci.lower (by decide) hd hE hq (hpos _ _ _ hE) hl
  refine ⟨h.e.put xb h.at_ rfl nb, upd_same, c1, ⟨putD h.at_ h.li.1 (fun z e => nomatch e), h.li.2⟩, fun z hz => putD h.at_ (h.tup z hz) (fun z e => nomatch e), fun r' hr' => ?_, fun _ => ?_, fun h => nomatch h⟩
  · rw [lk_pt]
    split
    · intro z
      cases z
    · exact h.keep r' hr'
  · cases b with
    | true => exact Nat.lt_trans c2 (h.dec rfl)
    | false =>
      have := h.same rfl
      rw [← this]
      exact c2
section
variable {P : Program} {w : World} {K : PySem.W.Frag} {mg : Str → Option Value} {base : Heap} {T : TbT} {ex : List Addr} {G C : Addr}
def nLCosts : List Str := ["_law_world", "_law_start", "_law_best", "_law_changed_here", "_law_place", "_law_other", "_law_paid"]
theorem scLCosts : FnScope nLCosts ["_law_world", "_law_start"] (defScope sLCosts) := ⟨rfl, rfl, rfl, by decide +kernel, rfl, by decide +kernel, by decide +kernel⟩
theorem LI.putD {H : Hp} {w b : Addr} {x y : List (List Key × V)} {xs : List V} (h : H w = some (.dT x)) (hb : LI ex H b xs) : LI ex (upd H w (.dT y)) b xs := ⟨K76.putD h hb.1 (fun z e => nomatch e), hb.2⟩
theorem ok_lcosts {f : Addr} {fd : FuncData} (F : FnP K "_law_costs" "_law_costs" sLCosts f fd) (mS : mg "sorted" = none) (DS : Df P w K mg base 3 "_law_steps" ["_law_world", "_law_place"] (spLSteps C T ex)) : FnOk P w K mg base CX0 4 f fd ["_law_world", "_law_start"] (spLCosts C T ex) := by
  refine fn_rule F scLCosts (fun vs H Q E h => ?_) (fun cdv A outer s0 H vs Q E hr h => ?_)
  · obtain ⟨wA, sA, W, s, rfl, _⟩ := h
    rfl
  · obtain ⟨wA, sA, W, s, rfl, g, hW, hWd, hs, hfl, k⟩ := h
    have hu := hu_of hr
    refine ⟨_, pss_cons (ps_set (i := 2) scLCosts.nd rfl (.inl rfl) (pe_disp1T hr.units0 (pv 1) pe_int))
      (pss_cons (ps_set (i := 3) scLCosts.nd rfl (.inl rfl) pe_bl)
      (pss_cons (ps_while PassesOwn.never (pt_val (pv 3))
        (pss_cons (ps_set (i := 3) scLCosts.nd rfl (.inl rfl) pe_bl)
        (pss_one (ps_for PassesOwn.never rfl (pi_list (pe_callB (cr_sortedDT (n := 2) rfl hr.units) (by rfl) mS (by decide +kernel) (pa_cons (pv 2) pa_nil))) (pg_name (i := 4) scLCosts.nd rfl (.inl rfl))
          (pss_one (ps_for PassesOwn.never rfl (pi_list (pe_df DS hr rfl (pa_cons (pv 0) (pa_cons (pv 4) pa_nil)))) (pg_tup (by rfl) (pgs_cons (pg_name (i := 5) scLCosts.nd rfl (.inl rfl)) (pgs_cons (pg_name (i := 6) scLCosts.nd rfl (.inl rfl)) pgs_nil)))
            (pss_one (ps_if (PW.pt (pw_or (pt_cmp (pc_dnotin hu (pv 5) (pv 2))) (pw_or1 (pt_cmpR op_lt (pe_op op_add (pe_dget hu (pv 2) (pv 4) (fun _ _ => rfl)) (pv 6)) (pe_dget hu (pv 2) (pv 5) (fun _ _ => rfl)) (nomark _)))))
              (pss_cons (ps_dput hu (pv 2) (pv 5) (pe_op op_add (pe_dget hu (pv 2) (pv 4) (fun _ _ => rfl)) (pv 6)) rfl) (pss_one (ps_set (i := 3) scLCosts.nd rfl (.inl rfl) pe_bl))) pss_nil))))))))
      (pss_one (ps_ret (pv 2))))), ?_⟩
    have hpos : ∀ p q c, W.E p q c → 0 < c ∧ c ≤ 5000 := fun p q c h => hW.cost_pos h
    have hV := hW.pls_len
    intro bA hbA
    have nb := g.ne hbA
    have xb : FrN H bA := FrN.none hbA
    have e1 : EX T ex H (upd H bA (.dT [])) := EX.new hbA
    have hb1 : upd H bA (.dT []) bA = some (.dT []) := upd_same
    generalize upd H bA (.dT []) = H1 at e1 hb1 ⊢
    refine ⟨_, rfl, s.k, sA, rfl, hb1, e1.pl g hs, ?_⟩
    have e2 := e1.put (o := .dT (dI [(s, 0)])) xb hb1 rfl nb
    have hb2 : upd H1 bA (.dT (dI [(s, 0)])) bA = some (.dT (dI [(s, 0)])) := upd_same
    change EX T ex H (upd H1 bA (.dT [(s.k, .int 0)])) at e2
    change upd H1 bA (.dT [(s.k, .int 0)]) bA = _ at hb2
    generalize upd H1 bA (.dT [(s.k, .int 0)]) = H2 at e2 hb2 ⊢
    refine ⟨fun m σ H' => ∃ (best : List (Pl × Int)) (b : Bool) (o4 o5 o6 : Option V), σ = [some (.ref wA), some (.ref sA), some (.ref bA), some (.bl b), o4, o5, o6] ∧ m = mu W.pls 5000 best + (if b = true then 1 else 0) ∧ EX T ex H H' ∧ H' bA = some (.dT (dI best)) ∧ CI W.E W.pls 5000 s best ∧
      (b = false → ∀ p q c, W.E p q c → Low best p q c), ⟨_, [(s, 0)], true, none, none, none, rfl, rfl, e2, hb2, CI.start (Wd.mem_pls.mpr hfl), fun h => nomatch h⟩, ?_⟩
    rintro m σ H3 ⟨best, b, o4, o5, o6, rfl, rfl, e3, hb3, ci, hcl⟩
    refine ⟨_, rfl, b, rfl, ?_⟩
    have g3 := e3.g g
    cases b with
    | false =>
      refine ⟨_, rfl, k bA best H3 e3 hb3 ⟨by have := ci.len; omega, fun g => ci.dist (fun p d hp q c hE => hcl rfl p q c hE d hp) g⟩⟩
    | true =>
      refine ⟨_, fun σ' H' h => h, ?_⟩
      refine ⟨_, rfl, bA, _, best.map (fun q => q.1.n), rfl, .inl hb3, dI_keys best, fun m hm => ?_, fun p L' hp hperm hL' => ?_⟩
      · obtain ⟨q, _, rfl⟩ := List.mem_map.mp hm
        rfl
      have e4 : EX T ex H3 (upd H3 p (.lst (L'.map fun q => V.ref q.1))) := EX.new hp
      have hp4 : LI ex (upd H3 p (.lst (L'.map fun q => V.ref q.1))) p (L'.map fun q => V.ref q.1) := LI.new g3 hp
      have hL4 : ∀ z ∈ L', upd H3 p (.lst (L'.map fun q => V.ref q.1)) z.1 = some (.tup (z.2.map V.int)) := fun z hz => e4.tup g3 (hL' z hz)
      have hb4 := e4.dT g3 hb3
      have e04 := e3.trans e4
      generalize upd H3 p (.lst (L'.map fun q => V.ref q.1)) = H4 at e04 hp4 hL4 hb4 ⊢
      have hkey : ∀ z ∈ L', ∃ r : Pl, z.2 = r.n ∧ lk best r ≠ none := fun z hz => by
        have h1 : z.2 ∈ best.map (fun q => q.1.n) := hperm.mem_iff.mp (List.mem_map.mpr ⟨z, hz, rfl⟩)
        obtain ⟨q, hq, e⟩ := List.mem_map.mp h1
        exact ⟨q.1, e.symm, lk_keys_iff.mp (List.mem_map.mpr ⟨q, hq, rfl⟩)⟩
      refine ⟨p, rfl, ⟨_, hp4.sq⟩, for_list (K := K) (a := p) (xs := L'.map fun q => V.ref q.1) (fun i σ H' => ∃ (best' : List (Pl × Int)) (b : Bool) (o4 o5 o6 : Option V), σ = [some (.ref wA), some (.ref sA), some (.ref bA), some (.bl b), o4, o5, o6] ∧ CInv T ex H W s bA best p L' H' best' b ∧
        (b = false → ∀ z ∈ L'.take i, ∀ r : Pl, z.2 = r.n → ∀ q c, W.E r q c → Low best r q c)) ⟨best, false, _, _, _, rfl, ⟨e04, hb4, ci, hp4, hL4, fun r h => h, (fun h => nomatch h), fun _ => rfl⟩, fun _ z hz => nomatch hz⟩ (fun i σ H' _ h => by
          obtain ⟨_, _, _, _, _, _, h, _⟩ := h
          exact h.li.sq) ?_ ?_⟩
      · rintro i y σ H5 hi ⟨best', b, o4, o5, o6, rfl, hC, hdone⟩
        rw [List.getElem?_map] at hi
        cases ez : L'[i]? with
        | none => rw [ez] at hi; cases hi
        | some z =>
          rw [ez] at hi
          obtain rfl : V.ref z.1 = y := Option.some.inj hi
          have hzm := List.mem_of_getElem? ez
          obtain ⟨r, hzr, hrb⟩ := hkey z hzm
          have htk : L'.take (i + 1) = L'.take i ++ [z] := by rw [List.take_succ, ez]; rfl
          have g5 := hC.e.g g
          have hz5 : PlAt H5 z.1 r := by
            have := hC.tup z hzm
            rw [hzr] at this
            exact this
          refine ⟨_, rfl, _, rfl, wA, z.1, W, r, rfl, g5, hW, hC.e.wd g hWd, hz5, fun l es H6 e6 hst hes => ?_⟩
          have hC6 := hC.ext g e6
          have hz6 := e6.pl g5 hz5
          refine ⟨l, rfl, ⟨_, hst.choose_spec.2.1.sq⟩, for_list (K := K) (a := l) (xs := hst.choose.map fun q => V.ref q.1) (fun j σ H' => ∃ (best' : List (Pl × Int)) (b : Bool) (o5 o6 : Option V), σ = [some (.ref wA), some (.ref sA), some (.ref bA), some (.bl b), some (.ref z.1), o5, o6] ∧ CInv T ex H W s bA best p L' H' best' b ∧ PlAt H' z.1 r ∧
            LI ex H' l (hst.choose.map fun q => V.ref q.1) ∧ (∀ q ∈ hst.choose, H' q.1 = some (.tup [.ref q.2.1, .int q.2.2.2]) ∧ PlAt H' q.2.1 q.2.2.1) ∧ (b = false → (∀ z ∈ L'.take i, ∀ r : Pl, z.2 = r.n → ∀ q c, W.E r q c → Low best r q c) ∧ ∀ x ∈ es.take j, Low best r x.1 x.2))
            ⟨best', b, _, _, rfl, hC6, hz6, hst.choose_spec.2.1, hst.choose_spec.2.2, fun h => ⟨hdone h, fun x hx => nomatch hx⟩⟩ (fun j σ H' _ h => by
              obtain ⟨_, _, _, _, _, _, _, h, _⟩ := h
              exact h.sq) ?_ ?_⟩
          · rintro j y σ H7 hj ⟨best7, b7, o5', o6', rfl, hC7, hz7, hl7, hL7, hd7⟩
            rw [List.getElem?_map] at hj
            cases eu : hst.choose[j]? with
            | none => rw [eu] at hj; cases hj
            | some u =>
              rw [eu] at hj
              obtain rfl : V.ref u.1 = y := Option.some.inj hj
              have hu7 := hL7 u (List.mem_of_getElem? eu)
              have hej : es[j]? = some u.2.2 := by rw [hst.choose_spec.1, List.getElem?_map, eu]; rfl
              have hjk : es.take (j + 1) = es.take j ++ [u.2.2] := by rw [List.take_succ, hej]; rfl
              have hE : W.E r u.2.2.1 u.2.2.2 := (hes.2 _ _).mp (List.mem_of_getElem? hej)
              have hqV : u.2.2.1 ∈ W.pls := Wd.mem_pls.mpr hE.1
              obtain ⟨d, hd⟩ : ∃ d, lk best7 r = some d := by
                cases e : lk best7 r with
                | none => exact absurd e (hC7.keep r hrb)
                | some d => exact ⟨d, rfl⟩
              have hgr : DGet H7 bA (.ref z.1) (some (.int d)) := by
                have : valV (dI best7) r.k = some (.int d) := by rw [valV_dI, hd]; rfl
                rw [← this]
                exact DGet.t hC7.at_ hz7
              have hlen7 := hC7.ci.len
              have put : (∀ d', lk best7 u.2.2.1 = some d' → d + u.2.2.2 < d') → ∃ H8, DPut H7 bA (.ref u.2.1) (.int (d + u.2.2.2)) H8 ∧ CInv T ex H W s bA best p L' H8 (pt best7 u.2.2.1 (d + u.2.2.2)) true ∧ PlAt H8 z.1 r ∧ LI ex H8 l (hst.choose.map fun q => V.ref q.1) ∧ (∀ q ∈ hst.choose, H8 q.1 = some (.tup [.ref q.2.1, .int q.2.2.2]) ∧ PlAt H8 q.2.1 q.2.2.1) := fun hlow =>
                ⟨_, DPut.t (k := u.2.2.1.k) hC7.at_ hu7.2 (by rw [dI_len]; exact small40 (by omega)), by rw [dI_put]; exact hC7.put xb nb hpos hd hE hqV hlow, hz7.putD hC7.at_, LI.putD hC7.at_ hl7, fun q hq => ⟨putD hC7.at_ (hL7 q hq).1 (fun z e => nomatch e), (hL7 q hq).2.putD hC7.at_⟩⟩
              refine ⟨u.1, _, rfl, SqT.of hu7.1, rfl, _, _, rfl, _, _, rfl, rfl, ?_⟩
              refine ⟨_, rfl, _, rfl, bA, _, rfl, DGet.t (k := u.2.2.1.k) hC7.at_ hu7.2, _, rfl, ?_⟩
              rw [valV_dI, Option.isSome_map]
              refine iteB (fun hc => ?_) (fun hc => ?_)
              · have hno : lk best7 u.2.2.1 = none := by
                  cases e : lk best7 u.2.2.1 with
                  | none => rfl
                  | some x => rw [e] at hc; cases hc
                obtain ⟨H8, p1, p2, p3, p4, p5⟩ := put (fun d' h => by rw [hno] at h; cases h)
                exact ⟨_, rfl, _, rfl, bA, _, rfl, hgr, _, rfl, _, _, rfl, rfl, _, rfl, _, rfl, bA, H8, rfl, p1, _, true, _, _, rfl, p2, p3, p4, p5, fun h => nomatch h⟩
              · obtain ⟨d2, hd2⟩ : ∃ d2, lk best7 u.2.2.1 = some d2 := by
                  cases e : lk best7 u.2.2.1 with
                  | none => rw [e] at hc; cases hc
                  | some d => exact ⟨d, rfl⟩
                have hgq : DGet H7 bA (.ref u.2.1) (some (.int d2)) := by
                  have : valV (dI best7) u.2.2.1.k = some (.int d2) := by rw [valV_dI, hd2]; rfl
                  rw [← this]
                  exact DGet.t hC7.at_ hu7.2
                refine ⟨_, rfl, _, rfl, bA, _, rfl, hgr, _, rfl, _, _, rfl, rfl, _, rfl, _, rfl, bA, _, rfl, hgq, _, _, rfl, rfl, _, rfl, ?_⟩
                refine ite2 (fun hlt => ?_) (fun hlt => ?_)
                · obtain ⟨H8, p1, p2, p3, p4, p5⟩ := put (fun d' h => by
                    rw [hd2] at h
                    cases h
                    exact of_decide_eq_true hlt)
                  exact ⟨_, rfl, _, rfl, bA, _, rfl, hgr, _, rfl, _, _, rfl, rfl, _, rfl, _, rfl, bA, H8, rfl, p1, _, true, _, _, rfl, p2, p3, p4, p5, fun h => nomatch h⟩
                · have hlt : ¬ d + u.2.2.2 < d2 := fun h => hlt (decide_eq_true h)
                  refine ⟨best7, b7, _, _, rfl, hC7, hz7, hl7, hL7, fun h => ⟨(hd7 h).1, fun x hx => ?_⟩⟩
                  rw [hjk] at hx
                  rcases List.mem_append.mp hx with h' | h'
                  · exact (hd7 h).2 x h'
                  · rw [List.mem_singleton.mp h']
                    have hsame := hC7.same h
                    rw [hsame] at hd hd2
                    intro d' hd'
                    rw [hd] at hd'
                    cases hd'
                    exact ⟨d2, hd2, by omega⟩
          · rintro σ H7 ⟨best7, b7, o5', o6', rfl, hC7, hz7, hl7, hL7, hd7⟩
            refine ⟨best7, b7, _, _, _, rfl, hC7, fun h z' hz' r' hr' q c hE => ?_⟩
            obtain ⟨h1, h2⟩ := hd7 h
            rw [htk] at hz'
            rcases List.mem_append.mp hz' with h' | h'
            · exact h1 z' h' r' hr' q c hE
            · rw [List.mem_singleton.mp h', hzr] at hr'
              have : r' = r := Pl.n_inj hr'.symm
              rw [this] at hE ⊢
              refine h2 (q, c) ?_
              have hle : (hst.choose.map fun q => V.ref q.1).length = es.length := by
                have := congrArg List.length hst.choose_spec.1
                rw [List.length_map] at this ⊢
                exact this.symm
              rw [hle, List.take_length]
              exact (hes.2 q c).mpr hE
      · rintro σ H5 ⟨best', b, o4, o5, o6, rfl, hC, hdone⟩
        rw [List.length_map, List.take_length] at hdone
        cases b with
        | true =>
          have := hC.dec rfl
          exact ⟨_, Nat.add_lt_add_right this 1, best', true, _, _, _, rfl, rfl, hC.e, hC.at_, hC.ci, fun h => nomatch h⟩
        | false =>
          have hs := hC.same rfl
          subst hs
          refine ⟨_, Nat.lt_succ_self _, best', false, _, _, _, rfl, rfl, hC.e, hC.at_, hC.ci, fun _ p' q c hE d hd => ?_⟩
          have h1 : p'.n ∈ best'.map (fun q => q.1.n) := List.mem_map.mpr ⟨(p', d), lk_mem hd, rfl⟩
          obtain ⟨z, hz, e⟩ := List.mem_map.mp (hperm.mem_iff.mpr h1)
          exact hdone rfl z hz p' e q c hE d hd
end
end K76
namespace K76
open PySem PySem.Spec PyProof.Rows L2 LamX
/-! ### lists of floors as data -/
theorem pls_lay : ∀ ps : List Pl, PyData.canLayAll0 (ps.map plD) = true
  | [] => by simp [PyData.canLayAll0]
  | p :: r => by
    rw [List.map_cons]
    have h : (plD p).canLay0 = true := by simp [plD, PyData.canLay0, PyData.canLayAll0]
    simp only [PyData.canLayAll0, h, pls_lay r, Bool.and_self]
theorem pls_depth : ∀ ps : List Pl, PyData.depthAll (ps.map plD) ≤ 1
  | [] => by simp [PyData.depthAll]
  | p :: r => by
    rw [List.map_cons]
    have h : (plD p).depth = 1 := by simp [plD, PyData.depth, PyData.depthAll]
    have := pls_depth r
    simp only [PyData.depthAll, h]
    omega
theorem pls_shaped (ps : List Pl) : SeqAt.shaped (.list (ps.map plD)) = true := by
  show ((PyData.list (ps.map plD)).canLay0 && decide ((PyData.list (ps.map plD)).depth ≤ 64)) = true
  have h1 : (PyData.list (ps.map plD)).canLay0 = true := by
    simp only [PyData.canLay0, pls_lay, Bool.and_true]
  have h2 : (PyData.list (ps.map plD)).depth ≤ 64 := by
    have := pls_depth ps
    simp only [PyData.depth]
    omega
  rw [h1, decide_eq_true h2]
  rfl
theorem pls_dpAll {K : PySem.W.Frag} {H : Hp} : ∀ L : List (Addr × Pl), (∀ q ∈ L, PlAt H q.1 q.2) → DpAll K H (L.map fun q => V.ref q.1) ((L.map (·.2)).map plD)
  | [], _ => .nil
  | q :: r, h => .cons (h q List.mem_cons_self).dp (pls_dpAll r fun z hz => h z (List.mem_cons_of_mem _ hz))
theorem PlsAt.dp {K : PySem.W.Frag} {ex : List Addr} {H : Hp} {a : Addr} {ps : List Pl} (h : PlsAt ex H a ps) : Dp K H (.ref a) (.list (ps.map plD)) := by
  obtain ⟨L, rfl, h2, h3⟩ := h
  exact .lst h2.sq (pls_dpAll L h3)
theorem pls_any (p : Pl) : ∀ ps : List Pl, ((ps.map plD).any fun z => PyData.eqv z (plD p)) = decide (p ∈ ps)
  | [] => rfl
  | q :: r => by
    rw [List.map_cons, List.any_cons, pls_any p r, plD_eqv]
    by_cases h : q = p
    · subst h
      simp
    · have : ¬ p = q := fun z => h z.symm
      simp [h, this]
/-- what the law's own count of a way tells -/
def spLWayCost (C : Addr) (T : TbT) (ex : List Addr) : Sp := fun vs H Q _ => ∃ (wA yA lA : Addr) (W : Wd) (way ps : List Pl), vs = [.ref wA, .ref yA, .ref lA] ∧ Gd T ex H ∧ W.Ok ∧ WdAt C ex H wA W ∧ PlsAt ex H yA way ∧ way.length ≤ 100 ∧ PlsAt ex H lA ps ∧ AllPls W ps ∧
  (∀ paid, wcost W.J W.fl way paid → Q (.int paid) H) ∧ ((∀ paid, ¬ wcost W.J W.fl way paid) → Q .non H)
section
variable {P : Program} {w : World} {K : PySem.W.Frag} {mg : Str → Option Value} {base : Heap} {T : TbT} {ex : List Addr} {G C : Addr}
def nLWayCost : List Str := ["_law_world", "_law_way", "_law_places_here", "_law_total", "_law_at", "_law_paid"]
theorem scLWayCost : FnScope nLWayCost ["_law_world", "_law_way", "_law_places_here"] (defScope sLWayCost) := ⟨rfl, rfl, rfl, by decide +kernel, rfl, by decide +kernel, by decide +kernel⟩
theorem ok_lway_cost {f : Addr} {fd : FuncData} (F : FnP K "_law_way_cost" "_law_way_cost" sLWayCost f fd) (mR : mg "range" = none) (mL : mg "len" = none) (DS : Df P w K mg base 2 "_law_step" nLStep (spLStep C T ex)) :
    FnOk P w K mg base CX0 3 f fd ["_law_world", "_law_way", "_law_places_here"] (spLWayCost C T ex) := by
  refine fn_rule F scLWayCost (fun vs H Q E h => ?_) (fun cdv A outer s0 H vs Q E hr h => ?_)
  · obtain ⟨wA, yA, lA, W, way, ps, rfl, _⟩ := h
    rfl
  · obtain ⟨wA, yA, lA, W, way, ps, rfl, g, hW, hWd, hway, hlen, hps, hall, kS, kN⟩ := h
    have hu5 : (A.deeper (envOfC "_law_way_cost" (defScope sLWayCost) s0.heap.objs.size f cdv)).units + 65 < cLine := by
      have := hr.un
      omega
    refine ⟨_, pss_cons (ps_set (i := 3) scLWayCost.nd rfl (.inl rfl) pe_int)
      (pss_cons (ps_for PassesOwn.never rfl (pi_range1 rfl mR (pa_cons (pe_callB call_len (by rfl) mL (by decide +kernel) (pa_cons (pv 1) pa_nil)) pa_nil)) (pg_name (i := 4) scLWayCost.nd rfl (.inl rfl))
        (pss_cons (ps_if (pt_cmpR (op_notInD hu5) (pe_ix ix_list (pv 1) (pv 4) (fun _ _ => rfl)) (pv 2) (by with_unfolding_all rfl)) (pss_one (ps_ret pe_non)) pss_nil)
        (pss_one (ps_if (pt_cmpR op_gt (pv 4) pe_int (nomark _))
          (pss_cons (ps_set (i := 5) scLWayCost.nd rfl (.inl rfl) (pe_df DS hr rfl (pa_cons (pv 0) (pa_cons (pe_ix ix_list (pv 1) (pe_op op_sub (pv 4) pe_int) (fun _ _ => rfl)) (pa_cons (pe_ix ix_list (pv 1) (pv 4) (fun _ _ => rfl)) pa_nil)))))
          (pss_cons (ps_if (pt_cmp (pc_isN (pv 5))) (pss_one (ps_ret pe_non)) pss_nil)
          (pss_one (ps_set (i := 3) scLWayCost.nd rfl (.inl rfl) (pe_op op_add (pv 3) (pv 5)))))) pss_nil))))
      (pss_cons (ps_if (pt_cmpR (op_eqD hr.units) (pe_callB call_len (by rfl) mL (by decide +kernel) (pa_cons (pv 1) pa_nil)) pe_int (nomark _)) (pss_one (ps_ret pe_non)) pss_nil)
      (pss_one (ps_ret (pv 3))))), ?_⟩
    obtain ⟨L, eL, hL, hLt⟩ := id hway
    have hLlen : L.length = way.length := by rw [eL, List.length_map]
    refine ⟨_, rfl, _, (L.map fun q => V.ref q.1).length, rfl, .inl ⟨_, hL.sq, rfl⟩, _, rfl, ?_, ?_, ?_⟩
    · omega
    · rw [List.length_map]
      omega
    refine for_range (fun i σ H' => H' = H ∧ ∃ (t : Int) (o4 o5 : Option V), σ = [some (.ref wA), some (.ref yA), some (.ref lA), some (.int t), o4, o5] ∧ (∀ x ∈ way.take i, W.fl x) ∧ ∀ p r, way = p :: r → wl W.J p (r.take (i - 1)) = some t) ⟨rfl, 0, none, none, rfl, (fun x hx => nomatch hx), fun p r _ => rfl⟩ ?_ ?_
    · rintro i σ H' hi ⟨rfl, t, o4, o5, rfl, hfl, ht⟩
      rw [List.length_map, hLlen] at hi
      have hi : i < way.length := by omega
      obtain ⟨z, hz⟩ : ∃ z, L[i]? = some z := ⟨_, List.getElem?_eq_getElem (by omega)⟩
      have hzw : way[i]? = some z.2 := by rw [eL, List.getElem?_map, hz]; rfl
      have hzp := hLt z (List.mem_of_getElem? hz)
      have htk : way.take (i + 1) = way.take i ++ [z.2] := by rw [List.take_succ, hzw]; rfl
      have hat : atI (L.map fun q => V.ref q.1) (0 + (i : Int)) = some (.ref z.1) := at_of (j := i) (by omega) (by rw [List.getElem?_map, hz]; rfl)
      refine ⟨_, rfl, _, rfl, yA, _, _, _, rfl, rfl, hL.sq, hat, _, rfl, _, _, hzp.dp, hps.dp, plD_shaped _, pls_shaped _, _, rfl, ?_⟩
      rw [pls_any]
      refine iteB (fun hc => ?_) (fun hc => ?_)
      · refine kN fun paid h => ?_
        have h1 : W.fl z.2 := h.1 z.2 (List.mem_of_getElem? hzw)
        rw [decide_eq_true ((hall.mem z.2).mpr h1)] at hc
        cases hc
      · have hflz : W.fl z.2 := (hall.mem z.2).mp (Classical.byContradiction fun n => by
          rw [decide_eq_false n] at hc
          cases hc)
        have hfl' : ∀ x ∈ way.take (i + 1), W.fl x := fun x hx => by
          rw [htk] at hx
          rcases List.mem_append.mp hx with h | h
          · exact hfl x h
          · rw [List.mem_singleton.mp h]
            exact hflz
        refine ⟨_, rfl, _, _, rfl, rfl, _, rfl, ?_⟩
        refine ite2 (fun hc2 => ?_) (fun hc2 => ?_)
        · have hi0 : 0 < i := by
            have : (0 : Int) < 0 + (i : Int) := of_decide_eq_true hc2
            omega
          obtain ⟨u, hu⟩ : ∃ z, L[i - 1]? = some z := ⟨_, List.getElem?_eq_getElem (by omega)⟩
          have huw : way[i - 1]? = some u.2 := by rw [eL, List.getElem?_map, hu]; rfl
          have hup := hLt u (List.mem_of_getElem? hu)
          have hat1 : atI (L.map fun q => V.ref q.1) (0 + (i : Int) - 1) = some (.ref u.1) := at_of (j := i - 1) (by omega) (by rw [List.getElem?_map, hu]; rfl)
          obtain ⟨p, r, hpr⟩ : ∃ p r, way = p :: r := by
            cases way with
            | nil => simp at hi
            | cons a b => exact ⟨a, b, rfl⟩
          have hr1 : r[i - 1]? = some z.2 := by
            have h1 : (p :: r)[i - 1 + 1]? = some z.2 := by
              rw [← hpr, Nat.sub_add_cancel hi0]
              exact hzw
            rw [List.getElem?_cons_succ] at h1
            exact h1
          obtain ⟨w1, w2⟩ := wl_take (ht p r hpr) (by rw [← hpr]; exact huw) hr1
          rw [Nat.sub_add_cancel hi0] at w1
          refine ⟨_, rfl, _, rfl, _, rfl, _, _, rfl, rfl, yA, _, _, _, rfl, rfl, hL.sq, hat1, _, rfl, _, rfl, yA, _, _, _, rfl, rfl, hL.sq, hat, wA, u.1, z.1, W, u.2, z.2, rfl, g, hW, hWd, hup, hzp, fun had => ?_, fun had => ?_⟩
          · refine ⟨_, rfl, _, rfl, ite2 (fun h => absurd (of_decide_eq_true h) (by intro z; cases z)) (fun _ => ?_)⟩
            refine ⟨_, rfl, _, rfl, _, _, rfl, rfl, rfl, _, _, _, rfl, hfl', fun p' r' e => ?_⟩
            rw [hpr] at e
            cases e
            exact w1 _ ((Wd.JE _ _ _).mpr ⟨hflz, had, rfl⟩)
          · refine ⟨_, rfl, _, rfl, ite2 (fun _ => ?_) (fun h => absurd (decide_eq_true rfl) h)⟩
            refine kN fun paid h => ?_
            obtain ⟨_, p', r', h1, h2⟩ := h
            rw [hpr] at h1
            cases h1
            have hJn : W.J u.2 z.2 = none := by
              cases e : W.J u.2 z.2 with
              | none => rfl
              | some c => exact absurd ((Wd.JE _ _ _).mp e).2.1 had
            rw [w2 hJn] at h2
            cases h2
        · have hi0 : i = 0 := by
            have : ¬ (0 : Int) < 0 + (i : Int) := fun h => hc2 (decide_eq_true h)
            omega
          subst hi0
          exact ⟨rfl, _, _, _, rfl, hfl', ht⟩
    · rintro σ H' ⟨rfl, t, o4, o5, rfl, hfl, ht⟩
      have hn : (((L.map fun q => V.ref q.1).length : Nat) : Int).toNat = way.length := by
        rw [List.length_map, hLlen]
        omega
      rw [hn] at hfl ht
      rw [List.take_length] at hfl
      refine ⟨_, rfl, _, (L.map fun q => V.ref q.1).length, rfl, .inl ⟨_, hL.sq, rfl⟩, _, _, .int _, .int _, int_shaped _, int_shaped _, _, rfl, ?_⟩
      rw [int_eqv]
      cases way with
      | nil =>
        refine ite2 (fun _ => kN fun paid h => ?_) (fun h => absurd (decide_eq_true (by rw [List.length_map, hLlen]; rfl)) h)
        obtain ⟨_, p, r, h1, _⟩ := h
        cases h1
      | cons p r =>
        refine ite2 (fun h => absurd (of_decide_eq_true h) (by rw [List.length_map, hLlen, List.length_cons]; omega)) (fun _ => ?_)
        refine ⟨_, rfl, kS t ⟨hfl, p, r, rfl, ?_⟩⟩
        have := ht p r rfl
        rw [List.length_cons, Nat.add_sub_cancel, List.take_length] at this
        exact this
end
end K76
namespace K76
open PySem PySem.Spec PyProof.Rows L2 LamX
theorem cut {X A : Prop} (x : X) (h : X → A) : A := h x
def spLTaken (C : Addr) (T : TbT) (ex : List Addr) : Sp := fun vs H Q _ => ∃ (wA sA eA pA lA : Addr) (W : Wd) (s e : Pl) (paid : Int) (way ps : List Pl) (marks : List (Pl × Int)), vs = [.ref wA, .ref sA, .ref eA, .ref pA, .ref lA] ∧ Gd T ex H ∧ W.Ok ∧ WdAt C ex H wA W ∧ PlAt H sA s ∧ PlAt H eA e ∧ PaperAt ex H pA paid way marks ∧ way.length ≤ 100 ∧ marks.length ≤ 100 ∧ PlsAt ex H lA ps ∧ AllPls W ps ∧
  ∀ (b : Bool) H', EX T ex H H' → (b = true ↔ Taken W.J W.fl s e paid way marks) → Q (.bl b) H'
section
variable {P : Program} {w : World} {K : PySem.W.Frag} {mg : Str → Option Value} {base : Heap} {T : TbT} {ex : List Addr} {G C : Addr}
def nLTaken : List Str := ["_law_world", "_law_start", "_law_goal", "_law_paper", "_law_places_here", "_law_name", "_law_paid", "_law_way", "_law_marks", "_law_known", "_law_i", "_law_k", "_law_level", "_law_number", "_law_place", "_law_other", "_law_more", "_law_value"]
theorem scLTaken : FnScope nLTaken ["_law_world", "_law_start", "_law_goal", "_law_paper", "_law_places_here"] (defScope sLTaken) := ⟨rfl, rfl, rfl, by decide +kernel, rfl, by decide +kernel, by decide +kernel⟩
theorem ok_ltaken {f : Addr} {fd : FuncData} (F : FnP K "_law_taken" "_law_taken" sLTaken f fd) (mS : mg "sorted" = none) (DW : Df P w K mg base 3 "_law_way_cost" ["_law_world", "_law_way", "_law_places_here"] (spLWayCost C T ex)) (DS : Df P w K mg base 3 "_law_steps" ["_law_world", "_law_place"] (spLSteps C T ex)) :
    FnOk P w K mg base CX0 4 f fd ["_law_world", "_law_start", "_law_goal", "_law_paper", "_law_places_here"] (spLTaken C T ex) := by
  refine fn_rule F scLTaken (fun vs H Q E h => ?_) (fun cdv A outer s0 H vs Q E hr h => ?_)
  · obtain ⟨wA, sA, eA, pA, lA, W, s, e, paid, way, ps, marks, rfl, _⟩ := h
    rfl
  · obtain ⟨wA, sA, eA, pA, lA, W, s, e, paid, way, ps, marks, rfl, g, hW, hWd, hs, he, hP, hwl, hml, hps, hall, k⟩ := h
    have hu := hu_of hr
    have hu5 : (A.deeper (envOfC "_law_taken" (defScope sLTaken) s0.heap.objs.size f cdv)).units + 65 < cLine := by
      have := hr.un
      omega
    refine ⟨_, pss_cons (ps_asg (pv 3) (pg_tup (by rfl) (pgs_cons (pg_name (i := 5) scLTaken.nd rfl (.inl rfl)) (pgs_cons (pg_name (i := 6) scLTaken.nd rfl (.inl rfl)) (pgs_cons (pg_name (i := 7) scLTaken.nd rfl (.inl rfl)) (pgs_cons (pg_name (i := 8) scLTaken.nd rfl (.inl rfl)) pgs_nil))))))
      (pss_cons (ps_if (PW.pt (pw_or (pt_cmpR (op_neD hr.units) (pe_df DW hr rfl (pa_cons (pv 0) (pa_cons (pv 7) (pa_cons (pv 4) pa_nil)))) (pv 6) (nomark _)) (pw_or (pt_cmpR (op_neD hr.units) (pe_ix ix_list (pv 7) pe_int (fun _ _ => rfl)) (pv 1) (nomark _)) (pw_or1 (pt_cmpR (op_neD hr.units) (pe_ix ix_list (pv 7) (pe_un un_neg pe_int) (fun _ _ => rfl)) (pv 2) (nomark _)))))) (pss_one (ps_ret pe_bl)) pss_nil)
      (pss_cons (ps_set (i := 9) scLTaken.nd rfl (.inl rfl) pe_dnewT)
      (pss_cons (ps_for PassesOwn.never rfl (pi_list (pv 8)) (pg_tup (by rfl) (pgs_cons (pg_name (i := 10) scLTaken.nd rfl (.inl rfl)) (pgs_cons (pg_name (i := 11) scLTaken.nd rfl (.inl rfl)) (pgs_cons (pg_name (i := 12) scLTaken.nd rfl (.inl rfl)) (pgs_cons (pg_name (i := 13) scLTaken.nd rfl (.inl rfl)) pgs_nil)))))
        (pss_cons (ps_if (PW.pt (pw_or (pt_cmpR (op_notInD hu5) (pe_tup (pa_cons (pv 10) (pa_cons (pv 11) (pa_cons (pv 12) pa_nil)))) (pv 4) (by with_unfolding_all rfl)) (pw_or (pt_cmp (pc_din hu (pe_tup (pa_cons (pv 10) (pa_cons (pv 11) (pa_cons (pv 12) pa_nil)))) (pv 9))) (pw_or1 (pt_cmpR op_gt (pv 13) (pv 6) (nomark _)))))) (pss_one (ps_ret pe_bl)) pss_nil)
        (pss_one (ps_dput hu (pv 9) (pe_tup (pa_cons (pv 10) (pa_cons (pv 11) (pa_cons (pv 12) pa_nil)))) (pv 13) rfl))))
      (pss_cons (ps_if (PW.pt (pw_or (PW.pt (pw_and (pt_cmp (pc_din hu (pv 1) (pv 9))) (pw_and1 (pt_cmpR op_gt (pe_dget hu (pv 9) (pv 1) (fun _ _ => rfl)) pe_int (nomark _))))) (pw_or1 (PW.pt (pw_and (pt_cmp (pc_dnotin hu (pv 1) (pv 9))) (pw_and1 (pt_cmpR op_gt (pv 6) pe_int (nomark _)))))))) (pss_one (ps_ret pe_bl)) pss_nil)
      (pss_cons (ps_if (PW.pt (pw_and (pt_cmp (pc_din hu (pv 2) (pv 9))) (pw_and1 (pt_cmpR (op_neD hr.units) (pe_dget hu (pv 9) (pv 2) (fun _ _ => rfl)) (pv 6) (nomark _))))) (pss_one (ps_ret pe_bl)) pss_nil)
      (pss_cons (ps_for PassesOwn.never rfl (pi_list (pe_callB (cr_sortedDT (n := 2) rfl hr.units) (by rfl) mS (by decide +kernel) (pa_cons (pv 9) pa_nil))) (pg_name (i := 14) scLTaken.nd rfl (.inl rfl))
        (pss_one (ps_for PassesOwn.never rfl (pi_list (pe_df DS hr rfl (pa_cons (pv 0) (pa_cons (pv 14) pa_nil)))) (pg_tup (by rfl) (pgs_cons (pg_name (i := 15) scLTaken.nd rfl (.inl rfl)) (pgs_cons (pg_name (i := 16) scLTaken.nd rfl (.inl rfl)) pgs_nil)))
          (pss_cons (ps_set (i := 17) scLTaken.nd rfl (.inl rfl) (pv 6))
          (pss_cons (ps_if (pt_cmp (pc_din hu (pv 15) (pv 9))) (pss_one (ps_set (i := 17) scLTaken.nd rfl (.inl rfl) (pe_dget hu (pv 9) (pv 15) (fun _ _ => rfl)))) pss_nil)
          (pss_one (ps_if (pt_cmpR op_gt (pv 17) (pe_op op_add (pe_dget hu (pv 9) (pv 14) (fun _ _ => rfl)) (pv 16)) (nomark _)) (pss_one (ps_ret pe_bl)) pss_nil)))))))
      (pss_one (ps_ret pe_bl)))))))), ?_⟩
    obtain ⟨yA, mkA, hPo, hwy, hmk⟩ := id hP
    obtain ⟨LW, eLW, hLW, hLWp⟩ := id hwy
    obtain ⟨L, eL, hLl, hLt⟩ := id hmk
    have hLlen : L.length = marks.length := by rw [eL, List.length_map]
    have no : (¬ Taken W.J W.fl s e paid way marks) → ∀ H', EX T ex H H' → Q (.bl false) H' := fun h H' e => k false H' e ⟨(fun z => nomatch z), fun z => absurd z h⟩
    refine ⟨_, rfl, pA, _, rfl, SqT.of hPo, rfl, _, _, rfl, _, _, rfl, _, _, rfl, _, _, rfl, rfl, ?_⟩
    refine ⟨_, rfl, _, rfl, _, rfl, wA, yA, lA, W, way, ps, rfl, g, hW, hWd, hwy, hwl, hps, hall, fun cst hcst => ?_, fun hno => ?_⟩
    · refine ⟨_, rfl, _, _, .int _, .int _, int_shaped _, int_shaped _, _, rfl, ?_⟩
      rw [int_eqv]
      refine iteB (fun hc => no (fun h => ?_) H (EX.refl H)) (fun hc => ?_)
      · rw [decide_eq_true (wcost_uniq hcst h.wy)] at hc
        cases hc
      · have ecp : cst = paid := Classical.byContradiction fun z => by
          rw [decide_eq_false z] at hc
          cases hc
        rw [ecp] at hcst
        obtain ⟨hfl, p, r, hpr, hwlp⟩ := id hcst
        obtain ⟨z0, L0, eL0⟩ : ∃ z l, LW = z :: l := by
          cases LW with
          | nil => rw [eLW] at hpr; cases hpr
          | cons a b => exact ⟨a, b, rfl⟩
        obtain ⟨L1, z1, eL1⟩ : ∃ l z, LW = l ++ [z] := ⟨LW.dropLast, LW.getLast (by rw [eL0]; intro z; cases z), (List.dropLast_concat_getLast _).symm⟩
        have hz0 := (hLWp z0 (by rw [eL0]; exact List.mem_cons_self))
        have hz1 := (hLWp z1 (by rw [eL1]; exact List.mem_append_right _ (List.mem_singleton.mpr rfl)))
        have hhd : way.head? = some z0.2 := by rw [eLW, eL0]; rfl
        have hlst : way.getLast? = some z1.2 := by rw [eLW, eL1]; simp
        refine ⟨_, rfl, yA, _, _, _, rfl, rfl, hLW.sq, at_of (j := 0) rfl (by rw [eL0]; rfl), _, rfl, _, _, hz0.dp, hs.dp, plD_shaped _, plD_shaped _, _, rfl, ?_⟩
        rw [plD_eqv]
        refine iteB (fun hc => no (fun h => ?_) H (EX.refl H)) (fun hc => ?_)
        · have h1 := h.hd
          rw [hhd] at h1
          rw [decide_eq_true (Option.some.inj h1)] at hc
          cases hc
        have ehd : z0.2 = s := Classical.byContradiction fun z => by
          rw [decide_eq_false z] at hc
          cases hc
        refine ⟨_, rfl, _, rfl, yA, _, _, _, rfl, rfl, hLW.sq, (by rw [eL1, List.map_append]; exact atI_last _ _), _, rfl, _, _, hz1.dp, he.dp, plD_shaped _, plD_shaped _, _, rfl, ?_⟩
        rw [plD_eqv]
        refine iteB (fun hc => no (fun h => ?_) H (EX.refl H)) (fun hc => ?_)
        · have h1 := h.lst
          rw [hlst] at h1
          rw [decide_eq_true (Option.some.inj h1)] at hc
          cases hc
        have elst : z1.2 = e := Classical.byContradiction fun z => by
          rw [decide_eq_false z] at hc
          cases hc
        intro kD hkD
        have nk := g.ne hkD
        have e0 : EX T ex H (upd H kD (.dT [])) := EX.new hkD
        have hk0 : upd H kD (.dT []) kD = some (.dT (dI [])) := upd_same
        generalize upd H kD (.dT []) = H0 at e0 hk0 ⊢
        refine ⟨_, rfl, mkA, rfl, ⟨_, (e0.li hLl).sq⟩, for_list (K := K) (a := mkA) (xs := L.map fun q => V.ref q.1) (fun i σ H' => EX T ex H H' ∧ ∃ o10 o11 o12 o13 : Option V, σ = [some (.ref wA), some (.ref sA), some (.ref eA), some (.ref pA), some (.ref lA), some (.str "price"), some (.int paid), some (.ref yA), some (.ref mkA), some (.ref kD), o10, o11, o12, o13, none, none, none, none] ∧ H' kD = some (.dT (dI (marks.take i))) ∧
          ((marks.take i).map (·.1)).Nodup ∧ ∀ m ∈ marks.take i, W.fl m.1 ∧ m.2 ≤ paid) ⟨e0, none, none, none, none, rfl, hk0, List.nodup_nil, fun m hm => nomatch hm⟩ (fun i σ H' _ h => (h.1.li hLl).sq) ?_ ?_⟩
        · rintro i y σ H1 hi ⟨e1, o10, o11, o12, o13, rfl, hk1, hnd, hok⟩
          have hi40 := (List.getElem?_eq_some_iff.mp hi).1
          rw [List.length_map, hLlen] at hi40
          rw [List.getElem?_map] at hi
          cases ez : L[i]? with
          | none => rw [ez] at hi; cases hi
          | some z =>
            rw [ez] at hi
            obtain rfl : V.ref z.1 = y := Option.some.inj hi
            have hz := e1.tup g (hLt z (List.mem_of_getElem? ez))
            have hmi : marks[i]? = some z.2 := by rw [eL, List.getElem?_map, ez]; rfl
            have hmm := List.mem_of_getElem? hmi
            have htk : marks.take (i + 1) = marks.take i ++ [z.2] := by rw [List.take_succ, hmi]; rfl
            have g1 := e1.g g
            refine ⟨z.1, _, rfl, SqT.of hz, rfl, _, _, rfl, _, _, rfl, _, _, rfl, _, _, rfl, rfl, ?_⟩
            refine ⟨_, rfl, _, rfl, _, rfl, (by show 3 ≤ sizeLine; decide), fun t1 ht1 => ?_⟩
            have e2 : EX T ex H1 (upd H1 t1 (.tup [.int z.2.1.1, .int z.2.1.2.1, .int z.2.1.2.2])) := EX.new ht1
            have hp2 : PlAt (upd H1 t1 (.tup [.int z.2.1.1, .int z.2.1.2.1, .int z.2.1.2.2])) t1 z.2.1 := upd_same
            have hk2 := e2.dT g1 hk1
            have e02 := e1.trans e2
            generalize upd H1 t1 (.tup [.int z.2.1.1, .int z.2.1.2.1, .int z.2.1.2.2]) = H2 at e02 hp2 hk2 ⊢
            have g2 := e02.g g
            refine ⟨_, rfl, _, _, hp2.dp, (e02.pls g hps).dp, plD_shaped _, pls_shaped _, _, rfl, ?_⟩
            rw [pls_any]
            refine iteB (fun hc => no (fun h => ?_) H2 e02) (fun hc => ?_)
            · rw [decide_eq_true ((hall.mem _).mpr (h.fls z.2 hmm))] at hc
              cases hc
            have hfl : W.fl z.2.1 := (hall.mem _).mp (Classical.byContradiction fun n => by
              rw [decide_eq_false n] at hc
              cases hc)
            refine ⟨_, rfl, _, rfl, _, rfl, (by show 3 ≤ sizeLine; decide), fun t2 ht2 => ?_⟩
            have e3 : EX T ex H2 (upd H2 t2 (.tup [.int z.2.1.1, .int z.2.1.2.1, .int z.2.1.2.2])) := EX.new ht2
            have hp3 : PlAt (upd H2 t2 (.tup [.int z.2.1.1, .int z.2.1.2.1, .int z.2.1.2.2])) t2 z.2.1 := upd_same
            have hk3 := e3.dT g2 hk2
            have e03 := e02.trans e3
            generalize upd H2 t2 (.tup [.int z.2.1.1, .int z.2.1.2.1, .int z.2.1.2.2]) = H3 at e03 hp3 hk3 ⊢
            have g3 := e03.g g
            refine ⟨_, rfl, kD, _, rfl, DGet.t (k := z.2.1.k) hk3 hp3, _, rfl, ?_⟩
            rw [valV_dI, Option.isSome_map]
            refine iteB (fun hc => no (fun h => ?_) H3 e03) (fun hc => ?_)
            · cases e : lk (marks.take i) z.2.1 with
              | none => rw [e] at hc; cases hc
              | some v => exact nodup_snoc hmi h.nd v (lk_mem e)
            have hnew : lk (marks.take i) z.2.1 = none := by
              cases e : lk (marks.take i) z.2.1 with
              | none => rfl
              | some v => rw [e] at hc; cases hc
            refine ⟨_, rfl, _, rfl, _, _, rfl, rfl, _, rfl, ?_⟩
            refine ite2 (fun hc3 => no (fun h => ?_) H3 e03) (fun hc3 => ?_)
            · have := h.le z.2 hmm
              have : paid < z.2.2 := of_decide_eq_true hc3
              omega
            have hle : z.2.2 ≤ paid := by
              have : ¬ paid < z.2.2 := fun h => hc3 (decide_eq_true h)
              omega
            refine ⟨_, rfl, _, rfl, _, rfl, _, rfl, _, rfl, (by show 3 ≤ sizeLine; decide), fun t3 ht3 => ?_⟩
            have e4 : EX T ex H3 (upd H3 t3 (.tup [.int z.2.1.1, .int z.2.1.2.1, .int z.2.1.2.2])) := EX.new ht3
            have hp4 : PlAt (upd H3 t3 (.tup [.int z.2.1.1, .int z.2.1.2.1, .int z.2.1.2.2])) t3 z.2.1 := upd_same
            have hk4 := e4.dT g3 hk3
            have e04 := e03.trans e4
            generalize upd H3 t3 (.tup [.int z.2.1.1, .int z.2.1.2.1, .int z.2.1.2.2]) = H4 at e04 hp4 hk4 ⊢
            refine ⟨kD, _, rfl, DPut.t (k := z.2.1.k) hk4 hp4 (by rw [dI_len]; exact small40 (by have := (List.take_sublist i marks).length_le; omega)), ?_⟩
            rw [dI_put]
            refine ⟨e04.put (FrN.none hkD) hk4 rfl nk, _, _, _, _, rfl, ?_, ?_, fun m hm => ?_⟩
            · rw [upd_same, pt_new _ hnew, htk]
            · rw [htk, List.map_append, List.nodup_append]
              refine ⟨hnd, by simp, fun a ha b hb => ?_⟩
              rw [List.map_cons, List.map_nil, List.mem_singleton] at hb
              rw [hb]
              rintro rfl
              exact lk_keys_iff.mp ha hnew
            · rw [htk] at hm
              rcases List.mem_append.mp hm with h | h
              · exact hok m h
              · rw [List.mem_singleton.mp h]
                exact ⟨hfl, hle⟩
        · rintro σ H1 ⟨e1, o10, o11, o12, o13, rfl, hk1, hnd, hok⟩
          rw [List.length_map, hLlen, List.take_length] at hk1 hnd hok
          have g1 := e1.g g
          have hs1 := e1.pl g hs
          have he1 := e1.pl g he
          have getS := DGet.t (k := s.k) hk1 hs1
          have getE := DGet.t (k := e.k) hk1 he1
          rw [valV_dI] at getS getE
          apply cut (X := (lk marks s).getD paid ≤ 0 → _)
          rotate_left
          · intro hX
            refine ⟨_, rfl, _, rfl, kD, _, rfl, getS, _, rfl, ?_⟩
            cases es : lk marks s with
            | some n =>
              rw [es] at getS
              refine ⟨_, rfl, _, rfl, kD, _, rfl, getS, _, _, rfl, rfl, _, rfl, ?_⟩
              refine ite2 (fun hc => no (fun h => ?_) H1 e1) (fun hc => ?_)
              · have h1 := h.st
                rw [es] at h1
                have h1 : n ≤ 0 := h1
                have : 0 < n := of_decide_eq_true hc
                omega
              · refine ⟨_, rfl, _, rfl, kD, _, rfl, getS, _, rfl, ?_⟩
                refine hX ?_
                rw [es]
                have : ¬ 0 < n := fun h => hc (decide_eq_true h)
                show n ≤ 0
                omega
            | none =>
              rw [es] at getS
              refine ⟨_, rfl, _, rfl, kD, _, rfl, getS, _, rfl, ?_⟩
              refine ⟨_, rfl, _, _, rfl, rfl, _, rfl, ?_⟩
              refine ite2 (fun hc => no (fun h => ?_) H1 e1) (fun hc => ?_)
              · have h1 := h.st
                rw [es] at h1
                have h1 : paid ≤ 0 := h1
                have : 0 < paid := of_decide_eq_true hc
                omega
              · refine hX ?_
                rw [es]
                have : ¬ 0 < paid := fun h => hc (decide_eq_true h)
                show paid ≤ 0
                omega
          intro hst
          apply cut (X := (∀ n, lk marks e = some n → n = paid) → _)
          rotate_left
          · intro hX
            refine ⟨_, rfl, _, rfl, kD, _, rfl, getE, _, rfl, ?_⟩
            cases es : lk marks e with
            | some n =>
              rw [es] at getE
              refine ⟨_, rfl, _, rfl, kD, _, rfl, getE, _, rfl, _, _, .int _, .int _, int_shaped _, int_shaped _, _, rfl, ?_⟩
              rw [int_eqv]
              refine iteB (fun hc => no (fun h => ?_) H1 e1) (fun hc => ?_)
              · rw [decide_eq_true (h.gl n es)] at hc
                cases hc
              · refine hX fun n' hn' => ?_
                rw [es] at hn'
                cases hn'
                exact Classical.byContradiction fun z => by
                  rw [decide_eq_false z] at hc
                  cases hc
            | none =>
              refine hX fun n hn => ?_
              rw [es] at hn
              cases hn
          intro hgl
          refine ⟨_, rfl, kD, _, marks.map (fun q => q.1.n), rfl, .inl hk1, dI_keys marks, fun m hm => ?_, fun p2 L' hp2 hperm hL' => ?_⟩
          · obtain ⟨q, _, rfl⟩ := List.mem_map.mp hm
            rfl
          have e2 : EX T ex H1 (upd H1 p2 (.lst (L'.map fun q => V.ref q.1))) := EX.new hp2
          have hp2' : LI ex (upd H1 p2 (.lst (L'.map fun q => V.ref q.1))) p2 (L'.map fun q => V.ref q.1) := LI.new g1 hp2
          generalize upd H1 p2 (.lst (L'.map fun q => V.ref q.1)) = H2 at e2 hp2' ⊢
          have hL2 : ∀ z ∈ L', H2 z.1 = some (.tup (z.2.map V.int)) := fun z hz => e2.tup g1 (hL' z hz)
          have hk2 := e2.dT g1 hk1
          have e02 := e1.trans e2
          have g2 := e02.g g
          have hkey : ∀ z ∈ L', ∃ m ∈ marks, z.2 = m.1.n := fun z hz => by
            have h1 : z.2 ∈ marks.map (fun q => q.1.n) := hperm.mem_iff.mp (List.mem_map.mpr ⟨z, hz, rfl⟩)
            obtain ⟨q, hq, e⟩ := List.mem_map.mp h1
            exact ⟨q, hq, e.symm⟩
          refine ⟨p2, rfl, ⟨_, hp2'.sq⟩, for_list (K := K) (a := p2) (xs := L'.map fun q => V.ref q.1) (fun i σ H' => EX T ex H2 H' ∧ ∃ o14 o15 o16 o17 : Option V, σ = [some (.ref wA), some (.ref sA), some (.ref eA), some (.ref pA), some (.ref lA), some (.str "price"), some (.int paid), some (.ref yA), some (.ref mkA), some (.ref kD), o10, o11, o12, o13, o14, o15, o16, o17] ∧
            ∀ z ∈ L'.take i, ∀ m ∈ marks, z.2 = m.1.n → ∀ q c, W.J m.1 q = some c → (lk marks q).getD paid ≤ m.2 + c) ⟨EX.refl _, _, _, _, _, rfl, fun z hz => nomatch hz⟩ (fun i σ H' _ h => (h.1.li hp2').sq) ?_ ?_⟩
          · rintro i y σ H3 hi ⟨e3, o14, o15, o16, o17, rfl, hdone⟩
            rw [List.getElem?_map] at hi
            cases ez : L'[i]? with
            | none => rw [ez] at hi; cases hi
            | some z =>
              rw [ez] at hi
              obtain rfl : V.ref z.1 = y := Option.some.inj hi
              have hzm := List.mem_of_getElem? ez
              obtain ⟨m, hm, hzr⟩ := hkey z hzm
              have htk : L'.take (i + 1) = L'.take i ++ [z] := by rw [List.take_succ, ez]; rfl
              have e03 := e02.trans e3
              have g3 := e03.g g
              have hz3 : PlAt H3 z.1 m.1 := by
                have := e3.tup g2 (hL2 z hzm)
                rw [hzr] at this
                exact this
              refine ⟨_, rfl, _, rfl, wA, z.1, W, m.1, rfl, g3, hW, e03.wd g hWd, hz3, fun l es H4 e4 hst4 hes => ?_⟩
              obtain ⟨Ls, eLs, hLsl, hLst⟩ := hst4
              have hk4 := (e3.trans e4).dT g2 hk2
              have hz4 := e4.pl g3 hz3
              have hgm : DGet H4 kD (.ref z.1) (some (.int m.2)) := by
                have : valV (dI marks) m.1.k = some (.int m.2) := by
                  rw [valV_dI, lk_of_mem hnd (show (m.1, m.2) ∈ marks from hm)]
                  rfl
                rw [← this]
                exact DGet.t hk4 hz4
              refine ⟨l, rfl, ⟨_, hLsl.sq⟩, for_list (K := K) (a := l) (xs := Ls.map fun q => V.ref q.1) (fun j σ H' => H' = H4 ∧ ∃ o15 o16 o17 : Option V, σ = [some (.ref wA), some (.ref sA), some (.ref eA), some (.ref pA), some (.ref lA), some (.str "price"), some (.int paid), some (.ref yA), some (.ref mkA), some (.ref kD), o10, o11, o12, o13, some (.ref z.1), o15, o16, o17] ∧
                ∀ x ∈ es.take j, (lk marks x.1).getD paid ≤ m.2 + x.2) ⟨rfl, _, _, _, rfl, fun x hx => nomatch hx⟩ (fun j σ H' _ h => by rw [h.1]; exact hLsl.sq) ?_ ?_⟩
              · rintro j y σ H5 hj ⟨rfl, o15, o16, o17, rfl, hjs⟩
                rw [List.getElem?_map] at hj
                cases eu : Ls[j]? with
                | none => rw [eu] at hj; cases hj
                | some u =>
                  rw [eu] at hj
                  obtain rfl : V.ref u.1 = y := Option.some.inj hj
                  have hu1 := hLst u (List.mem_of_getElem? eu)
                  have hej : es[j]? = some u.2.2 := by rw [eLs, List.getElem?_map, eu]; rfl
                  have hjk : es.take (j + 1) = es.take j ++ [u.2.2] := by rw [List.take_succ, hej]; rfl
                  have hgu := DGet.t (k := u.2.2.1.k) hk4 hu1.2
                  rw [valV_dI] at hgu
                  refine ⟨u.1, _, rfl, SqT.of hu1.1, rfl, _, _, rfl, _, _, rfl, rfl, ?_⟩
                  refine ⟨_, rfl, _, rfl, _, rfl, kD, _, rfl, hgu, _, rfl, ?_⟩
                  refine ite_join (fun σ' H' => H' = H5 ∧ σ' = [some (.ref wA), some (.ref sA), some (.ref eA), some (.ref pA), some (.ref lA), some (.str "price"), some (.int paid), some (.ref yA), some (.ref mkA), some (.ref kD), o10, o11, o12, o13, some (.ref z.1), some (.ref u.2.1), some (.int u.2.2.2), some (.int ((lk marks u.2.2.1).getD paid))]) ?_ (fun hc key => ?_) (fun hc => ?_)
                  rotate_left
                  · cases ev : lk marks u.2.2.1 with
                    | none => rw [ev] at hc; cases hc
                    | some v =>
                      rw [ev] at hgu
                      refine ⟨_, rfl, _, rfl, kD, _, rfl, hgu, key _ _ ⟨rfl, ?_⟩⟩
                      rw [ev]
                      rfl
                  · refine ⟨rfl, ?_⟩
                    cases ev : lk marks u.2.2.1 with
                    | none => rfl
                    | some v => rw [ev] at hc; cases hc
                  rintro _ _ ⟨rfl, rfl⟩
                  refine ⟨_, rfl, _, rfl, _, rfl, kD, _, rfl, hgm, _, rfl, _, _, rfl, rfl, _, _, rfl, rfl, _, rfl, ?_⟩
                  refine ite2 (fun hc => ?_) (fun hc => ?_)
                  · refine no (fun h => ?_) _ (e03.trans e4)
                    have h1 := h.step m hm u.2.2.1 u.2.2.2 ((Wd.JE _ _ _).mpr ((hes.2 _ _).mp (List.mem_of_getElem? hej)))
                    have : m.2 + u.2.2.2 < (lk marks u.2.2.1).getD paid := of_decide_eq_true hc
                    omega
                  · refine ⟨rfl, _, _, _, rfl, fun x hx => ?_⟩
                    rw [hjk] at hx
                    rcases List.mem_append.mp hx with h | h
                    · exact hjs x h
                    · rw [List.mem_singleton.mp h]
                      have : ¬ m.2 + u.2.2.2 < (lk marks u.2.2.1).getD paid := fun h => hc (decide_eq_true h)
                      omega
              · rintro σ H5 ⟨rfl, o15, o16, o17, rfl, hjs⟩
                refine ⟨e3.trans e4, _, _, _, _, rfl, fun z' hz' m' hm' hzm' q c hJ => ?_⟩
                rw [htk] at hz'
                rcases List.mem_append.mp hz' with h | h
                · exact hdone z' h m' hm' hzm' q c hJ
                · rw [List.mem_singleton.mp h, hzr] at hzm'
                  have e1 : m'.1 = m.1 := (Pl.n_inj hzm').symm
                  have e2 : m' = m := by
                    have h1 := lk_of_mem hnd (show (m'.1, m'.2) ∈ marks from hm')
                    have h2 := lk_of_mem hnd (show (m.1, m.2) ∈ marks from hm)
                    rw [e1, h2] at h1
                    exact Prod.ext e1 (Option.some.inj h1).symm
                  rw [e2] at hJ ⊢
                  refine hjs (q, c) ?_
                  have hle : (Ls.map fun q => V.ref q.1).length = es.length := by rw [eLs, List.length_map, List.length_map]
                  rw [hle, List.take_length]
                  exact (hes.2 q c).mpr ((Wd.JE _ _ _).mp hJ)
          · rintro σ H3 ⟨e3, o14, o15, o16, o17, rfl, hdone⟩
            rw [List.length_map, List.take_length] at hdone
            refine k true H3 (e02.trans e3) ⟨fun _ => ⟨hcst, by rw [hhd, ehd], by rw [hlst, elst], hnd, fun m hm => (hok m hm).1, fun m hm => (hok m hm).2, hst, fun m hm q c hJ => ?_, hgl⟩, fun _ => rfl⟩
            obtain ⟨z, hz, e⟩ := List.mem_map.mp (hperm.mem_iff.mpr (List.mem_map.mpr ⟨m, hm, rfl⟩))
            exact hdone z hz m hm e q c hJ
    · refine ⟨_, rfl, _, _, .non, .int _, none_shaped, int_shaped _, _, rfl, ?_⟩
      rw [none_eqv]
      exact no (fun h => hno paid h.wy) H (EX.refl H)
end
end K76
namespace K76
open PySem PySem.Spec PyProof.Rows L2 LamX
theorem ite_join2 {c1 : Bool} {U A : Prop} {N : L2.St → Hp → Prop} {σ : L2.St} {H : Hp} (Pre : L2.St → Hp → Prop) (key : ∀ σ' H', Pre σ' H' → N σ' H') (h1 : c1 = true → (∀ σ' H', Pre σ' H' → N σ' H') → U) (h2 : c1 = false → Pre σ H) :
    if c1 = true then U else (if false = true then A else N σ H) := by
  cases c1 with
  | true => exact h1 rfl key
  | false => exact key _ _ (h2 rfl)
theorem ixNr {n : Nat} {r : Int} (h : r.toNat < n) (h0 : 0 ≤ r) : ixN n r = some r.toNat := by
  unfold ixN
  rw [if_pos h0, if_pos (by omega)]
theorem eraseIdx_map' {α β : Type} (f : α → β) : ∀ (l : List α) (i : Nat), (l.map f).eraseIdx i = (l.eraseIdx i).map f
  | [], _ => rfl
  | _ :: _, 0 => rfl
  | a :: l, i + 1 => by
    show f a :: (l.map f).eraseIdx i = f a :: (l.eraseIdx i).map f
    rw [eraseIdx_map' f l i]
theorem seqN {n : Nat} {r : Int} (h : r.toNat < n) (h0 : 0 ≤ r) : seqIndex? r n = some r.toNat := by
  unfold seqIndex?
  have h1 : ¬ r < 0 := by omega
  simp only [h1, if_false]
  rw [if_pos]
  simp only [Bool.and_eq_true, decide_eq_true_eq]
  omega
/-- a paper that does not hold the list at D -/
def PapAv (D : Addr) (H : Hp) (a : Addr) : Prop := ∀ (n : Int) (y m : Addr), H a = some (.tup [.str "price", .int n, .ref y, .ref m]) → y ≠ D ∧ m ≠ D
def spLChanged (T : TbT) (sA cA : Addr) : Sp := fun vs H Q _ => ∃ (pA lA : Addr) (paid : Int) (way ps : List Pl) (marks : List (Pl × Int)), vs = [.ref sA, .ref pA, .ref lA] ∧ Gd T [sA, cA] H ∧ PaperAt [sA, cA] H pA paid way marks ∧ way ≠ [] ∧ way.length ≤ 40 ∧ marks.length ≤ 40 ∧ 0 ≤ paid ∧ paid ≤ 1000000 ∧ PlsAt [sA, cA] H lA ps ∧ ps ≠ [] ∧ ps.length ≤ 40 ∧
  ∀ (a : Addr) (paid' : Int) (way' : List Pl) (marks' : List (Pl × Int)) (H' : Hp), EX T [sA, cA] H H' → PaperAt [sA, cA] H' a paid' way' marks' → way'.length ≤ 100 → marks'.length ≤ 100 → (∀ D xs, H D = some (.lst xs) → PapAv D H pA → PapAv D H' a) → Q (.ref a) H'
theorem cutV_map {β : Type} (f : β → V) (L : List β) (lo hi : Option Int) : ∃ L' : List β, cutV (L.map f) lo hi = L'.map f ∧ (∀ q ∈ L', q ∈ L) ∧ L'.length ≤ L.length := by
  refine ⟨(L.drop (HT.sIx (L.map f).length 0 lo)).take (HT.sIx (L.map f).length (L.map f).length hi - HT.sIx (L.map f).length 0 lo), ?_, fun q hq => List.mem_of_mem_drop (List.mem_of_mem_take hq), ?_⟩
  · unfold cutV
    rw [List.map_take, List.map_drop]
  · rw [List.length_take, List.length_drop]
    omega
/-- the state of _law_changed between its ifs -/
def ChP (T : TbT) (sA cA pA lA yA mL : Addr) (H : Hp) (kind paid : Int) (m n : Nat) (σ' : L2.St) (H' : Hp) : Prop := ∃ (paid' : Int) (y' : Addr) (way' : List Pl) (M : List (Addr × Pl × Int)) (o8 o9 o10 : Option V), σ' = [some (.ref sA), some (.ref pA), some (.ref lA), some (.str "price"), some (.int paid'), some (.ref y'), some (.ref mL), some (.int kind), o8, o9, o10] ∧
  EX T [sA, cA] H H' ∧ ((y' ≠ mL ∧ (y' = yA ∨ FrN H y')) ∧ PlsAt [sA, cA] H' y' way') ∧ way'.length ≤ m ∧ (kind = 2 → way' ≠ []) ∧ H' mL = some (.lst (M.map fun q => V.ref q.1)) ∧ (∀ q ∈ M, H' q.1 = some (.tup (q.2.1.v ++ [.int q.2.2]))) ∧ M.length ≤ n ∧ (kind ≠ 0 → paid' = paid)
section
variable {P : Program} {w : World} {K : PySem.W.Frag} {mg : Str → Option Value} {base : Heap} {T : TbT} {G C : Addr}
def nLChanged : List Str := ["_law_state_here", "_law_paper", "_law_places_here", "_law_name", "_law_paid", "_law_way", "_law_marks", "_law_kind", "_law_at", "_law_mark", "_law_place"]
theorem scLChanged : FnScope nLChanged ["_law_state_here", "_law_paper", "_law_places_here"] (defScope sLChanged) := ⟨rfl, rfl, rfl, by decide +kernel, rfl, by decide +kernel, by decide +kernel⟩
theorem ok_lchanged {f : Addr} {fd : FuncData} (F : FnP K "_law_changed" "_law_changed" sLChanged f fd) (mLi : mg "list" = none) (mLe : mg "len" = none) (sA cA : Addr) (DD : Df P w K mg base 1 "_law_draw" ["_law_state_here", "_law_many"] (spDraw T sA cA)) :
    FnOk P w K mg base CX0 2 f fd ["_law_state_here", "_law_paper", "_law_places_here"] (spLChanged T sA cA) := by
  refine fn_rule F scLChanged (fun vs H Q E h => ?_) (fun cdv A outer s0 H vs Q E hr h => ?_)
  · obtain ⟨pA, lA, paid, way, ps, marks, rfl, _⟩ := h
    rfl
  · obtain ⟨pA, lA, paid, way, ps, marks, rfl, g, hP, hne, hwl, hml, hp0, hp1, hps, hpne, hpl, k⟩ := h
    refine ⟨_, pss_cons (ps_asg (pv 1) (pg_tup (by rfl) (pgs_cons (pg_name (i := 3) scLChanged.nd rfl (.inl rfl)) (pgs_cons (pg_name (i := 4) scLChanged.nd rfl (.inl rfl)) (pgs_cons (pg_name (i := 5) scLChanged.nd rfl (.inl rfl)) (pgs_cons (pg_name (i := 6) scLChanged.nd rfl (.inl rfl)) pgs_nil))))))
      (pss_cons (ps_set (i := 6) scLChanged.nd rfl (.inl rfl) (pe_callTy call_list_of (by rfl) mLi (by decide +kernel) (pa_cons (pv 6) pa_nil)))
      (pss_cons (ps_set (i := 7) scLChanged.nd rfl (.inl rfl) (pe_df DD hr rfl (pa_cons (pv 0) (pa_cons pe_int pa_nil))))
      (pss_cons (ps_if (pt_cmpR (op_eqD hr.units) (pv 7) pe_int (nomark _))
        (pss_one (ps_set (i := 4) scLChanged.nd rfl (.inl rfl) (pe_op op_sub (pe_op op_add (pv 4) (pe_df DD hr rfl (pa_cons (pv 0) (pa_cons pe_int pa_nil)))) pe_int))) pss_nil)
      (pss_cons (ps_if (PW.pt (pw_and (pt_cmpR (op_eqD hr.units) (pv 7) pe_int (nomark _)) (pw_and1 (pt_cmpR op_gt (pe_callB call_len (by rfl) mLe (by decide +kernel) (pa_cons (pv 5) pa_nil)) pe_int (nomark _)))))
        (pss_cons (ps_set (i := 8) scLChanged.nd rfl (.inl rfl) (pe_op op_add pe_int (pe_df DD hr rfl (pa_cons (pv 0) (pa_cons (pe_op op_sub (pe_callB call_len (by rfl) mLe (by decide +kernel) (pa_cons (pv 5) pa_nil)) pe_int) pa_nil)))))
        (pss_one (ps_set (i := 5) scLChanged.nd rfl (.inl rfl) (pe_op op_cat (pe_slice sl_list (pv 5) po_none (po_some (pv 8))) (pe_slice sl_list (pv 5) (po_some (pe_op op_add (pv 8) pe_int)) po_none))))) pss_nil)
      (pss_cons (ps_if (pt_cmpR (op_eqD hr.units) (pv 7) pe_int (nomark _))
        (pss_one (ps_set (i := 5) scLChanged.nd rfl (.inl rfl) (pe_op op_cat (pv 5) (pe_lst (pa_cons (pe_ix ix_list (pv 5) (pe_un un_neg pe_int) (fun _ _ => rfl)) pa_nil))))) pss_nil)
      (pss_cons (ps_if (PW.pt (pw_and (pt_cmpR (op_eqD hr.units) (pv 7) pe_int (nomark _)) (pw_and1 (pt_cmpR op_gt (pe_callB call_len (by rfl) mLe (by decide +kernel) (pa_cons (pv 6) pa_nil)) pe_int (nomark _)))))
        (pss_one (ps_expr (pe_bm PySem.F.plainAttrs_list PySem.F.slot_list_pop PySem.F.type_list_pop mt_popAt (pv 6) (pa_cons (pe_df DD hr rfl (pa_cons (pv 0) (pa_cons (pe_callB call_len (by rfl) mLe (by decide +kernel) (pa_cons (pv 6) pa_nil)) pa_nil))) pa_nil)))) pss_nil)
      (pss_cons (ps_if (PW.pt (pw_and (pt_cmpR op_gt (pv 7) pe_int (nomark _)) (pw_and (pt_cmpR op_lt (pv 7) pe_int (nomark _)) (pw_and1 (pt_cmpR op_gt (pe_callB call_len (by rfl) mLe (by decide +kernel) (pa_cons (pv 6) pa_nil)) pe_int (nomark _))))))
        (pss_cons (ps_set (i := 8) scLChanged.nd rfl (.inl rfl) (pe_df DD hr rfl (pa_cons (pv 0) (pa_cons (pe_callB call_len (by rfl) mLe (by decide +kernel) (pa_cons (pv 6) pa_nil)) pa_nil))))
        (pss_cons (ps_set (i := 9) scLChanged.nd rfl (.inl rfl) (pe_ix ix_list (pv 6) (pv 8) (fun _ _ => rfl)))
        (pss_one (ps_asg (pe_op op_catT (pe_slice sl_tup (pv 9) po_none (po_some pe_int)) (pe_tup (pa_cons (pe_op op_add (pe_ix ix_tup (pv 9) pe_int (fun _ _ => rfl)) (pe_ix ix_list (pe_lst (pa_cons (pe_un un_neg pe_int) (pa_cons pe_int (pa_cons (pe_un un_neg pe_int) pa_nil)))) (pe_op op_sub (pv 7) pe_int) (fun _ _ => rfl))) pa_nil))) (pg_sub (pv 6) (pv 8) set_list))))) pss_nil)
      (pss_cons (ps_if (pt_cmpR (op_eqD hr.units) (pv 7) pe_int (nomark _))
        (pss_cons (ps_set (i := 10) scLChanged.nd rfl (.inl rfl) (pe_ix ix_list (pv 2) (pe_df DD hr rfl (pa_cons (pv 0) (pa_cons (pe_callB call_len (by rfl) mLe (by decide +kernel) (pa_cons (pv 2) pa_nil)) pa_nil))) (fun _ _ => rfl)))
        (pss_one (ps_expr (pe_bm PySem.F.plainAttrs_list PySem.F.slot_list_append PySem.F.type_list_append mt_append (pv 6) (pa_cons (pe_op op_catT (pv 10) (pe_tup (pa_cons (pe_df DD hr rfl (pa_cons (pv 0) (pa_cons (pe_op op_add (pv 4) pe_int) pa_nil))) pa_nil))) pa_nil))))) pss_nil)
      (pss_one (ps_ret (pe_tup (pa_cons (pv 3) (pa_cons (pv 4) (pa_cons (pv 5) (pa_cons (pv 6) pa_nil))))))))))))))), ?_⟩
    obtain ⟨yA, mkA, hPo, hwy, hmk⟩ := id hP
    obtain ⟨L, eL, hLl, hLt⟩ := id hmk
    refine ⟨_, rfl, pA, _, rfl, SqT.of hPo, rfl, _, _, rfl, _, _, rfl, _, _, rfl, _, _, rfl, rfl, ?_⟩
    refine ⟨_, rfl, mkA, _, rfl, .inl hLl.sq, fun mL hmL => ?_⟩
    have nm := g.ne hmL
    have xm : FrN H mL := FrN.none hmL
    have e1 : EX T [sA, cA] H (upd H mL (.lst (L.map fun q => V.ref q.1))) := EX.new hmL
    have hm1 : upd H mL (.lst (L.map fun q => V.ref q.1)) mL = some (.lst (L.map fun q => V.ref q.1)) := upd_same
    generalize upd H mL (.lst (L.map fun q => V.ref q.1)) = H1 at e1 hm1 ⊢
    have g1 := e1.g g
    refine ⟨_, rfl, 8, rfl, g1, by decide, by decide, fun kd H2 e2 k0 k1 => ?_⟩
    have e02 := e1.trans e2
    have g2 := e02.g g
    have hm2 := e2.k mL _ hm1 nm (fun ps z => nomatch z)
    have hLlen : L.length ≤ 40 := by
      rw [eL, List.length_map] at hml
      exact hml
    have ny0 : yA ≠ mL := fun z => by
      obtain ⟨Ly, _, hLy, _⟩ := hwy
      have := hLy.1
      rw [z, hmL] at this
      cases this
    -- kind 0
    refine ⟨_, rfl, _, _, .int _, .int _, int_shaped _, int_shaped _, _, rfl, ?_⟩
    rw [int_eqv]
    refine ite_join (ChP T sA cA pA lA yA mL H kd paid 40 40) ?_ (fun hc key => ?_) (fun _ => ⟨paid, yA, way, L, none, none, none, rfl, e02, ⟨⟨ny0, .inl rfl⟩, e02.pls g hwy⟩, hwl, fun _ => hne, hm2, fun q hq => e02.tup g (hLt q hq), hLlen, fun _ => rfl⟩)
    rotate_left
    · refine ⟨_, rfl, _, rfl, 5, rfl, g2, by decide, by decide, fun r H3 e3 _ _ => ⟨_, _, rfl, rfl, _, _, rfl, rfl, key _ _ ⟨_, yA, way, L, none, none, none, rfl, e02.trans e3, ⟨⟨ny0, .inl rfl⟩, (e02.trans e3).pls g hwy⟩, hwl, fun _ => hne, e3.k mL _ hm2 nm (fun ps z => nomatch z), fun q hq => (e02.trans e3).tup g (hLt q hq), hLlen, fun h => absurd (of_decide_eq_true hc) h⟩⟩⟩
    rintro _ H3 ⟨paid3, y3, way3, M3, o8, o9, o10, rfl, e3, ⟨ny3, hy3⟩, hw3, hn3, hm3, hM3, hMl3, hpd3⟩
    have g3 := e3.g g
    -- kind 1
    refine ⟨_, rfl, _, _, .int _, .int _, int_shaped _, int_shaped _, _, rfl, ?_⟩
    rw [int_eqv]
    refine ite_join2 (ChP T sA cA pA lA yA mL H kd paid 80 40) ?_ (fun hc key => ?_) (fun _ => ⟨paid3, y3, way3, M3, o8, o9, o10, rfl, e3, ⟨ny3, hy3⟩, by omega, hn3, hm3, hM3, hMl3, hpd3⟩)
    rotate_left
    · have hk1 : kd = 1 := of_decide_eq_true hc
      obtain ⟨Ly, eLy, hLy, hLyp⟩ := id hy3
      have hLyl : Ly.length = way3.length := by rw [eLy, List.length_map]
      refine ⟨_, rfl, _, _, rfl, .inl ⟨_, hLy.sq, rfl⟩, _, _, rfl, rfl, _, rfl, ?_⟩
      refine ite2 (fun hc2 => ?_) (fun _ => key _ _ ⟨paid3, y3, way3, M3, o8, o9, o10, rfl, e3, ⟨ny3, hy3⟩, by omega, hn3, hm3, hM3, hMl3, hpd3⟩)
      have hc2 : (2 : Int) < (((Ly.map fun q => V.ref q.1).length : Nat) : Int) := of_decide_eq_true hc2
      rw [List.length_map] at hc2
      refine ⟨_, rfl, _, rfl, _, _, rfl, .inl ⟨_, hLy.sq, rfl⟩, _, _, rfl, rfl, _, rfl, g3, by rw [List.length_map]; omega, by rw [List.length_map]; omega, fun r H4 e4 r0 r1 => ⟨_, _, rfl, rfl, ?_⟩⟩
      have g4 := e4.g g3
      obtain ⟨A1, eA1, sA1, lA1⟩ := cutV_map (fun q : Addr × Pl => V.ref q.1) Ly none (some (1 + r))
      obtain ⟨A2, eA2, sA2, lA2⟩ := cutV_map (fun q : Addr × Pl => V.ref q.1) Ly (some (1 + r + 1)) none
      refine ⟨_, rfl, _, rfl, _, rfl, y3, _, rfl, (e4.li hLy).sq, fun p1 hp1 => ?_⟩
      rw [eA1]
      have e5 : EX T [sA, cA] H4 (upd H4 p1 (.lst (A1.map fun q => V.ref q.1))) := EX.new hp1
      have h15 : upd H4 p1 (.lst (A1.map fun q => V.ref q.1)) p1 = some (.lst (A1.map fun q => V.ref q.1)) := upd_same
      have n1 := g4.ne hp1
      generalize upd H4 p1 (.lst (A1.map fun q => V.ref q.1)) = H5 at e5 h15 ⊢
      have g5 := e5.g g4
      refine ⟨_, rfl, _, rfl, _, _, rfl, rfl, _, rfl, y3, _, rfl, ((e4.trans e5).li hLy).sq, fun p2 hp2 => ?_⟩
      rw [eA2]
      have e6 : EX T [sA, cA] H5 (upd H5 p2 (.lst (A2.map fun q => V.ref q.1))) := EX.new hp2
      have h26 : upd H5 p2 (.lst (A2.map fun q => V.ref q.1)) p2 = some (.lst (A2.map fun q => V.ref q.1)) := upd_same
      have h16 := e6.k p1 _ h15 n1 (fun ps z => nomatch z)
      generalize upd H5 p2 (.lst (A2.map fun q => V.ref q.1)) = H6 at e6 h16 h26 ⊢
      have g6 := e6.g g5
      refine ⟨p1, p2, _, _, rfl, rfl, h16, h26, by rw [List.length_map, List.length_map]; exact Nat.le_of_lt (small40 (by omega)), fun p3 hp3 => ?_⟩
      rw [← List.map_append]
      have e7 : EX T [sA, cA] H6 (upd H6 p3 (.lst ((A1 ++ A2).map fun q => V.ref q.1))) := EX.new hp3
      have l7 : LI [sA, cA] (upd H6 p3 (.lst ((A1 ++ A2).map fun q => V.ref q.1))) p3 ((A1 ++ A2).map fun q => V.ref q.1) := LI.new g6 hp3
      have e37b := (e4.trans e5).trans e6
      generalize upd H6 p3 (.lst ((A1 ++ A2).map fun q => V.ref q.1)) = H7 at e7 l7 ⊢
      have e37 := e37b.trans e7
      refine key _ _ ⟨paid3, p3, (A1 ++ A2).map (·.2), M3, _, _, _, rfl, e3.trans e37, ⟨⟨fun h => ne_of_none (e37b.k mL _ hm3 nm (fun ps z => nomatch z)) hp3 h.symm, .inr ((e3.trans e37b).back (FrN.none hp3) (g6.ne hp3))⟩, A1 ++ A2, rfl, l7, fun q hq => e37.pl g3 (hLyp q ?_)⟩, by rw [List.length_map, List.length_append]; omega, (fun h => by omega), e37.k mL _ hm3 nm (fun ps z => nomatch z), fun q hq => e37.tup g3 (hM3 q hq), hMl3, hpd3⟩
      rcases List.mem_append.mp hq with h | h
      · exact sA1 q h
      · exact sA2 q h
    clear hm2 e2 g2 e02 hpd3 hMl3 hM3 hm3 hn3 hw3 hy3 ny3 g3 e3
    rintro _ H3 ⟨paid3, y3, way3, M3, o8, o9, o10, rfl, e3, ⟨ny3, hy3⟩, hw3, hn3, hm3, hM3, hMl3, hpd3⟩
    have g3 := e3.g g
    -- kind 2
    refine ⟨_, rfl, _, _, .int _, .int _, int_shaped _, int_shaped _, _, rfl, ?_⟩
    rw [int_eqv]
    refine ite_join (ChP T sA cA pA lA yA mL H kd paid 90 40) ?_ (fun hc key => ?_) (fun _ => ⟨paid3, y3, way3, M3, o8, o9, o10, rfl, e3, ⟨ny3, hy3⟩, by omega, hn3, hm3, hM3, hMl3, hpd3⟩)
    rotate_left
    · have hk2 : kd = 2 := of_decide_eq_true hc
      obtain ⟨Ly, eLy, hLy, hLyp⟩ := id hy3
      have hLyl : Ly.length = way3.length := by rw [eLy, List.length_map]
      obtain ⟨Ly', z, eLz⟩ : ∃ l z, Ly = l ++ [z] := ⟨Ly.dropLast, Ly.getLast (by
        intro h
        rw [h] at eLy
        exact hn3 hk2 eLy), (List.dropLast_concat_getLast _).symm⟩
      refine ⟨_, rfl, _, rfl, _, rfl, y3, _, _, _, rfl, rfl, hLy.sq, (by rw [eLz, List.map_append]; exact atI_last _ _), (by show 1 ≤ sizeLine; decide), fun p1 hp1 => ?_⟩
      have e4 : EX T [sA, cA] H3 (upd H3 p1 (.lst [.ref z.1])) := EX.new hp1
      have h14 : upd H3 p1 (.lst [.ref z.1]) p1 = some (.lst [.ref z.1]) := upd_same
      have hy4 := e4.li hLy
      change EX T [sA, cA] H3 (upd H3 p1 (.lst [V.ref z.1])) at e4
      generalize upd H3 p1 (.lst [.ref z.1]) = H4 at e4 h14 hy4 ⊢
      have g4 := e4.g g3
      refine ⟨y3, p1, _, _, rfl, rfl, hy4.1, h14, by rw [List.length_map]; exact Nat.le_of_lt (small40 (show Ly.length + 1 ≤ 100 by omega)), fun p2 hp2 => ?_⟩
      have e5 : EX T [sA, cA] H4 (upd H4 p2 (.lst ((Ly.map fun q => V.ref q.1) ++ [.ref z.1]))) := EX.new hp2
      have l5 : LI [sA, cA] (upd H4 p2 (.lst ((Ly.map fun q => V.ref q.1) ++ [.ref z.1]))) p2 ((Ly.map fun q => V.ref q.1) ++ [.ref z.1]) := LI.new g4 hp2
      have e35 := e4.trans e5
      refine key _ _ ⟨paid3, p2, (Ly ++ [z]).map (·.2), M3, _, _, _, rfl, e3.trans e35, ⟨⟨fun h => ne_of_none (e4.k mL _ hm3 nm (fun ps z => nomatch z)) hp2 h.symm, .inr ((e3.trans e4).back (FrN.none hp2) (g4.ne hp2))⟩, Ly ++ [z], rfl, by rw [List.map_append]; exact l5, fun q hq => e35.pl g3 (hLyp q ?_)⟩, by rw [List.length_map, List.length_append, List.length_singleton]; omega, fun _ h => ?_, e35.k mL _ hm3 nm (fun ps z => nomatch z), fun q hq => e35.tup g3 (hM3 q hq), hMl3, hpd3⟩
      · rcases List.mem_append.mp hq with h | h
        · exact h
        · rw [List.mem_singleton.mp h, eLz]
          exact List.mem_append_right _ (List.mem_singleton.mpr rfl)
      · rw [List.map_append] at h
        simp at h
    clear hpd3 hMl3 hM3 hm3 hn3 hw3 hy3 ny3 g3 e3
    rintro _ H3 ⟨paid3, y3, way3, M3, o8, o9, o10, rfl, e3, ⟨ny3, hy3⟩, hw3, hn3, hm3, hM3, hMl3, hpd3⟩
    have g3 := e3.g g
    -- kind 3
    refine ⟨_, rfl, _, _, .int _, .int _, int_shaped _, int_shaped _, _, rfl, ?_⟩
    rw [int_eqv]
    refine ite_join2 (ChP T sA cA pA lA yA mL H kd paid 90 40) ?_ (fun hc key => ?_) (fun _ => ⟨paid3, y3, way3, M3, o8, o9, o10, rfl, e3, ⟨ny3, hy3⟩, by omega, hn3, hm3, hM3, hMl3, hpd3⟩)
    rotate_left
    · refine ⟨_, rfl, _, _, rfl, .inl ⟨_, SqL.of hm3, rfl⟩, _, _, rfl, rfl, _, rfl, ?_⟩
      refine ite2 (fun hc2 => ?_) (fun _ => key _ _ ⟨paid3, y3, way3, M3, o8, o9, o10, rfl, e3, ⟨ny3, hy3⟩, by omega, hn3, hm3, hM3, hMl3, hpd3⟩)
      have hc2 : (0 : Int) < (((M3.map fun q => V.ref q.1).length : Nat) : Int) := of_decide_eq_true hc2
      rw [List.length_map] at hc2
      refine ⟨_, rfl, .inl ⟨rfl, _, SqL.of hm3⟩, _, rfl, _, rfl, _, _, rfl, .inl ⟨_, SqL.of hm3, rfl⟩, _, rfl, g3, by rw [List.length_map]; omega, by rw [List.length_map]; omega, fun r H4 e4 r0 r1 => ?_⟩
      rw [List.length_map] at r1
      have hm4 := e4.k mL _ hm3 nm (fun ps z => nomatch z)
      obtain ⟨z, hz⟩ : ∃ z, M3[r.toNat]? = some z := ⟨_, List.getElem?_eq_getElem (by omega)⟩
      refine ⟨mL, _, r, r.toNat, _, rfl, rfl, hm4, by omega, by omega, seqN (by rw [List.length_map]; omega) r0, by rw [List.getElem?_map, hz]; rfl, ?_⟩
      have em : (M3.map fun q => V.ref q.1).eraseIdx r.toNat = (M3.eraseIdx r.toNat).map fun q => V.ref q.1 := eraseIdx_map' _ _ _
      rw [em]
      have hM4 : ∀ q ∈ M3, H4 q.1 = some (.tup (q.2.1.v ++ [.int q.2.2])) := fun q hq => e4.tup g3 (hM3 q hq)
      refine key _ _ ⟨paid3, y3, way3, M3.eraseIdx r.toNat, _, _, _, rfl, (e3.trans e4).put xm hm4 rfl nm, ?_, hw3, hn3, upd_same, fun q hq => ?_, ?_, hpd3⟩
      · obtain ⟨Ly, eLy, hLy, hLyp⟩ := e4.pls g3 hy3
        exact ⟨ny3, Ly, eLy, ⟨by rw [upd_ne ny3.1]; exact hLy.1, hLy.2⟩, fun q hq => by
          unfold PlAt
          rw [upd_ne (ne_of (hLyp q hq) hm4 (by intro z; cases z))]
          exact hLyp q hq⟩
      · have hq' := List.mem_of_mem_eraseIdx hq
        rw [upd_ne (ne_of (hM4 q hq') hm4 (by intro z; cases z))]
        exact hM4 q hq'
      · have := List.length_eraseIdx_le M3 r.toNat
        omega
    clear hpd3 hMl3 hM3 hm3 hn3 hw3 hy3 ny3 g3 e3
    rintro _ H3 ⟨paid3, y3, way3, M3, o8, o9, o10, rfl, e3, ⟨ny3, hy3⟩, hw3, hn3, hm3, hM3, hMl3, hpd3⟩
    have g3 := e3.g g
    -- kinds 4, 5, 6
    refine ⟨_, rfl, _, _, rfl, rfl, _, rfl, ?_⟩
    refine ite_join2 (ChP T sA cA pA lA yA mL H kd paid 90 40) ?_ (fun hc key => ?_) (fun _ => ⟨paid3, y3, way3, M3, o8, o9, o10, rfl, e3, ⟨ny3, hy3⟩, by omega, hn3, hm3, hM3, hMl3, hpd3⟩)
    rotate_left
    · have hk3 : 3 < kd := of_decide_eq_true hc
      have same : ChP T sA cA pA lA yA mL H kd paid 90 40 _ H3 := ⟨paid3, y3, way3, M3, o8, o9, o10, rfl, e3, ⟨ny3, hy3⟩, by omega, hn3, hm3, hM3, hMl3, hpd3⟩
      refine ⟨_, rfl, _, _, rfl, rfl, _, rfl, ?_⟩
      refine ite2 (fun hc2 => ?_) (fun _ => key _ _ same)
      have hk7 : kd < 7 := of_decide_eq_true hc2
      refine ⟨_, rfl, _, _, rfl, .inl ⟨_, SqL.of hm3, rfl⟩, _, _, rfl, rfl, _, rfl, ?_⟩
      refine ite2 (fun hc3 => ?_) (fun _ => key _ _ same)
      have hc3 : (0 : Int) < (((M3.map fun q => V.ref q.1).length : Nat) : Int) := of_decide_eq_true hc3
      rw [List.length_map] at hc3
      refine ⟨_, rfl, _, rfl, _, _, rfl, .inl ⟨_, SqL.of hm3, rfl⟩, _, rfl, g3, by rw [List.length_map]; omega, by rw [List.length_map]; omega, fun r H4 e4 r0 r1 => ?_⟩
      rw [List.length_map] at r1
      have g4 := e4.g g3
      have hm4 := e4.k mL _ hm3 nm (fun ps z => nomatch z)
      obtain ⟨z, hz⟩ : ∃ z, M3[r.toNat]? = some z := ⟨_, List.getElem?_eq_getElem (by omega)⟩
      have hz4 := e4.tup g3 (hM3 z (List.mem_of_getElem? hz))
      refine ⟨_, rfl, _, rfl, mL, _, _, _, rfl, rfl, SqL.of hm4, at_of (j := r.toNat) (by omega) (by rw [List.getElem?_map, hz]; rfl), ?_⟩
      refine ⟨_, rfl, _, rfl, z.1, z.2.1.v ++ [.int z.2.2], rfl, SqT.of hz4, (by show ¬ (0 = 0 ∧ 3 = 4); omega), fun q1 hq1 => ?_⟩
      rw [show cutV (z.2.1.v ++ [.int z.2.2]) none (some 3) = z.2.1.v from rfl]
      have e5 : EX T [sA, cA] H4 (upd H4 q1 (.tup z.2.1.v)) := EX.new hq1
      have hq5 : upd H4 q1 (.tup z.2.1.v) q1 = some (.tup z.2.1.v) := upd_same
      generalize upd H4 q1 (.tup z.2.1.v) = H5 at e5 hq5 ⊢
      have g5 := e5.g g4
      refine ⟨_, rfl, z.1, _, _, _, rfl, rfl, SqT.of (e5.tup g4 hz4), at_of (j := 3) rfl rfl, _, rfl, _, rfl, (by show 3 ≤ sizeLine; decide), fun l3 hl3 => ?_⟩
      obtain ⟨n, hn, _⟩ := at3 (a := -1) (b := 1) (c := -3) (r := kd - 4) (by omega) (by omega)
      have e6 : EX T [sA, cA] H5 (upd H5 l3 (.lst [.int (-1), .int 1, .int (-3)])) := EX.new hl3
      have h36 : upd H5 l3 (.lst [.int (-1), .int 1, .int (-3)]) l3 = some (.lst [.int (-1), .int 1, .int (-3)]) := upd_same
      generalize upd H5 l3 (.lst [.int (-1), .int 1, .int (-3)]) = H6 at e6 h36 ⊢
      have g6 := e6.g g5
      refine ⟨_, rfl, _, _, rfl, rfl, l3, _, _, _, rfl, rfl, SqL.of h36, hn, _, _, rfl, rfl, (by show 1 ≤ sizeLine; decide), fun t2 ht2 => ?_⟩
      have e7 : EX T [sA, cA] H6 (upd H6 t2 (.tup [.int (z.2.2 + n)])) := EX.new ht2
      have ht7 : upd H6 t2 (.tup [.int (z.2.2 + n)]) t2 = some (.tup [.int (z.2.2 + n)]) := upd_same
      have hq7 := e7.tup g6 (e6.tup g5 hq5)
      generalize upd H6 t2 (.tup [.int (z.2.2 + n)]) = H7 at e7 ht7 hq7 ⊢
      have g7 := e7.g g6
      refine ⟨q1, t2, _, _, rfl, rfl, SqT.of hq7, SqT.of ht7, (by intro z; cases z), (by show 4 ≤ sizeLine; decide), (fun h => nomatch h), fun _ t3 ht3 => ?_⟩
      have e8 : EX T [sA, cA] H7 (upd H7 t3 (.tup (z.2.1.v ++ [.int (z.2.2 + n)]))) := EX.new ht3
      have ht8 : upd H7 t3 (.tup (z.2.1.v ++ [.int (z.2.2 + n)])) t3 = some (.tup (z.2.1.v ++ [.int (z.2.2 + n)])) := upd_same
      generalize upd H7 t3 (.tup (z.2.1.v ++ [.int (z.2.2 + n)])) = H8 at e8 ht8 ⊢
      have e38 := (((e4.trans e5).trans e6).trans e7).trans e8
      have hm8 := e38.k mL _ hm3 nm (fun ps z => nomatch z)
      have hM8 : ∀ q ∈ M3, H8 q.1 = some (.tup (q.2.1.v ++ [.int q.2.2])) := fun q hq => e38.tup g3 (hM3 q hq)
      refine ⟨_, rfl, _, rfl, mL, _, _, r.toNat, rfl, rfl, hm8, ixNr (by rw [List.length_map]; omega) r0, ?_⟩
      have em : (M3.map fun q => V.ref q.1).set r.toNat (.ref t3) = (M3.set r.toNat (t3, z.2.1, z.2.2 + n)).map fun q => V.ref q.1 := by rw [List.map_set]
      rw [em]
      refine key _ _ ⟨paid3, y3, way3, M3.set r.toNat (t3, z.2.1, z.2.2 + n), _, _, _, rfl, (e3.trans e38).put xm hm8 rfl nm, ?_, by omega, hn3, upd_same, fun q hq => ?_, by rw [List.length_set]; omega, hpd3⟩
      · obtain ⟨Ly, eLy, hLy, hLyp⟩ := e38.pls g3 hy3
        exact ⟨ny3, Ly, eLy, ⟨by rw [upd_ne ny3.1]; exact hLy.1, hLy.2⟩, fun q hq => by
          unfold PlAt
          rw [upd_ne (ne_of (hLyp q hq) hm8 (by intro z; cases z))]
          exact hLyp q hq⟩
      · have : H8 q.1 = some (.tup (q.2.1.v ++ [.int q.2.2])) := by
          rcases List.mem_or_eq_of_mem_set hq with h | h
          · exact hM8 q h
          · rw [h]
            exact ht8
        rw [upd_ne (ne_of this hm8 (by intro z; cases z))]
        exact this
    clear hpd3 hMl3 hM3 hm3 hn3 hw3 hy3 ny3 g3 e3
    rintro _ H3 ⟨paid3, y3, way3, M3, o8, o9, o10, rfl, e3, ⟨ny3, hy3⟩, hw3, hn3, hm3, hM3, hMl3, hpd3⟩
    have g3 := e3.g g
    -- kind 7
    refine ⟨_, rfl, _, _, .int _, .int _, int_shaped _, int_shaped _, _, rfl, ?_⟩
    rw [int_eqv]
    refine ite_join (ChP T sA cA pA lA yA mL H kd paid 90 41) ?_ (fun hc key => ?_) (fun _ => ⟨paid3, y3, way3, M3, o8, o9, o10, rfl, e3, ⟨ny3, hy3⟩, hw3, hn3, hm3, hM3, by omega, hpd3⟩)
    rotate_left
    · have hk7 : kd = 7 := of_decide_eq_true hc
      have hpd := hpd3 (by omega)
      obtain ⟨Lp, eLp, hLp, hLpp⟩ := e3.pls g hps
      have hLpl : Lp.length = ps.length := by rw [eLp, List.length_map]
      have hpos : 0 < ps.length := List.length_pos_iff.mpr hpne
      refine ⟨_, rfl, _, rfl, _, rfl, _, _, rfl, .inl ⟨_, hLp.sq, rfl⟩, _, rfl, g3, by rw [List.length_map]; omega, by rw [List.length_map]; omega, fun r H4 e4 r0 r1 => ?_⟩
      rw [List.length_map] at r1
      have g4 := e4.g g3
      have hm4 := e4.k mL _ hm3 nm (fun ps z => nomatch z)
      obtain ⟨z, hz⟩ : ∃ z, Lp[r.toNat]? = some z := ⟨_, List.getElem?_eq_getElem (by omega)⟩
      have hz4 := e4.pl g3 (hLpp z (List.mem_of_getElem? hz))
      refine ⟨lA, _, _, _, rfl, rfl, (e4.li hLp).sq, at_of (j := r.toNat) (by omega) (by rw [List.getElem?_map, hz]; rfl), ?_⟩
      refine ⟨_, rfl, .inl ⟨rfl, _, SqL.of hm4⟩, _, rfl, _, rfl, _, rfl, _, _, rfl, rfl, _, rfl, g4, by omega, by omega, fun r2 H5 e5 _ _ => ⟨(by show 1 ≤ sizeLine; decide), fun t ht => ?_⟩⟩
      have g5 := e5.g g4
      have e6 : EX T [sA, cA] H5 (upd H5 t (.tup [.int r2])) := EX.new ht
      have ht6 : upd H5 t (.tup [.int r2]) t = some (.tup [.int r2]) := upd_same
      have hz6 := (e5.trans e6).pl g4 hz4
      generalize upd H5 t (.tup [.int r2]) = H6 at e6 ht6 hz6 ⊢
      have g6 := e6.g g5
      refine ⟨z.1, t, _, _, rfl, rfl, SqT.of hz6, SqT.of ht6, (by intro z; cases z), (by show 4 ≤ sizeLine; decide), (fun h => nomatch h), fun _ t3 ht3 => ?_⟩
      have e7 : EX T [sA, cA] H6 (upd H6 t3 (.tup (z.2.v ++ [.int r2]))) := EX.new ht3
      have ht7 : upd H6 t3 (.tup (z.2.v ++ [.int r2])) t3 = some (.tup (z.2.v ++ [.int r2])) := upd_same
      generalize upd H6 t3 (.tup (z.2.v ++ [.int r2])) = H7 at e7 ht7 ⊢
      have e37 := ((e4.trans e5).trans e6).trans e7
      have hm7 := e37.k mL _ hm3 nm (fun ps z => nomatch z)
      have hM7 : ∀ q ∈ M3, H7 q.1 = some (.tup (q.2.1.v ++ [.int q.2.2])) := fun q hq => e37.tup g3 (hM3 q hq)
      refine ⟨mL, _, _, rfl, rfl, hm7, by rw [List.length_map]; exact small40 (by omega), key _ _ ⟨paid3, y3, way3, M3 ++ [(t3, z.2, r2)], _, _, _, rfl, (e3.trans e37).put xm hm7 rfl nm, ?_, hw3, hn3, by rw [upd_same, List.map_append]; rfl, fun q hq => ?_, by rw [List.length_append, List.length_singleton]; omega, hpd3⟩⟩
      · obtain ⟨Ly, eLy, hLy, hLyp⟩ := e37.pls g3 hy3
        exact ⟨ny3, Ly, eLy, ⟨by rw [upd_ne ny3.1]; exact hLy.1, hLy.2⟩, fun q hq => by
          unfold PlAt
          rw [upd_ne (ne_of (hLyp q hq) hm7 (by intro z; cases z))]
          exact hLyp q hq⟩
      · have : H7 q.1 = some (.tup (q.2.1.v ++ [.int q.2.2])) := by
          rcases List.mem_append.mp hq with h | h
          · exact hM7 q h
          · rw [List.mem_singleton.mp h]
            exact ht7
        rw [upd_ne (ne_of this hm7 (by intro z; cases z))]
        exact this
    clear hpd3 hMl3 hM3 hm3 hn3 hw3 hy3 ny3 g3 e3
    rintro _ H3 ⟨paid3, y3, way3, M3, o8, o9, o10, rfl, e3, ⟨ny3, hy3⟩, hw3, hn3, hm3, hM3, hMl3, hpd3⟩
    have g3 := e3.g g
    refine ⟨_, rfl, _, rfl, _, rfl, _, rfl, (by show 4 ≤ sizeLine; decide), fun a ha => ?_⟩
    have e4 : EX T [sA, cA] H3 (upd H3 a (.tup [.str "price", .int paid3, .ref y3, .ref mL])) := EX.new ha
    refine k a paid3 way3 (M3.map (·.2)) _ (e3.trans e4) ⟨y3, mL, upd_same, e4.pls g3 hy3, M3, rfl, ⟨e4.k mL _ hm3 nm (fun ps z => nomatch z), nm⟩, fun q hq => e4.tup g3 (hM3 q hq)⟩ (by omega) (by rw [List.length_map]; omega) ?_
    intro D xs hD hav n y m hym
    rw [upd_same] at hym
    cases hym
    refine ⟨?_, fun h => ?_⟩
    · rcases ny3.2 with h | h
      · rw [h]
        exact (hav _ _ _ hPo).1
      · intro z
        rw [z] at h
        obtain ⟨ps, hps⟩ := h _ hD
        cases hps
    · rw [h, hD] at hmL
      cases hmL
end
end K76
namespace K76
open PySem PySem.Spec PyProof.Rows L2 LamX
def spLMadeUp (C : Addr) (T : TbT) (sA cA : Addr) : Sp := fun vs H Q _ => ∃ (wA bA eA lA : Addr) (W : Wd) (s e : Pl) (ps : List Pl), vs = [.ref sA, .ref wA, .ref bA, .ref eA, .ref lA] ∧ Gd T [sA, cA] H ∧ W.Ok ∧ WdAt C [sA, cA] H wA W ∧ PlAt H bA s ∧ PlAt H eA e ∧ W.fl s ∧ PlsAt [sA, cA] H lA ps ∧ AllPls W ps ∧
  ∀ (a : Addr) (paid : Int) (way : List Pl) (marks : List (Pl × Int)) (H' : Hp), EX T [sA, cA] H H' → PaperAt [sA, cA] H' a paid way marks → way.length ≤ 100 → marks.length ≤ 100 → Q (.ref a) H'
theorem wcost_snoc {α : Type} {J : α → α → Option Int} {fl : α → Prop} {l : List α} {x q : α} {t c : Int} (h : wcost J fl (l ++ [x]) t) (hq : fl q) (hJ : J x q = some c) : wcost J fl ((l ++ [x]) ++ [q]) (t + c) := by
  obtain ⟨h1, p, r, h2, h3⟩ := h
  refine ⟨fun y hy => ?_, p, r ++ [q], by rw [h2]; rfl, ?_⟩
  · rcases List.mem_append.mp hy with h | h
    · exact h1 y h
    · rw [List.mem_singleton.mp h]
      exact hq
  · have hlen : l.length = r.length := by
      have := congrArg List.length h2
      rw [List.length_append, List.length_singleton, List.length_cons] at this
      omega
    have a1 : wl J p ((r ++ [q]).take r.length) = some t := by
      rw [List.take_left]
      exact h3
    have a2 : (p :: (r ++ [q]))[r.length]? = some x := by
      have : p :: (r ++ [q]) = (l ++ [x]) ++ [q] := by rw [h2]; rfl
      rw [this, List.append_assoc, ← hlen, List.getElem?_append_right (Nat.le_refl _)]
      simp
    have a3 : (r ++ [q])[r.length]? = some q := by
      rw [List.getElem?_append_right (Nat.le_refl _)]
      simp
    have := (wl_take a1 a2 a3).1 c hJ
    rw [List.take_of_length_le (by rw [List.length_append, List.length_singleton]; exact Nat.le_refl _)] at this
    exact this
section
variable {P : Program} {w : World} {K : PySem.W.Frag} {mg : Str → Option Value} {base : Heap} {T : TbT} {G C : Addr}
def nLMadeUp : List Str := ["_law_state_here", "_law_world", "_law_start", "_law_goal", "_law_places_here", "_law_way", "_law_k", "_law_row", "_law_paid", "_law_low", "_law_marks", "_law_place", "_law_far"]
theorem scLMadeUp : FnScope nLMadeUp ["_law_state_here", "_law_world", "_law_start", "_law_goal", "_law_places_here"] (defScope sLMadeUp) := ⟨rfl, rfl, rfl, by decide +kernel, rfl, by decide +kernel, by decide +kernel⟩
theorem ok_lmade_up {f : Addr} {fd : FuncData} (F : FnP K "_law_made_up" "_law_made_up" sLMadeUp f fd) (mR : mg "range" = none) (mLe : mg "len" = none) (mA : mg "abs" = none) (mM : mg "min" = none) (sA cA : Addr) (DD : Df P w K mg base 1 "_law_draw" ["_law_state_here", "_law_many"] (spDraw T sA cA))
    (DS : Df P w K mg base 3 "_law_steps" ["_law_world", "_law_place"] (spLSteps C T [sA, cA])) (DW : Df P w K mg base 3 "_law_way_cost" ["_law_world", "_law_way", "_law_places_here"] (spLWayCost C T [sA, cA])) :
    FnOk P w K mg base CX0 4 f fd ["_law_state_here", "_law_world", "_law_start", "_law_goal", "_law_places_here"] (spLMadeUp C T sA cA) := by
  refine fn_rule F scLMadeUp (fun vs H Q E h => ?_) (fun cdv A outer s0 H vs Q E hr h => ?_)
  · obtain ⟨wA, bA, eA, lA, W, s, e, ps, rfl, _⟩ := h
    rfl
  · obtain ⟨wA, bA, eA, lA, W, s, e, ps, rfl, g, hW, hWd, hs, he, hfl, hps, hall, k⟩ := h
    have hr1 : Room 1 (A.deeper (envOfC "_law_made_up" (defScope sLMadeUp) s0.heap.objs.size f cdv)) := hr.mono (by decide)
    refine ⟨_, pss_cons (ps_set (i := 5) scLMadeUp.nd rfl (.inl rfl) (pe_lst (pa_cons (pv 2) pa_nil)))
      (pss_cons (ps_for PassesOwn.never rfl (pi_range1 rfl mR (pa_cons pe_int pa_nil)) (pg_name (i := 6) scLMadeUp.nd rfl (.inl rfl))
        (pss_cons (ps_set (i := 7) scLMadeUp.nd rfl (.inl rfl) (pe_df DS hr rfl (pa_cons (pv 1) (pa_cons (pe_ix ix_list (pv 5) (pe_un un_neg pe_int) (fun _ _ => rfl)) pa_nil))))
        (pss_one (ps_if (PW.pt (pw_and (pt_cmpR (op_neD hr.units) (pe_ix ix_list (pv 5) (pe_un un_neg pe_int) (fun _ _ => rfl)) (pv 3) (nomark _)) (pw_and1 (pt_cmpR op_gt (pe_callB call_len (by rfl) mLe (by decide +kernel) (pa_cons (pv 7) pa_nil)) pe_int (nomark _)))))
          (pss_one (ps_expr (pe_bm PySem.F.plainAttrs_list PySem.F.slot_list_append PySem.F.type_list_append mt_append (pv 5) (pa_cons (pe_ix ix_tup (pe_ix ix_list (pv 7) (pe_df DD hr1 rfl (pa_cons (pv 0) (pa_cons (pe_callB call_len (by rfl) mLe (by decide +kernel) (pa_cons (pv 7) pa_nil)) pa_nil))) (fun _ _ => rfl)) pe_int (fun _ _ => rfl)) pa_nil)))) pss_nil))))
      (pss_cons (ps_set (i := 8) scLMadeUp.nd rfl (.inl rfl) (pe_df DW hr rfl (pa_cons (pv 1) (pa_cons (pv 5) (pa_cons (pv 4) pa_nil)))))
      (pss_cons (ps_set (i := 9) scLMadeUp.nd rfl (.inl rfl) (pe_df DD hr1 rfl (pa_cons (pv 0) (pa_cons pe_int pa_nil))))
      (pss_cons (ps_set (i := 10) scLMadeUp.nd rfl (.inl rfl) (pe_lst pa_nil))
      (pss_cons (ps_for PassesOwn.never rfl (pi_list (pv 4)) (pg_name (i := 11) scLMadeUp.nd rfl (.inl rfl))
        (pss_one (ps_if (pt_cmpR (op_eqD hr.units) (pe_df DD hr1 rfl (pa_cons (pv 0) (pa_cons pe_int pa_nil))) pe_int (nomark _))
          (pss_cons (ps_set (i := 12) scLMadeUp.nd rfl (.inl rfl) (pe_op op_add (pe_callB call_abs (by rfl) mA (by decide +kernel) (pa_cons (pe_op op_sub (pe_ix ix_tup (pv 11) pe_int (fun _ _ => rfl)) (pe_ix ix_tup (pv 2) pe_int (fun _ _ => rfl))) pa_nil)) (pe_callB call_abs (by rfl) mA (by decide +kernel) (pa_cons (pe_op op_sub (pe_ix ix_tup (pv 11) pe_int (fun _ _ => rfl)) (pe_ix ix_tup (pv 2) pe_int (fun _ _ => rfl))) pa_nil))))
          (pss_one (ps_expr (pe_bm PySem.F.plainAttrs_list PySem.F.slot_list_append PySem.F.type_list_append mt_append (pv 10) (pa_cons (pe_op op_catT (pv 11) (pe_tup (pa_cons (pe_callB (call_min2 rfl) (by rfl) mM (by decide +kernel) (pa_cons (pv 8) (pa_cons (pe_op op_sub (pe_op op_mul pe_int (pv 12)) (pv 9)) pa_nil))) pa_nil))) pa_nil))))) pss_nil)))
      (pss_one (ps_ret (pe_tup (pa_cons pe_str (pa_cons (pv 8) (pa_cons (pv 5) (pa_cons (pv 10) pa_nil)))))))))))), ?_⟩
    refine ⟨_, rfl, (by show 1 ≤ sizeLine; decide), fun yA hyA => ?_⟩
    have ny := g.ne hyA
    have xy : FrN H yA := FrN.none hyA
    have e1 : EX T [sA, cA] H (upd H yA (.lst [.ref bA])) := EX.new hyA
    have hy1 : upd H yA (.lst [.ref bA]) yA = some (.lst (([] ++ [(bA, s)] : List (Addr × Pl)).map fun q => V.ref q.1)) := upd_same
    generalize upd H yA (.lst [.ref bA]) = H1 at e1 hy1 ⊢
    refine ⟨_, rfl, by decide, by decide, for_range (fun i σ H' => EX T [sA, cA] H H' ∧ ∃ (M : List (Addr × Pl)) (a : Addr) (x : Pl) (t : Int) (o6 o7 : Option V), σ = [some (.ref sA), some (.ref wA), some (.ref bA), some (.ref eA), some (.ref lA), some (.ref yA), o6, o7, none, none, none, none, none] ∧ H' yA = some (.lst ((M ++ [(a, x)]).map fun q => V.ref q.1)) ∧
      (∀ q ∈ M ++ [(a, x)], PlAt H' q.1 q.2) ∧ wcost W.J W.fl (M.map (·.2) ++ [x]) t ∧ M.length ≤ i ∧ ((M ++ [(a, x)]).map (·.2)).head? = some s) ⟨e1, [], bA, s, 0, none, none, rfl, hy1, fun q hq => ?_, ⟨fun y hy => ?_, s, [], rfl, rfl⟩, Nat.le_refl 0, rfl⟩ ?_ ?_⟩
    · rw [List.nil_append, List.mem_singleton] at hq
      rw [hq]
      exact e1.pl g hs
    · have hy : y ∈ [s] := hy
      rw [List.mem_singleton.mp hy]
      exact hfl
    · rintro i σ H2 hi ⟨e2, M, a, x, t, o6, o7, rfl, hy2, hM2, hwc, hMl, hhd⟩
      have hi : i < 12 := hi
      have g2 := e2.g g
      have hax : PlAt H2 a x := hM2 (a, x) (List.mem_append_right _ (List.mem_singleton.mpr rfl))
      have hat : atI ((M ++ [(a, x)]).map fun q => V.ref q.1) (-1) = some (.ref a) := by rw [List.map_append]; exact atI_last _ _
      refine ⟨_, rfl, _, rfl, _, rfl, yA, _, _, _, rfl, rfl, SqL.of hy2, hat, wA, a, W, x, rfl, g2, hW, e2.wd g hWd, hax, fun l es H3 e3 hst hes => ?_⟩
      obtain ⟨Ls, eLs, hLs, hLst⟩ := hst
      have e23 := e2.trans e3
      have g3 := e23.g g
      have hy3 := e3.k yA _ hy2 ny (fun ps z => nomatch z)
      have hM3 : ∀ q ∈ M ++ [(a, x)], PlAt H3 q.1 q.2 := fun q hq => e3.pl g2 (hM2 q hq)
      have stay : ∀ H', EX T [sA, cA] H3 H' → H' yA = some (.lst ((M ++ [(a, x)]).map fun q => V.ref q.1)) → EX T [sA, cA] H H' ∧ (∀ q ∈ M ++ [(a, x)], PlAt H' q.1 q.2) := fun H' e _ => ⟨e23.trans e, fun q hq => e.pl g3 (hM3 q hq)⟩
      refine ⟨_, rfl, _, rfl, yA, _, _, _, rfl, rfl, SqL.of hy3, hat, _, rfl, _, _, (e3.pl g2 hax).dp, (e23.pl g he).dp, plD_shaped _, plD_shaped _, _, rfl, ?_⟩
      refine iteB (fun hc => ?_) (fun hc => ⟨e23, M, a, x, t, _, _, rfl, hy3, hM3, hwc, by omega, hhd⟩)
      refine ⟨_, rfl, _, _, rfl, .inl ⟨_, hLs.sq, rfl⟩, _, _, rfl, rfl, _, rfl, ?_⟩
      refine ite2 (fun hc2 => ?_) (fun _ => ⟨e23, M, a, x, t, _, _, rfl, hy3, hM3, hwc, by omega, hhd⟩)
      have hc2 : (0 : Int) < (((Ls.map fun q => V.ref q.1).length : Nat) : Int) := of_decide_eq_true hc2
      rw [List.length_map] at hc2
      have hLsl : Ls.length ≤ 100 := by
        have := hes.1
        rw [eLs, List.length_map] at this
        exact this
      refine ⟨_, rfl, .inl ⟨rfl, _, SqL.of hy3⟩, _, rfl, _, rfl, _, rfl, _, _, rfl, .inl ⟨_, hLs.sq, rfl⟩, _, rfl, g3, by rw [List.length_map]; omega, by rw [List.length_map]; omega, fun r H4 e4 r0 r1 => ?_⟩
      rw [List.length_map] at r1
      have g4 := e4.g g3
      obtain ⟨u, hu⟩ : ∃ z, Ls[r.toNat]? = some z := ⟨_, List.getElem?_eq_getElem (by omega)⟩
      have hum := List.mem_of_getElem? hu
      have hut := e4.tup g3 (hLst u hum).1
      have hup := e4.pl g3 (hLst u hum).2
      have hE : W.E x u.2.2.1 u.2.2.2 := (hes.2 _ _).mp (by rw [eLs]; exact List.mem_map.mpr ⟨u, hum, rfl⟩)
      have hy4 := e4.k yA _ hy3 ny (fun ps z => nomatch z)
      refine ⟨l, _, _, _, rfl, rfl, (e4.li hLs).sq, at_of (j := r.toNat) (by omega) (by rw [List.getElem?_map, hu]; rfl), u.1, _, _, _, rfl, rfl, SqT.of hut, at_of (j := 0) rfl rfl, yA, _, _, rfl, rfl, hy4, ?_, ?_⟩
      · rw [List.length_map, List.length_append, List.length_singleton]
        exact small40 (by omega)
      · refine ⟨(e23.trans e4).put xy hy4 rfl ny, M ++ [(a, x)], u.2.1, u.2.2.1, t + u.2.2.2, _, _, rfl, ?_, fun q hq => ?_, ?_, ?_, ?_⟩
        · rw [upd_same, List.map_append (l₁ := M ++ [(a, x)])]
          rfl
        · have : PlAt H4 q.1 q.2 := by
            rcases List.mem_append.mp hq with h | h
            · exact e4.pl g3 (hM3 q h)
            · rw [List.mem_singleton.mp h]
              exact hup
          unfold PlAt
          rw [upd_ne (ne_of this hy4 (by intro z; cases z))]
          exact this
        · rw [List.map_append]
          exact wcost_snoc hwc hE.1 ((Wd.JE _ _ _).mpr hE)
        · rw [List.length_append, List.length_singleton]
          omega
        · rw [List.map_append, List.head?_append, hhd]
          rfl
    · rintro σ H2 ⟨e2, M, a, x, t, o6, o7, rfl, hy2, hM2, hwc, hMl, hhd⟩
      have hMl : M.length ≤ 12 := hMl
      have g2 := e2.g g
      have hw2 : PlsAt [sA, cA] H2 yA (M.map (·.2) ++ [x]) := ⟨M ++ [(a, x)], by rw [List.map_append]; rfl, ⟨hy2, ny⟩, hM2⟩
      refine ⟨_, rfl, _, rfl, _, rfl, wA, yA, lA, W, M.map (·.2) ++ [x], ps, rfl, g2, hW, e2.wd g hWd, hw2, by rw [List.length_append, List.length_map, List.length_singleton]; omega, e2.pls g hps, hall, fun paid hpaid => ?_, fun hno => absurd hwc (hno t)⟩
      refine ⟨_, rfl, 4, rfl, g2, by decide, by decide, fun low H3 e3 _ _ => ?_⟩
      have g3 := e3.g g2
      have e23 := e2.trans e3
      have hw3 := e3.pls g2 hw2
      refine ⟨Nat.zero_le _, fun mL hmL => ?_⟩
      have nm := g3.ne hmL
      have xm : FrN H3 mL := FrN.none hmL
      have e4 : EX T [sA, cA] H3 (upd H3 mL (.lst [])) := EX.new hmL
      have hm4 : upd H3 mL (.lst []) mL = some (.lst (([] : List (Addr × Pl × Int)).map fun q => V.ref q.1)) := upd_same
      generalize upd H3 mL (.lst []) = H4 at e4 hm4 ⊢
      obtain ⟨Lp, eLp, hLp, hLpp⟩ := e23.pls g hps
      have hLpl : Lp.length ≤ 40 := by
        have := hall.len
        rw [eLp, List.length_map] at this
        exact this
      refine ⟨_, rfl, lA, rfl, ⟨_, (e4.li hLp).sq⟩, for_list (K := K) (a := lA) (xs := Lp.map fun q => V.ref q.1) (fun i σ H' => EX T [sA, cA] H3 H' ∧ ∃ (N : List (Addr × Pl × Int)) (o11 o12 : Option V), σ = [some (.ref sA), some (.ref wA), some (.ref bA), some (.ref eA), some (.ref lA), some (.ref yA), o6, o7, some (.int paid), some (.int low), some (.ref mL), o11, o12] ∧
        H' mL = some (.lst (N.map fun q => V.ref q.1)) ∧ (∀ q ∈ N, H' q.1 = some (.tup (q.2.1.v ++ [.int q.2.2]))) ∧ N.length ≤ i) ⟨e4, [], none, none, rfl, hm4, (fun q hq => nomatch hq), Nat.le_refl 0⟩ (fun i σ H' _ h => (h.1.li hLp).sq) ?_ ?_⟩
      · rintro i y σ H5 hi ⟨e5, N, o11, o12, rfl, hm5, hN5, hNl⟩
        have hi40 := (List.getElem?_eq_some_iff.mp hi).1
        rw [List.length_map] at hi40
        rw [List.getElem?_map] at hi
        cases ez : Lp[i]? with
        | none => rw [ez] at hi; cases hi
        | some z =>
          rw [ez] at hi
          obtain rfl : V.ref z.1 = y := Option.some.inj hi
          have g5 := e5.g g3
          refine ⟨_, rfl, 2, rfl, g5, by decide, by decide, fun r H6 e6 _ _ => ⟨_, _, .int _, .int _, int_shaped _, int_shaped _, _, rfl, ?_⟩⟩
          rw [int_eqv]
          have e56 := e5.trans e6
          have g6 := e6.g g5
          have hm6 := e6.k mL _ hm5 nm (fun ps z => nomatch z)
          have hN6 : ∀ q ∈ N, H6 q.1 = some (.tup (q.2.1.v ++ [.int q.2.2])) := fun q hq => e6.tup g5 (hN5 q hq)
          refine ite2 (fun _ => ?_) (fun _ => ⟨e56, N, _, _, rfl, hm6, hN6, by omega⟩)
          have hz6 := e56.pl g3 (hLpp z (List.mem_of_getElem? ez))
          have hs6 := (e23.trans e56).pl g hs
          refine ⟨_, rfl, z.1, _, _, _, rfl, rfl, SqT.of hz6, at_of (j := 0) rfl rfl, _, rfl, bA, _, _, _, rfl, rfl, SqT.of hs6, at_of (j := 0) rfl rfl, _, _, rfl, rfl, _, rfl, ?_⟩
          refine ⟨_, rfl, z.1, _, _, _, rfl, rfl, SqT.of hz6, at_of (j := 1) rfl rfl, _, rfl, bA, _, _, _, rfl, rfl, SqT.of hs6, at_of (j := 1) rfl rfl, _, _, rfl, rfl, _, rfl, _, _, rfl, rfl, ?_⟩
          refine ⟨_, rfl, .inl ⟨rfl, _, SqL.of hm6⟩, _, rfl, _, rfl, _, rfl, _, _, rfl, rfl, .inl ⟨by decide, by decide⟩, _, rfl, _, _, rfl, rfl, _, _, rfl, ?_⟩
          generalize hn : (if _ < paid then _ else paid) = n
          refine ⟨(by show 1 ≤ sizeLine; decide), fun t1 ht1 => ?_⟩
          have e7 : EX T [sA, cA] H6 (upd H6 t1 (.tup [.int n])) := EX.new ht1
          have ht7 : upd H6 t1 (.tup [.int n]) t1 = some (.tup [.int n]) := upd_same
          have hz7 := e7.pl g6 hz6
          generalize upd H6 t1 (.tup [.int n]) = H7 at e7 ht7 hz7 ⊢
          have g7 := e7.g g6
          refine ⟨z.1, t1, _, _, rfl, rfl, SqT.of hz7, SqT.of ht7, (by intro z; cases z), (by show 4 ≤ sizeLine; decide), (fun h => nomatch h), fun _ t2 ht2 => ?_⟩
          have e8 : EX T [sA, cA] H7 (upd H7 t2 (.tup (z.2.v ++ [.int n]))) := EX.new ht2
          have ht8 : upd H7 t2 (.tup (z.2.v ++ [.int n])) t2 = some (.tup (z.2.v ++ [.int n])) := upd_same
          generalize upd H7 t2 (.tup (z.2.v ++ [.int n])) = H8 at e8 ht8 ⊢
          have e68 := e7.trans e8
          have hm8 := e68.k mL _ hm6 nm (fun ps z => nomatch z)
          have hN8 : ∀ q ∈ N, H8 q.1 = some (.tup (q.2.1.v ++ [.int q.2.2])) := fun q hq => e68.tup g6 (hN6 q hq)
          refine ⟨mL, _, _, rfl, rfl, hm8, by rw [List.length_map]; exact small40 (by omega), (e56.trans e68).put xm hm8 rfl nm, N ++ [(t2, z.2, n)], _, _, rfl, by rw [upd_same, List.map_append]; rfl, fun q hq => ?_, by rw [List.length_append, List.length_singleton]; omega⟩
          have : H8 q.1 = some (.tup (q.2.1.v ++ [.int q.2.2])) := by
            rcases List.mem_append.mp hq with h | h
            · exact hN8 q h
            · rw [List.mem_singleton.mp h]
              exact ht8
          rw [upd_ne (ne_of this hm8 (by intro z; cases z))]
          exact this
      · rintro σ H5 ⟨e5, N, o11, o12, rfl, hm5, hN5, hNl⟩
        rw [List.length_map] at hNl
        have g5 := e5.g g3
        refine ⟨_, rfl, _, rfl, _, rfl, (by show 4 ≤ sizeLine; decide), fun p hp => ?_⟩
        have e6 : EX T [sA, cA] H5 (upd H5 p (.tup [.str "price", .int paid, .ref yA, .ref mL])) := EX.new hp
        exact k p paid (M.map (·.2) ++ [x]) (N.map (·.2)) _ (e23.trans (e5.trans e6)) ⟨yA, mL, upd_same, e6.pls g5 (e5.pls g3 hw3), N, rfl, ⟨e6.k mL _ hm5 nm (fun ps z => nomatch z), nm⟩, fun q hq => e6.tup g5 (hN5 q hq)⟩ (by rw [List.length_append, List.length_map, List.length_singleton]; omega) (by rw [List.length_map]; omega)
end
end K76
namespace K76
open PySem PySem.Spec PyProof.Rows L2 LamX
theorem cutH {N : Hp → Prop} {A : Prop} (Pre : Hp → Prop) (x : ∀ H', Pre H' → N H') (h : (∀ H', Pre H' → N H') → A) : A := h x
abbrev PapL := List (Addr × Int × List Pl × List (Pl × Int))
def PapOk (ex : List Addr) (H : Hp) (q : Addr × Int × List Pl × List (Pl × Int)) : Prop := PaperAt ex H q.1 q.2.1 q.2.2.1 q.2.2.2 ∧ q.2.2.1.length ≤ 100 ∧ q.2.2.2.length ≤ 100
theorem PapOk.ext {T : TbT} {ex : List Addr} {H H' : Hp} {q : Addr × Int × List Pl × List (Pl × Int)} (h : PapOk ex H q) (g : Gd T ex H) (e : EX T ex H H') : PapOk ex H' q := ⟨e.paper g h.1, h.2⟩
theorem PapOk.av {T : TbT} {ex : List Addr} {H H' : Hp} {D : Addr} {q : Addr × Int × List Pl × List (Pl × Int)} (h : PapOk ex H q) (g : Gd T ex H) (e : EX T ex H H') (a : PapAv D H q.1) : PapAv D H' q.1 := fun n y m hy => by
  obtain ⟨⟨y0, m0, t1, _, _⟩, _⟩ := h
  have := e.tup g t1
  rw [this] at hy
  cases hy
  exact a _ _ _ t1
theorem PapOk.putL {ex : List Addr} {H : Hp} {D : Addr} {xs ys : List V} {q : Addr × Int × List Pl × List (Pl × Int)} (h : PapOk ex H q) (a : PapAv D H q.1) (hD : H D = some (.lst xs)) : PapOk ex (upd H D (.lst ys)) q ∧ PapAv D (upd H D (.lst ys)) q.1 := by
  obtain ⟨⟨y0, m0, t1, ⟨L, l1, l2, l3⟩, ⟨M, k1, k2, k3⟩⟩, hl⟩ := h
  obtain ⟨n1, n2⟩ := a _ _ _ t1
  have tt : ∀ {b zs}, H b = some (.tup zs) → upd H D (.lst ys) b = some (.tup zs) := fun {b zs} hb => by
    rw [upd_ne (ne_of hb hD (by intro z; cases z))]
    exact hb
  refine ⟨⟨⟨y0, m0, tt t1, ⟨L, l1, ⟨by rw [upd_ne n1]; exact l2.1, l2.2⟩, fun z hz => tt (l3 z hz)⟩, ⟨M, k1, ⟨by rw [upd_ne n2]; exact k2.1, k2.2⟩, fun z hz => tt (k3 z hz)⟩⟩, hl⟩, fun n y m hy => ?_⟩
  rw [tt t1] at hy
  cases hy
  exact ⟨n1, n2⟩
theorem bool_shaped (b : Bool) : SeqAt.shaped (.bool b) = true := by
  show ((PyData.bool b).canLay0 && decide ((PyData.bool b).depth ≤ 64)) = true
  simp [PyData.canLay0, PyData.depth]
theorem bool_eqv (b : Bool) : PyData.eqv (.bool b) (.bool b) = true := by
  cases b <;> simp [PyData.eqv]
theorem wl_bound {W : Wd} (hW : W.Ok) : ∀ {r : List Pl} {p : Pl} {t : Int}, wl W.J p r = some t → 0 ≤ t ∧ t ≤ 5000 * r.length
  | [], p, t, h => by
    cases h
    exact ⟨Int.le_refl 0, by simp⟩
  | q :: r, p, t, h => by
    unfold wl at h
    cases e : W.J p q with
    | none => rw [e] at h; cases h
    | some c =>
      rw [e] at h
      cases e2 : wl W.J q r with
      | none => rw [e2] at h; cases h
      | some y =>
        rw [e2] at h
        have h : c + y = t := Option.some.inj h
        have h1 := wl_bound hW e2
        have h2 := hW.cost_pos ((Wd.JE _ _ _).mp e)
        rw [List.length_cons]
        omega
theorem wcost_bound {W : Wd} (hW : W.Ok) {way : List Pl} {paid : Int} (h : wcost W.J W.fl way paid) : 0 ≤ paid ∧ paid ≤ 5000 * way.length := by
  obtain ⟨_, p, r, h1, h2⟩ := h
  have := wl_bound hW h2
  rw [h1, List.length_cons]
  omega
abbrev exS (sp : List Addr → Sp) : Sp := fun vs H Q E => ∃ ex, sp ex vs H Q E
abbrev exSS (sp : Addr → Addr → Sp) : Sp := fun vs H Q E => ∃ a b, sp a b vs H Q E
section
variable {P : Program} {w : World} {K : PySem.W.Frag} {mg : Str → Option Value} {base : Heap} {T : TbT} {G C : Addr}
theorem fn_exS {CX : CXT} {k : Nat} {f : Addr} {fd : FuncData} {ps : List Str} {sp : List Addr → Sp} (F : ∀ ex, FnOk P w K mg base CX k f fd ps (sp ex)) : FnOk P w K mg base CX k f fd ps (exS sp) :=
  ⟨fun vs H Q E ⟨ex, h⟩ => (F ex).len vs H Q E h, fun A outer s H args us vs Q E hr he hb hv ⟨ex, h⟩ => (F ex).run A outer s H args us vs Q E hr he hb hv h⟩
theorem fn_exSS {CX : CXT} {k : Nat} {f : Addr} {fd : FuncData} {ps : List Str} {sp : Addr → Addr → Sp} (F : ∀ a b, FnOk P w K mg base CX k f fd ps (sp a b)) : FnOk P w K mg base CX k f fd ps (exSS sp) :=
  ⟨fun vs H Q E ⟨a, b, h⟩ => (F a b).len vs H Q E h, fun A outer s H args us vs Q E hr he hb hv ⟨a, b, h⟩ => (F a b).run A outer s H args us vs Q E hr he hb hv h⟩
/-- what cheapest_floors tells -/
def ChRes (ex : List Addr) (W : Wd) (s e : Pl) (v : V) (H : Hp) : Prop := (v = .non ∧ ∀ d, ¬ Wk W.E s e d) ∨ ∃ (a : Addr) (paid : Int) (way : List Pl) (marks : List (Pl × Int)), v = .ref a ∧ PaperAt ex H a paid way marks ∧ Taken W.J W.fl s e paid way marks ∧ way.length ≤ 40 ∧ marks.length ≤ 40
def spCheapestV (G C : Addr) (T : TbT) (ex : List Addr) : Sp := fun vs H Q _ => ∃ (gA sA eA : Addr) (W : Wd) (s e : Pl), vs = [.ref gA, .ref sA, .ref eA] ∧ Gd T ex H ∧ W.Ok ∧ GrAt G C ex H gA W ∧ PlAt H sA s ∧ PlAt H eA e ∧ W.fl s ∧
  ∀ (v : V) (H' : Hp), EX T ex H H' → ChRes ex W s e v H' → Q v H'
theorem chV_imp {ex : List Addr} (vs : List V) (H : Hp) (Q : VK) (E : XK) (h : spCheapestV G C T ex vs H Q E) : spCheapest G C T ex vs H Q E := by
  obtain ⟨gA, sA, eA, W, s, e, h1, h2, h3, h4, h5, h6, h7, k⟩ := h
  exact ⟨gA, sA, eA, W, s, e, h1, h2, h3, h4, h5, h6, h7, fun H' e1 h => k .non H' e1 (.inl ⟨rfl, h⟩), fun a paid way marks H' e1 p1 p2 p3 p4 => k _ H' e1 (.inr ⟨a, paid, way, marks, rfl, p1, p2, p3, p4⟩)⟩
/-- the class Ground, as the law sees it -/
structure MkG (P : Program) (w : World) (K : PySem.W.Frag) (mg : Str → Option Value) (base : Heap) (G C : Addr) (T : TbT) : Prop where
  mkr : ∃ f fd, Mk K G f ∧ FnOk P w K mg base CX0 1 f fd ["self", "settings", "floors", "areas", "climb"] (exS (spGInit G C T)) ∧ Binds K fd ["self", "settings", "floors", "areas", "climb"] []
  gl : mg "Ground" = some (.ref G)
def spLaw (K : PySem.W.Frag) (T : TbT) : Sp := fun vs H Q _ => ∃ (a : Addr) (ns : List Int), vs = [.ref a] ∧ SqL K H a (ns.map V.int) ∧ ns.length ≤ 100 ∧ Tabs T H ∧ ∀ H', Q (.bl true) H'
def nLaw : List Str := ["_law_script", "_law_state_here", "_law_world", "_law_ground_here", "_law_places_here", "_law_turn", "_law_start", "_law_goal", "_law_best", "_law_paper", "_law_papers", "_law_one", "_law_told", "_law_k"]
theorem scLaw : FnScope nLaw ["_law_script"] (defScope sLaw) := ⟨rfl, rfl, rfl, by decide +kernel, rfl, by decide +kernel, by decide +kernel⟩
theorem ok_law {f : Addr} {fd : FuncData} (F : FnP K "law" "law" sLaw f fd) (mR : mg "range" = none) (mLe : mg "len" = none) (mIs : mg "isinstance" = none) (mBo : mg "bool" = none) (MG : MkG P w K mg base G C T)
    (DSt : Df P w K mg base 1 "_law_state" ["_law_script"] (spLState K)) (DG : Df P w K mg base 4 "_law_ground" ["_law_state_here"] (exSS (spLGround C T))) (DP : Df P w K mg base 2 "_law_places" ["_law_world"] (exS (spLPlaces C T))) (DD : Df P w K mg base 1 "_law_draw" ["_law_state_here", "_law_many"] (exSS (spDraw T)))
    (DCo : Df P w K mg base 4 "_law_costs" ["_law_world", "_law_start"] (exS (spLCosts C T))) (DCh : Df P w K mg base 6 "cheapest_floors" ["ground", "start", "goal"] (exS (spCheapestV G C T))) (DCk : Df P w K mg base 7 "check_price" ["ground", "start", "goal", "paper"] (exS (spCheckPrice G C T)))
    (DM : Df P w K mg base 4 "_law_made_up" ["_law_state_here", "_law_world", "_law_start", "_law_goal", "_law_places_here"] (exSS (spLMadeUp C T))) (DCg : Df P w K mg base 2 "_law_changed" ["_law_state_here", "_law_paper", "_law_places_here"] (exSS (spLChanged T)))
    (DT : Df P w K mg base 4 "_law_taken" ["_law_world", "_law_start", "_law_goal", "_law_paper", "_law_places_here"] (exS (spLTaken C T))) : FnOk P w K mg base CX0 8 f fd ["_law_script"] (spLaw K T) := by
  obtain ⟨fG, fdG, hMk, hFG, hBi⟩ := MG.mkr
  refine fn_rule F scLaw (fun vs H Q E h => ?_) (fun cdv A outer s0 H vs Q E hr h => ?_)
  · obtain ⟨a, ns, rfl, _⟩ := h
    rfl
  · obtain ⟨a, ns, rfl, hq, hns, hT, kQ⟩ := h
    have hu := hu_of hr
    refine ⟨_, (pss_cons (ps_set (i := 1) scLaw.nd rfl (.inr rfl) (pe_df DSt (hr.mono (by decide)) rfl (pa_cons (pv 0) pa_nil)))
      (pss_cons (ps_set (i := 2) scLaw.nd rfl (.inl rfl) (pe_df DG (hr.mono (by decide)) rfl (pa_cons (pv 1) pa_nil)))
      (pss_cons (ps_set (i := 3) scLaw.nd rfl (.inl rfl) (pe_make hMk hFG (hr.mono (by decide)) rfl MG.gl hBi .nil pass0 (pa_cons (pe_ix ix_list (pv 2) pe_int (fun _ _ => rfl)) (pa_cons (pe_ix ix_list (pv 2) pe_int (fun _ _ => rfl)) (pa_cons (pe_ix ix_list (pv 2) pe_int (fun _ _ => rfl)) (pa_cons (pe_ix ix_list (pv 2) pe_int (fun _ _ => rfl)) pa_nil))))))
      (pss_cons (ps_set (i := 4) scLaw.nd rfl (.inr rfl) (pe_df DP (hr.mono (by decide)) rfl (pa_cons (pv 2) pa_nil)))
      (pss_cons (ps_if (pt_cmpR (op_eqD hr.units) (pe_callB call_len (by rfl) mLe (by decide +kernel) (pa_cons (pv 4) pa_nil)) pe_int (nomark _)) (pss_one (ps_ret pe_bl)) pss_nil)
      (pss_cons (ps_for PassesOwn.never rfl (pi_range1 rfl mR (pa_cons pe_int pa_nil)) (pg_name (i := 5) scLaw.nd rfl (.inl rfl)) (pss_cons (ps_set (i := 6) scLaw.nd rfl (.inl rfl) (pe_ix ix_list (pv 4) (pe_df DD (hr.mono (by decide)) rfl (pa_cons (pv 1) (pa_cons (pe_callB call_len (by rfl) mLe (by decide +kernel) (pa_cons (pv 4) pa_nil)) pa_nil))) (fun _ _ => rfl)))
      (pss_cons (ps_set (i := 7) scLaw.nd rfl (.inl rfl) (pe_ix ix_list (pv 4) (pe_df DD (hr.mono (by decide)) rfl (pa_cons (pv 1) (pa_cons (pe_callB call_len (by rfl) mLe (by decide +kernel) (pa_cons (pv 4) pa_nil)) pa_nil))) (fun _ _ => rfl)))
      (pss_cons (ps_set (i := 8) scLaw.nd rfl (.inl rfl) (pe_df DCo (hr.mono (by decide)) rfl (pa_cons (pv 2) (pa_cons (pv 6) pa_nil))))
      (pss_cons (ps_set (i := 9) scLaw.nd rfl (.inr rfl) (pe_df DCh (hr.mono (by decide)) rfl (pa_cons (pv 3) (pa_cons (pv 6) (pa_cons (pv 7) pa_nil)))))
      (pss_cons (ps_if (pt_cmp (pc_dnotin hu (pv 7) (pv 8))) (pss_one (ps_if (pt_cmp (pc_notN (pv 9))) (pss_one (ps_ret pe_bl)) pss_nil)) (pss_one (ps_if (PW.pt (pw_or (pt_cmp (pc_isN (pv 9))) (pw_or (pt_cmpR (op_neD hr.units) (pe_ix ix_tup (pv 9) pe_int (fun _ _ => rfl)) (pe_dget hu (pv 8) (pv 7) (fun _ _ => rfl)) (nomark _)) (pw_or1 (pt_cmpR op_isnot_bl (pe_df DCk (hr.mono (by decide)) rfl (pa_cons (pv 3) (pa_cons (pv 6) (pa_cons (pv 7) (pa_cons (pv 9) pa_nil))))) pe_bl (nomark _)))))) (pss_one (ps_ret pe_bl)) pss_nil)))
      (pss_cons (ps_set (i := 10) scLaw.nd rfl (.inl rfl) (pe_lst (pa_cons (pe_df DM (hr.mono (by decide)) rfl (pa_cons (pv 1) (pa_cons (pv 2) (pa_cons (pv 6) (pa_cons (pv 7) (pa_cons (pv 4) pa_nil)))))) pa_nil)))
      (pss_cons (ps_if (pt_cmp (pc_notN (pv 9))) (pss_one (ps_set (i := 10) scLaw.nd rfl (.inl rfl) (pe_op op_cat (pv 10) (pe_lc (own := [("_law_k", 13)]) (g := gName 13) (tt := tYes) rfl scLaw.nd (pi_range1 rfl mR (pa_cons pe_int pa_nil)) (blkOk_by (N := nLaw) (sc := defScope sLaw) (by decide +kernel)) (fun _ _ _ _ _ => pg_name (i := 13) scLaw.nd rfl (Or.inl rfl)) (fun _ _ _ _ _ => pts_nil) (fun _ _ _ _ _ => pe_df DCg (hr.mono (by decide)) rfl (pa_cons (pv 1) (pa_cons (pv 9) (pa_cons (pv 4) pa_nil)))))))) pss_nil)
      (pss_one (ps_for PassesOwn.never rfl (pi_list (pv 10)) (pg_name (i := 11) scLaw.nd rfl (.inl rfl)) (pss_cons (ps_set (i := 12) scLaw.nd rfl (.inl rfl) (pe_df DCk (hr.mono (by decide)) rfl (pa_cons (pv 3) (pa_cons (pv 6) (pa_cons (pv 7) (pa_cons (pv 11) pa_nil))))))
      (pss_cons (ps_if (PW.pt (pw_or (pt_not (pt_val (pe_callB call_isi (by rfl) mIs (by decide +kernel) (pa_cons (pv 12) (pa_cons (pe_bltn (v := .ty "bool") (u := .type "bool") rfl mBo (by decide +kernel) rfl) pa_nil))))) (pw_or1 (pt_cmpR (op_neD hr.units) (pv 12) (pe_df DT (hr.mono (by decide)) rfl (pa_cons (pv 2) (pa_cons (pv 6) (pa_cons (pv 7) (pa_cons (pv 11) (pa_cons (pv 4) pa_nil)))))) (nomark _))))) (pss_one (ps_ret pe_bl)) pss_nil)
      (pss_one (ps_if (PW.pt (pw_and (pt_val (pv 12)) (pw_and1 (PW.pt (pw_or (pt_cmp (pc_dnotin hu (pv 7) (pv 8))) (pw_or1 (pt_cmpR (op_neD hr.units) (pe_ix ix_tup (pv 11) pe_int (fun _ _ => rfl)) (pe_dget hu (pv 8) (pv 7) (fun _ _ => rfl)) (nomark _)))))))) (pss_one (ps_ret pe_bl)) pss_nil))))))))))))))
      (pss_one (ps_ret pe_bl)))))))), ?_⟩
    refine ⟨_, rfl, a, ns, rfl, hq, hns, fun sA cA cells seed H1 keep1 hs1 hc1 => ?_⟩
    have g1 : Gd T [sA, cA] H1 := ⟨fun p hp => (hT p hp).ext keep1, fun b hb => by
      rcases List.mem_cons.mp hb with h | h
      · exact ⟨_, by rw [h]; exact hs1⟩
      · rw [List.mem_singleton] at h
        exact ⟨_, by rw [h]; exact hc1⟩, fun s c e => by
      cases e
      exact ⟨⟨seed, hs1⟩, cells, hc1⟩⟩
    refine ⟨_, rfl, sA, cA, rfl, g1, fun wA W H2 e2 hW hWd => ?_⟩
    have g2 := e2.g g1
    obtain ⟨stA, fA, aA, hWl, hS, hF, hA⟩ := id hWd
    refine ⟨_, rfl, wA, _, _, _, rfl, rfl, hWl.sq, at_of (j := 0) rfl rfl, _, rfl, wA, _, _, _, rfl, rfl, hWl.sq, at_of (j := 1) rfl rfl, _, rfl, wA, _, _, _, rfl, rfl, hWl.sq, at_of (j := 2) rfl rfl, _, rfl, wA, _, _, _, rfl, rfl, hWl.sq, at_of (j := 3) rfl rfl, fun gA dx hx hdx hne => ?_⟩
    have e3 : EX T [sA, cA] H2 (upd H2 dx (.own gA)) := EX.new hdx
    have hx3 : upd H2 dx (.own gA) gA = none := by rw [upd_ne hne.symm]; exact hx
    have e3' := e3.trans (EX.new (o := .ins G dx []) hx3)
    refine ⟨[sA, cA], H2, gA, dx, stA, fA, aA, W, rfl, e3', g2, FrN.none hx, g2.ne hx, upd_same, hW, hS, hF, hA, fun H3 e23 hG => ⟨rfl, ?_⟩⟩
    have g3 := e23.g g2
    refine ⟨_, rfl, [sA, cA], wA, W, rfl, g3, hW, e23.wd g2 hWd, fun lA ps H4 e34 hps hall => ?_⟩
    have g4 := e34.g g3
    have hWd4 := (e23.trans e34).wd g2 hWd
    have hG4 := e34.gr g3 hG
    obtain ⟨Lp, eLp, hLp, hLpp⟩ := id hps
    have hLpl : Lp.length = ps.length := by rw [eLp, List.length_map]
    have hpl := hall.len
    refine ⟨_, rfl, _, _, rfl, .inl ⟨_, hLp.sq, rfl⟩, _, _, .int _, .int _, int_shaped _, int_shaped _, _, rfl, ?_⟩
    rw [int_eqv]
    refine ite2 (fun _ => kQ H4) (fun hc => ?_)
    have hpos : 0 < Lp.length := by
      rcases Nat.eq_zero_or_pos Lp.length with h | h
      · exact absurd (decide_eq_true (by rw [List.length_map, h]; rfl)) hc
      · exact h
    have hpne : ps ≠ [] := fun h => by
      rw [h] at hLpl
      rw [hLpl] at hpos
      exact absurd hpos (Nat.lt_irrefl 0)
    refine ⟨_, rfl, by decide, by decide, for_range (fun i σ H' => EX T [sA, cA] H4 H' ∧ ∃ o5 o6 o7 o8 o9 o10 o11 o12 : Option V, σ = [some (.ref a), some (.ref sA), some (.ref wA), some (.ref gA), some (.ref lA), o5, o6, o7, o8, o9, o10, o11, o12, none]) ⟨EX.refl _, none, none, none, none, none, none, none, none, rfl⟩ ?_ ?_⟩
    rotate_left
    · rintro σ H5 ⟨e5, o5, o6, o7, o8, o9, o10, o11, o12, rfl⟩
      exact kQ H5
    rintro i σ H5 hi ⟨e5, o5, o6, o7, o8, o9, o10, o11, o12, rfl⟩
    have g5 := e5.g g4
    have hLp5 := e5.li hLp
    have nn : (Lp.map fun q => V.ref q.1).length = Lp.length := List.length_map _
    refine ⟨_, rfl, _, rfl, _, rfl, _, _, rfl, .inl ⟨_, hLp5.sq, rfl⟩, sA, cA, _, rfl, g5, by rw [nn]; omega, by rw [nn]; omega, fun r H6 e6 r0 r1 => ?_⟩
    rw [nn] at r1
    have g6 := e6.g g5
    obtain ⟨z, hz⟩ : ∃ z, Lp[r.toNat]? = some z := ⟨_, List.getElem?_eq_getElem (by omega)⟩
    refine ⟨lA, _, _, .ref z.1, rfl, rfl, (e6.li hLp5).sq, at_of (j := r.toNat) (by omega) (by rw [List.getElem?_map, hz]; rfl), ?_⟩
    refine ⟨_, rfl, _, rfl, _, rfl, _, _, rfl, .inl ⟨_, (e6.li hLp5).sq, rfl⟩, sA, cA, _, rfl, g6, by rw [nn]; omega, by rw [nn]; omega, fun r' H7 e7 r0' r1' => ?_⟩
    rw [nn] at r1'
    have g7 := e7.g g6
    obtain ⟨z', hz'⟩ : ∃ z, Lp[r'.toNat]? = some z := ⟨_, List.getElem?_eq_getElem (by omega)⟩
    refine ⟨lA, _, _, .ref z'.1, rfl, rfl, (e7.li (e6.li hLp5)).sq, at_of (j := r'.toNat) (by omega) (by rw [List.getElem?_map, hz']; rfl), ?_⟩
    have e47 := (e5.trans e6).trans e7
    have hs7 : PlAt H7 z.1 z.2 := e47.pl g4 (hLpp z (List.mem_of_getElem? hz))
    have he7 : PlAt H7 z'.1 z'.2 := e47.pl g4 (hLpp z' (List.mem_of_getElem? hz'))
    have hfl : W.fl z.2 := (hall.mem _).mp (by rw [eLp]; exact List.mem_map.mpr ⟨z, List.mem_of_getElem? hz, rfl⟩)
    generalize z.1 = bA at hs7 ⊢
    generalize z.2 = s at hs7 hfl
    generalize z'.1 = eA at he7 ⊢
    generalize z'.2 = e at he7
    refine ⟨_, rfl, _, rfl, [sA, cA], wA, bA, W, s, rfl, g7, hW, e47.wd g4 hWd4, hs7, hfl, fun dA best H8 e8 hd8 hbest => ?_⟩
    have e48 := e47.trans e8
    have g8 := e8.g g7
    refine ⟨_, rfl, _, rfl, _, rfl, [sA, cA], gA, bA, eA, W, s, e, rfl, g8, hW, e48.gr g4 hG4, e8.pl g7 hs7, e8.pl g7 he7, hfl, fun v H9 e9 hv => ?_⟩
    have e49 := e48.trans e9
    have e79 := e8.trans e9
    have g9 := e9.g g8
    have hd9 := e9.dT g8 hd8
    have hs9 := e79.pl g7 hs7
    have he9 := e79.pl g7 he7
    have hG9 := e49.gr g4 hG4
    have hWd9 := e49.wd g4 hWd4
    have hps9 := e49.pls g4 hps
    have hde := DGet.t (k := e.k) hd9 he9
    rw [valV_dI] at hde
    have paperOf : ∀ {d : Int}, ChRes [sA, cA] W s e v H9 → lk best e = some d → ∃ (pa : Addr) (way : List Pl) (marks : List (Pl × Int)), v = .ref pa ∧ PaperAt [sA, cA] H9 pa d way marks ∧ Taken W.J W.fl s e d way marks ∧ way.length ≤ 40 ∧ marks.length ≤ 40 := fun {d} hv hd => by
      rcases hv with ⟨_, hno⟩ | ⟨pa, paid, way, marks, hva, hp, ht, h1, h2⟩
      · exact absurd ((hbest.2 e).1 d hd).1 (hno d)
      · have := (ht.dist Wd.JE fun p q c h => Int.le_of_lt (hW.cost_pos h).1).uniq ((hbest.2 e).1 d hd)
        rw [this] at hp ht
        exact ⟨pa, way, marks, hva, hp, ht, h1, h2⟩
    have noPaper : lk best e = none → v = .non := fun hn => by
      rcases hv with ⟨h, _⟩ | ⟨pa, paid, way, marks, hva, hp, ht, _⟩
      · exact h
      · exact absurd (ht.dist Wd.JE fun p q c h => Int.le_of_lt (hW.cost_pos h).1).1 ((hbest.2 e).2 hn paid)
    apply cutH (fun H' => EX T [sA, cA] H9 H')
    rotate_left
    · intro hX
      refine ⟨_, rfl, _, rfl, dA, _, rfl, hde, _, rfl, ?_⟩
      cases eb : lk best e with
      | none =>
        refine ⟨_, rfl, _, rfl, iteNS (noPaper eb) ?_⟩
        exact hX H9 (EX.refl _)
      | some d =>
        rw [eb] at hde
        obtain ⟨pa, way, marks, hva, hp, ht, hwl, hml⟩ := paperOf hv eb
        obtain ⟨yA, mA, hpo, _, _⟩ := id hp
        refine ⟨_, rfl, _, rfl, ?_⟩
        refine ite2 (fun h => absurd ((of_decide_eq_true h).symm.trans hva) (by intro z; cases z)) (fun _ => ?_)
        refine ⟨_, rfl, pa, _, _, _, hva, rfl, SqT.of hpo, at_of (j := 1) rfl rfl, _, rfl, _, rfl, dA, _, rfl, hde, _, _, .int _, .int _, int_shaped _, int_shaped _, _, rfl, ?_⟩
        rw [int_eqv, decide_eq_true rfl]
        refine ⟨_, rfl, _, rfl, _, rfl, _, rfl, [sA, cA], gA, bA, eA, pa, W, s, e, d, way, marks, by rw [hva]; rfl, g9, hW, hG9, hs9, he9, hp, by omega, by omega, fun b H10 e10 hb => ?_⟩
        refine ⟨b, true, rfl, rfl, _, rfl, ?_⟩
        rw [hb.mpr ht]
        exact hX H10 e10
    intro H10 e10
    have g10 := e10.g g9
    have e4A := e49.trans e10
    have hd10 := e10.dT g9 hd9
    have hs10 := e10.pl g9 hs9
    have he10 := e10.pl g9 he9
    have hG10 := e10.gr g9 hG9
    have hWd10 := e10.wd g9 hWd9
    have hps10 := e10.pls g9 hps9
    refine ⟨_, rfl, _, rfl, _, rfl, _, rfl, _, rfl, sA, cA, wA, bA, eA, lA, W, s, e, ps, rfl, g10, hW, hWd10, hs10, he10, hfl, hps10, hall, fun p1 paid1 way1 marks1 H11 e11 hp1 hwl1 hml1 => ⟨(by show 1 ≤ sizeLine; decide), fun l0 hl0 => ?_⟩⟩
    have g11 := e11.g g10
    have e12 : EX T [sA, cA] H11 (upd H11 l0 (.lst [.ref p1])) := EX.new hl0
    have hl12 : LI [sA, cA] (upd H11 l0 (.lst [.ref p1])) l0 (([(p1, paid1, way1, marks1)] : PapL).map fun q => V.ref q.1) := LI.new g11 hl0
    have hp12 := e12.paper g11 hp1
    generalize upd H11 l0 (.lst [.ref p1]) = H12 at e12 hl12 hp12 ⊢
    have g12 := e12.g g11
    have e1012 := e11.trans e12
    refine ⟨_, rfl, _, rfl, ?_⟩
    refine ite_join (fun σ' H' => EX T [sA, cA] H10 H' ∧ ∃ (l : Addr) (Lq : PapL), σ' = [some (.ref a), some (.ref sA), some (.ref wA), some (.ref gA), some (.ref lA), some (.int (0 + (i : Int))), some (.ref bA), some (.ref eA), some (.ref dA), some v, some (.ref l), o11, o12, none] ∧ LI [sA, cA] H' l (Lq.map fun q => V.ref q.1) ∧ ∀ q ∈ Lq, PapOk [sA, cA] H' q)
      ?_ (fun hc key => ?_) (fun _ => ⟨e1012, l0, [(p1, paid1, way1, marks1)], rfl, hl12, fun q hq => by
        rw [List.mem_singleton.mp hq]
        exact ⟨hp12, hwl1, hml1⟩⟩)
    rotate_left
    · obtain ⟨pa, paid, way, marks, hva, hp, ht, hwl, hml⟩ : ∃ (pa : Addr) (paid : Int) (way : List Pl) (marks : List (Pl × Int)), v = .ref pa ∧ PaperAt [sA, cA] H9 pa paid way marks ∧ Taken W.J W.fl s e paid way marks ∧ way.length ≤ 40 ∧ marks.length ≤ 40 := by
        rcases hv with ⟨h, _⟩ | h
        · rw [decide_eq_true h] at hc
          cases hc
        · exact h
      have hb := wcost_bound hW ht.wy
      have hwne : way ≠ [] := fun h => by
        obtain ⟨_, p, r, h1, _⟩ := ht.wy
        rw [h] at h1
        cases h1
      have hp12' := (e10.trans e1012).paper g9 hp
      have hps12 := e1012.pls g10 hps10
      refine ⟨_, rfl, _, rfl, by decide, by decide, fun D hD => ?_⟩
      have nD := g12.ne hD
      refine lc_range (fun j H' => EX T [sA, cA] H12 H' ∧ ∃ Lq : PapL, H' D = some (.lst (Lq.map fun q => V.ref q.1)) ∧ (∀ q ∈ Lq, PapOk [sA, cA] H' q ∧ PapAv D H' q.1) ∧ Lq.length ≤ j) ⟨EX.new hD, [], upd_same, (fun q hq => nomatch hq), Nat.le_refl 0⟩ ?_ ?_
      · rintro j H13 hj ⟨e13, Lq, hD13, hLq, hLql⟩
        have hj : j < 3 := hj
        have g13 := e13.g g12
        refine ⟨rfl, _, rfl, _, rfl, _, rfl, sA, cA, pa, lA, paid, way, ps, marks, by rw [hva]; rfl, g13, e13.paper g12 hp12', hwne, hwl, hml, hb.1, by omega, e13.pls g12 hps12, hpne, hpl, fun p2 paid2 way2 marks2 H14 e14 hp2 hwl2 hml2 hav2 => ?_⟩
        have hD14 := e14.k D _ hD13 nD (fun ps z => nomatch z)
        have hLq14 : ∀ q ∈ Lq, PapOk [sA, cA] H14 q ∧ PapAv D H14 q.1 := fun q hq => ⟨(hLq q hq).1.ext g13 e14, (hLq q hq).1.av g13 e14 (hLq q hq).2⟩
        have hav : PapAv D H14 p2 := by
          refine hav2 D _ hD13 fun n y m hy => ?_
          obtain ⟨y0, m0, t1, ⟨_, _, t2, _⟩, ⟨_, _, t3, _⟩⟩ := hp12'
          rw [(e13.tup g12 t1)] at hy
          cases hy
          exact ⟨ne_of_none t2.1 hD, ne_of_none t3.1 hD⟩
        refine ⟨_, hD14, by rw [List.length_map]; exact small40 (by omega), (e13.trans e14).put (FrN.none hD) hD14 rfl nD, Lq ++ [(p2, paid2, way2, marks2)], by rw [upd_same, List.map_append]; rfl, fun q hq => ?_, by rw [List.length_append, List.length_singleton]; omega⟩
        rcases List.mem_append.mp hq with h | h
        · exact (hLq14 q h).1.putL (hLq14 q h).2 hD14
        · rw [List.mem_singleton.mp h]
          exact PapOk.putL (q := (p2, paid2, way2, marks2)) ⟨hp2, hwl2, hml2⟩ hav hD14
      · rintro H13 ⟨e13, Lq, hD13, hLq, hLql⟩
        have hLql : Lq.length ≤ 3 := hLql
        have g13 := e13.g g12
        have hl13 := e13.li hl12
        refine ⟨l0, D, _, _, rfl, rfl, hl13.1, hD13, by rw [List.length_map, List.length_map]; exact Nat.le_of_lt (small40 (show 1 + Lq.length ≤ 100 by omega)), fun l2 hl2 => ?_⟩
        rw [← List.map_append]
        have e14 : EX T [sA, cA] H13 (upd H13 l2 (.lst (([(p1, paid1, way1, marks1)] ++ Lq : PapL).map fun q => V.ref q.1))) := EX.new hl2
        refine key _ _ ⟨(e1012.trans e13).trans e14, l2, _, rfl, LI.new g13 hl2, fun q hq => ?_⟩
        rcases List.mem_append.mp hq with h | h
        · rw [List.mem_singleton.mp h]
          exact ⟨(e13.trans e14).paper g12 hp12, hwl1, hml1⟩
        · exact (hLq q h).1.ext g13 e14
    clear e12 hl12 hp12 g12 e1012
    rintro _ H13 ⟨e13, l, Lq, rfl, hl, hLq⟩
    have g13 := e13.g g10
    refine ⟨_, rfl, l, rfl, ⟨_, hl.sq⟩, for_list (K := K) (a := l) (xs := Lq.map fun q => V.ref q.1) (fun j σ H' => EX T [sA, cA] H13 H' ∧ ∃ o11 o12 : Option V, σ = [some (.ref a), some (.ref sA), some (.ref wA), some (.ref gA), some (.ref lA), some (.int (0 + (i : Int))), some (.ref bA), some (.ref eA), some (.ref dA), some v, some (.ref l), o11, o12, none])
      ⟨EX.refl _, _, _, rfl⟩ (fun j σ H' _ h => (h.1.li hl).sq) ?_ ?_⟩
    · rintro j y σ H14 hj ⟨e14, o11, o12, rfl⟩
      rw [List.getElem?_map] at hj
      cases ez : Lq[j]? with
      | none => rw [ez] at hj; cases hj
      | some q =>
        rw [ez] at hj
        obtain rfl : V.ref q.1 = y := Option.some.inj hj
        have g14 := e14.g g13
        have hq14 := (hLq q (List.mem_of_getElem? ez)).ext g13 e14
        have e1014 := e13.trans e14
        refine ⟨_, rfl, _, rfl, _, rfl, _, rfl, [sA, cA], gA, bA, eA, q.1, W, s, e, q.2.1, q.2.2.1, q.2.2.2, rfl, g14, hW, e1014.gr g10 hG10, e1014.pl g10 hs10, e1014.pl g10 he10, hq14.1, hq14.2.1, hq14.2.2, fun b H15 e15 hb => ?_⟩
        have g15 := e15.g g14
        have e1015 := e1014.trans e15
        have hq15 := hq14.ext g14 e15
        refine ⟨_, rfl, _, _, _, _, true, rfl, .ty "bool", .base (.bl b), if_pos (beq_self_eq_true _), _, rfl, ?_⟩
        refine ⟨_, rfl, _, rfl, _, rfl, _, rfl, _, rfl, _, rfl, [sA, cA], wA, bA, eA, q.1, lA, W, s, e, q.2.1, q.2.2.1, ps, q.2.2.2, rfl, g15, hW, e1015.wd g10 hWd10, e1015.pl g10 hs10, e1015.pl g10 he10, hq15.1, hq15.2.1, hq15.2.2, e1015.pls g10 hps10, hall, fun b2 H16 e16 hb2 => ?_⟩
        have g16 := e16.g g15
        have e1016 := e1015.trans e16
        have hq16 := hq15.ext g15 e16
        have ebb : b = b2 := by
          cases b with
          | true => exact (hb2.mpr (hb.mp rfl)).symm
          | false =>
            cases b2 with
            | true => exact hb.mpr (hb2.mp rfl)
            | false => rfl
        subst ebb
        refine ⟨_, _, .bl _, .bl _, bool_shaped _, bool_shaped _, _, rfl, ?_⟩
        rw [bool_eqv]
        refine ⟨_, rfl, _, rfl, ?_⟩
        cases b with
        | false => exact ⟨e14.trans (e15.trans e16), _, _, rfl⟩
        | true =>
          have ht := hb.mp rfl
          have hD := ht.dist Wd.JE fun p q c h => Int.le_of_lt (hW.cost_pos h).1
          cases eb : lk best e with
          | none => exact absurd hD.1 ((hbest.2 e).2 eb _)
          | some d =>
            have hd : q.2.1 = d := hD.uniq ((hbest.2 e).1 d eb)
            have hd16 := DGet.t (k := e.k) (e1016.dT g10 hd10) (e1016.pl g10 he10)
            rw [valV_dI, eb] at hd16
            obtain ⟨y0, m0, t1, _, _⟩ := hq16.1
            refine ⟨_, rfl, _, rfl, dA, _, rfl, hd16, _, rfl, ?_⟩
            refine ⟨_, rfl, q.1, _, _, _, rfl, rfl, SqT.of t1, at_of (j := 1) rfl rfl, _, rfl, _, rfl, dA, _, rfl, hd16, _, _, .int _, .int _, int_shaped _, int_shaped _, _, rfl, ?_⟩
            rw [int_eqv, decide_eq_true hd]
            exact ⟨e14.trans (e15.trans e16), _, _, rfl⟩
    · rintro σ H14 ⟨e14, o11, o12, rfl⟩
      exact ⟨(e4A.trans e13).trans e14, _, _, _, _, _, _, _, _, rfl⟩
end
end K76
namespace K76
open PySem PySem.Spec PyProof.Rows L2
def dD (x : Str) (st : Stmt) : He.DefD := ⟨(x, none), x, x, defArgs st, defBody st, defScope st, [], []⟩
def dM (C m q : Str) (st : Stmt) : He.DefD := ⟨(C, some m), m, q, defArgs st, defBody st, defScope st, [], []⟩
def dSI : He.DefD := ⟨("Settings", some "__init__"), "__init__", "Settings.__init__", defArgs sSInit, defBody sSInit, defScope sSInit, [], [("slack", .int 0), ("tile", .int 8)]⟩
def fn : List He.DefD := [dD "partner" sPartner, dD "meets" sMeets, dD "floor_cost" sFloorCost, dM "Ground" "__init__" "Ground.__init__" sGInit, dM "Ground" "has" "Ground.has" sGHas,
  dM "Ground" "step_cost" "Ground.step_cost" sGStepCost, dM "Ground" "steps" "Ground.steps" sGSteps, dM "Ground" "joined_cost" "Ground.joined_cost" sGJoined,
  dD "least" sLeast, dD "search" sSearch, dD "cheapest_floors" sCheapest, dD "way_cost" sWayCost, dD "marks_hold" sMarksHold, dD "check_price" sCheckPrice,
  dD "require" sRequire, dD "ceiled" sCeiled, dSI,
  dD "_law_state" sLState, dD "_law_draw" sLDraw, dD "_law_ground" sLGround, dD "_law_half" sLHalf, dD "_law_places" sLPlaces, dD "_law_step" sLStep, dD "_law_steps" sLSteps,
  dD "_law_costs" sLCosts, dD "_law_way_cost" sLWayCost, dD "_law_taken" sLTaken, dD "_law_changed" sLChanged, dD "_law_made_up" sLMadeUp, dD "law" sLaw]
def fa : List He.Fa := [.glo "partner", .glo "meets", .glo "floor_cost", .glo "least", .glo "search", .glo "cheapest_floors", .glo "way_cost", .glo "marks_hold", .glo "check_price",
  .glo "require", .glo "ceiled", .glo "_law_state", .glo "_law_draw", .glo "_law_ground", .glo "_law_half", .glo "_law_places", .glo "_law_step", .glo "_law_steps", .glo "_law_costs",
  .glo "_law_way_cost", .glo "_law_taken", .glo "_law_changed", .glo "_law_made_up", .glo "law", .glo "Ground", .glo "Settings", .glo "SIDES",
  .free "max", .free "min", .free "list", .free "abs", .free "all", .free "sorted", .free "range", .free "len", .free "int", .free "tuple", .free "isinstance", .free "bool",
  .int "MOST_CELLS" 64, .int "MOST_LENGTH" 1000, .cls "Ground", .cls "Settings", .mkr "Ground", .mkr "Settings",
  .meth "Ground" "has", .meth "Ground" "step_cost", .meth "Ground" "steps", .meth "Ground" "joined_cost",
  .noat "Ground" "settings", .noat "Ground" "floors", .noat "Ground" "areas", .noat "Ground" "climb",
  .noat "Settings" "tall", .noat "Settings" "rise", .noat "Settings" "columns", .noat "Settings" "rows", .noat "Settings" "cell", .noat "Settings" "level", .noat "Settings" "width",
  .noat "Settings" "height", .noat "Settings" "step", .noat "Settings" "slope", .noat "Settings" "slack", .noat "Settings" "tile", .noat "Settings" "reach"]
/-- the i-th item of the tuple SIDES -/
def sideAt (i : Nat) (K : PySem.W.Frag) : Addr := match K.lookup (He.ga K "SIDES") with
  | some ⟨_, _, .seq its _, _⟩ => (match its.toList[i]? with
    | some (.ref a) => a
    | _ => 0)
  | _ => 0
def tupA (K : PySem.W.Frag) (a : Addr) (vs : List V) : Bool := match K.lookup a with
  | some ⟨.type c, _, .seq its _, _⟩ => decide (c = "tuple") && (decide (its.size ≤ sizeLine) && He.relAll vs its.toList)
  | _ => false
def ex (K : PySem.W.Frag) : Bool := He.tupB K "SIDES" [.adr (sideAt 0), .adr (sideAt 1), .adr (sideAt 2), .adr (sideAt 3)] &&
  (tupA K (sideAt 0 K) [.int 1, .int 0] && (tupA K (sideAt 1 K) [.int (-1), .int 0] && (tupA K (sideAt 2 K) [.int 0, .int 1] && tupA K (sideAt 3 K) [.int 0, .int (-1)]))) && !decide ((He.cT K ("cheapest_floors", none)).2 = (He.cT K ("_law_places", none)).2)
def tf : List He.Defn := [("cheapest_floors", none), ("_law_places", none)]
abbrev R : PySem.W.OpenRow := PySem.W.OpenLaw.row PySem.Challenge.rw_footpath_k76_whole_least_costs_and_their
abbrev qv : Program := PySem.W.view R.prog [36]
def loose : List Str := ["_wall", "partner", "SIDES", "meets", "floor_cost", "Ground", "least", "search", "cheapest_floors", "way_cost", "marks_hold", "check_price",
  "FootpathError", "SettingsError", "MOST_CELLS", "MOST_LENGTH", "require", "ceiled", "Settings", "_law_state", "_law_draw", "_law_ground", "_law_half", "_law_places", "_law_step", "_law_steps",
  "_law_costs", "_law_way_cost", "_law_taken", "_law_changed", "_law_made_up"]
abbrev hk : PySem.W.Hook := He.hookX 5 fa fn [] tf ex
def ob (s : PySem.W.SharedT) : He.AlX := He.obsX 5 fa fn [] tf ex (HandSHeadRun.getT s)
theorem ob_eq (s : PySem.W.SharedT) : ob s = hk.obs s.abs := He.obsX_eq (HandSHeadRun.getT_eq s)
theorem run (w : World) : HandSHeadRun.RunEq R qv hk ob 4000 loose w := by
  intro os
  kernel_rfl
end K76
namespace K76
open PySem PySem.Spec PyProof.Rows L2 LamX
theorem tupA_ok {K : PySem.W.Frag} {a : Addr} {vs : List V} (h : tupA K a vs = true) (H : Hp) : SqT K H a vs := by
  unfold tupA at h
  cases q : K.lookup a with
  | none =>
    rw [q] at h
    cases h
  | some o =>
    obtain ⟨oc, od, dt, osl⟩ := o
    rw [q] at h
    cases oc with
    | type c =>
      cases dt with
      | seq its n =>
        have h : (decide (c = "tuple") && (decide (its.size ≤ sizeLine) && He.relAll vs its.toList)) = true := h
        obtain ⟨h1, h2⟩ := Bool.and_eq_true_iff.mp h
        obtain ⟨h3, h4⟩ := Bool.and_eq_true_iff.mp h2
        have h1 := of_decide_eq_true h1
        subst h1
        exact .inr ⟨_, its, n, q, rfl, rfl, of_decide_eq_true h3, He.relAll_ok h4⟩
      | _ => cases h
    | _ => cases dt <;> cases h
section
variable {P : Program} {w : World} {K : PySem.W.Frag} {mg : Str → Option Value} {h : Heap} {f : Addr}
theorem sd_ok (gS : mg "SIDES" = some (.ref (He.ga K "SIDES"))) (c : ex K = true) : SdTxt K mg := by
  unfold ex at c
  obtain ⟨c, _⟩ := Bool.and_eq_true_iff.mp c
  obtain ⟨c0, c⟩ := Bool.and_eq_true_iff.mp c
  obtain ⟨c1, c⟩ := Bool.and_eq_true_iff.mp c
  obtain ⟨c2, c⟩ := Bool.and_eq_true_iff.mp c
  obtain ⟨c3, c4⟩ := Bool.and_eq_true_iff.mp c
  refine ⟨He.ga K "SIDES", [sideAt 0 K, sideAt 1 K, sideAt 2 K, sideAt 3 K], gS, rfl, fun H => He.tupB_ok c0 H, fun i a d ha hd H => ?_⟩
  match i, ha, hd with
  | 0, ha, hd =>
    cases ha
    cases hd
    exact tupA_ok c1 H
  | 1, ha, hd =>
    cases ha
    cases hd
    exact tupA_ok c2 H
  | 2, ha, hd =>
    cases ha
    cases hd
    exact tupA_ok c3 H
  | 3, ha, hd =>
    cases ha
    cases hd
    exact tupA_ok c4 H
  | i + 4, ha, hd => cases ha
theorem st_ok (X : K.In h) (G : h.Ns mainGlobals mg) (c : He.SaysD fa fn K) : STxt K mg (He.ga K "Settings") where
  cl := He.cls_ok (c.facts (by simp [fa]))
  n1 := He.noat_ok (c.facts (by simp [fa]))
  n2 := He.noat_ok (c.facts (by simp [fa]))
  n3 := He.noat_ok (c.facts (by simp [fa]))
  n4 := He.noat_ok (c.facts (by simp [fa]))
  n5 := He.noat_ok (c.facts (by simp [fa]))
  n6 := He.noat_ok (c.facts (by simp [fa]))
  n7 := He.noat_ok (c.facts (by simp [fa]))
  n8 := He.noat_ok (c.facts (by simp [fa]))
  n9 := He.noat_ok (c.facts (by simp [fa]))
  n10 := He.noat_ok (c.facts (by simp [fa]))
  n11 := He.noat_ok (c.facts (by simp [fa]))
  n12 := He.noat_ok (c.facts (by simp [fa]))
  n13 := He.noat_ok (c.facts (by simp [fa]))
  mc := He.int_ok X G (c.facts (by simp [fa]))
  ml := He.int_ok X G (c.facts (by simp [fa]))
  mt := He.free_ok X G (c.facts (by simp [fa]))
theorem gt_ok (c : He.SaysD fa fn K) : GTxt K (He.ga K "Ground") where
  cl := He.cls_ok (c.facts (by simp [fa]))
  nS := He.noat_ok (c.facts (by simp [fa]))
  nF := He.noat_ok (c.facts (by simp [fa]))
  nA := He.noat_ok (c.facts (by simp [fa]))
  nC := He.noat_ok (c.facts (by simp [fa]))
abbrev c1 (K : PySem.W.Frag) : Addr × Addr := He.cT K ("cheapest_floors", none)
abbrev c2 (K : PySem.W.Frag) : Addr × Addr := He.cT K ("_law_places", none)
abbrev TT (K : PySem.W.Frag) : TbT := [((c1 K).2, qCheapest), ((c2 K).2, qLPlaces)]
theorem dfn (c : He.SaysD fa fn K) (i : Nat) {x : Str} {st : Stmt} (h : fn[i]? = some (dD x st)) : ∃ fd, FnP K x x st (He.ga K x) fd := c.def_ i h
theorem dme (c : He.SaysD fa fn K) (i : Nat) {C m q : Str} {st : Stmt} (h : fn[i]? = some (dM C m q st)) : ∃ fd, FnP K m q st (He.ma K (He.ga K C) m) fd := c.def_ i h
theorem facts (X : K.In h) (G : h.Ns mainGlobals mg) (c : He.SaysX fa fn [] tf ex w h K) {fd : FuncData} (FL : FnP K "law" "law" sLaw (He.ga K "law") fd) {base : Heap} (T1 : TabB base mg (c1 K).1 (c1 K).2) (T2 : TabB base mg (c2 K).1 (c2 K).2) :
    FnOk P w K mg base CX0 8 (He.ga K "law") fd ["_law_script"] (spLaw K (TT K)) := by
  have d := c.t.d
  have gl : ∀ (x : Str), He.Fa.glo x ∈ fa → mg x = some (.ref (He.ga K x)) := fun x hx => He.glo_ok X G (d.facts hx)
  have fr : ∀ (x : Str), He.Fa.free x ∈ fa → mg x = none := fun x hx => He.free_ok X G (d.facts hx)
  have ne : (c1 K).2 ≠ (c2 K).2 := by
    have hm := c.more
    unfold ex at hm
    obtain ⟨_, hm⟩ := Bool.and_eq_true_iff.mp hm
    intro z
    rw [decide_eq_true z] at hm
    cases hm
  have B1 : TbOk (TT K) base mg (c1 K).1 (c1 K).2 qCheapest := ⟨T1, List.mem_cons_self, fun p hp h => by
    rcases List.mem_cons.mp hp with z | z
    · rw [z]
    · rw [List.mem_singleton.mp z] at h
      exact absurd h.symm ne⟩
  have B2 : TbOk (TT K) base mg (c2 K).1 (c2 K).2 qLPlaces := ⟨T2, List.mem_cons_of_mem _ List.mem_cons_self, fun p hp h => by
    rcases List.mem_cons.mp hp with z | z
    · rw [z] at h
      exact absurd h ne
    · rw [List.mem_singleton.mp z]⟩
  have SX := st_ok X G d
  have GX := gt_ok d
  have SD := sd_ok (gl "SIDES" (by simp [fa])) c.more
  obtain ⟨d0, F0⟩ := dfn d 0 (x := "partner") (st := sPartner) rfl
  obtain ⟨d1, F1⟩ := dfn d 1 (x := "meets") (st := sMeets) rfl
  obtain ⟨d2, F2⟩ := dfn d 2 (x := "floor_cost") (st := sFloorCost) rfl
  obtain ⟨d3, F3⟩ := dme d 3 (C := "Ground") (m := "__init__") (q := "Ground.__init__") (st := sGInit) rfl
  obtain ⟨d4, F4⟩ := dme d 4 (C := "Ground") (m := "has") (q := "Ground.has") (st := sGHas) rfl
  obtain ⟨d5, F5⟩ := dme d 5 (C := "Ground") (m := "step_cost") (q := "Ground.step_cost") (st := sGStepCost) rfl
  obtain ⟨d6, F6⟩ := dme d 6 (C := "Ground") (m := "steps") (q := "Ground.steps") (st := sGSteps) rfl
  obtain ⟨d7, F7⟩ := dme d 7 (C := "Ground") (m := "joined_cost") (q := "Ground.joined_cost") (st := sGJoined) rfl
  obtain ⟨d8, F8⟩ := dfn d 8 (x := "least") (st := sLeast) rfl
  obtain ⟨d9, F9⟩ := dfn d 9 (x := "search") (st := sSearch) rfl
  obtain ⟨d10, F10⟩ := dfn d 10 (x := "cheapest_floors") (st := sCheapest) rfl
  obtain ⟨d11, F11⟩ := dfn d 11 (x := "way_cost") (st := sWayCost) rfl
  obtain ⟨d12, F12⟩ := dfn d 12 (x := "marks_hold") (st := sMarksHold) rfl
  obtain ⟨d13, F13⟩ := dfn d 13 (x := "check_price") (st := sCheckPrice) rfl
  obtain ⟨d14, F14⟩ := dfn d 14 (x := "require") (st := sRequire) rfl
  obtain ⟨d15, F15⟩ := dfn d 15 (x := "ceiled") (st := sCeiled) rfl
  obtain ⟨d17, F17⟩ := dfn d 17 (x := "_law_state") (st := sLState) rfl
  obtain ⟨d18, F18⟩ := dfn d 18 (x := "_law_draw") (st := sLDraw) rfl
  obtain ⟨d19, F19⟩ := dfn d 19 (x := "_law_ground") (st := sLGround) rfl
  obtain ⟨d20, F20⟩ := dfn d 20 (x := "_law_half") (st := sLHalf) rfl
  obtain ⟨d21, F21⟩ := dfn d 21 (x := "_law_places") (st := sLPlaces) rfl
  obtain ⟨d22, F22⟩ := dfn d 22 (x := "_law_step") (st := sLStep) rfl
  obtain ⟨d23, F23⟩ := dfn d 23 (x := "_law_steps") (st := sLSteps) rfl
  obtain ⟨d24, F24⟩ := dfn d 24 (x := "_law_costs") (st := sLCosts) rfl
  obtain ⟨d25, F25⟩ := dfn d 25 (x := "_law_way_cost") (st := sLWayCost) rfl
  obtain ⟨d26, F26⟩ := dfn d 26 (x := "_law_taken") (st := sLTaken) rfl
  obtain ⟨d27, F27⟩ := dfn d 27 (x := "_law_changed") (st := sLChanged) rfl
  obtain ⟨d28, F28⟩ := dfn d 28 (x := "_law_made_up") (st := sLMadeUp) rfl
  have b0 : Binds K d0 ["settings", "floors", "place", "di", "dk"] [] := F0.bindsN fun _ _ _ _ _ _ us hl => match us, hl with | [_, _, _, _, _], _ => rfl
  have b1 : Binds K d1 ["settings", "area", "i", "k"] [] := F1.bindsN fun _ _ _ _ _ _ us hl => match us, hl with | [_, _, _, _], _ => rfl
  have b2 : Binds K d2 ["settings", "areas", "place"] [] := F2.bindsN fun _ _ _ _ _ _ us hl => match us, hl with | [_, _, _], _ => rfl
  have b3 : Binds K d3 ["self", "settings", "floors", "areas", "climb"] [] := F3.bindsN fun _ _ _ _ _ _ us hl => match us, hl with | [_, _, _, _, _], _ => rfl
  have b4 : Binds K d4 ["self", "place"] [] := F4.bindsN fun _ _ _ _ _ _ us hl => match us, hl with | [_, _], _ => rfl
  have b5 : Binds K d5 ["self", "one", "other"] [] := F5.bindsN fun _ _ _ _ _ _ us hl => match us, hl with | [_, _, _], _ => rfl
  have b6 : Binds K d6 ["self", "place"] [] := F6.bindsN fun _ _ _ _ _ _ us hl => match us, hl with | [_, _], _ => rfl
  have b7 : Binds K d7 ["self", "one", "other"] [] := F7.bindsN fun _ _ _ _ _ _ us hl => match us, hl with | [_, _, _], _ => rfl
  have b8 : Binds K d8 ["waiting"] [] := F8.bindsN fun _ _ _ _ _ _ us hl => match us, hl with | [_], _ => rfl
  have b9 : Binds K d9 ["ground", "start", "goal"] [] := F9.bindsN fun _ _ _ _ _ _ us hl => match us, hl with | [_, _, _], _ => rfl
  have b10 : Binds K d10 ["ground", "start", "goal"] [] := F10.bindsN fun _ _ _ _ _ _ us hl => match us, hl with | [_, _, _], _ => rfl
  have b11 : Binds K d11 ["ground", "way"] [] := F11.bindsN fun _ _ _ _ _ _ us hl => match us, hl with | [_, _], _ => rfl
  have b12 : Binds K d12 ["ground", "start", "paid", "marks"] [] := F12.bindsN fun _ _ _ _ _ _ us hl => match us, hl with | [_, _, _, _], _ => rfl
  have b13 : Binds K d13 ["ground", "start", "goal", "paper"] [] := F13.bindsN fun _ _ _ _ _ _ us hl => match us, hl with | [_, _, _, _], _ => rfl
  have b14 : Binds K d14 ["holds", "name"] [] := F14.bindsN fun _ _ _ _ _ _ us hl => match us, hl with | [_, _], _ => rfl
  have b15 : Binds K d15 ["number", "unit"] [] := F15.bindsN fun _ _ _ _ _ _ us hl => match us, hl with | [_, _], _ => rfl
  have b17 : Binds K d17 ["_law_script"] [] := F17.bindsN fun _ _ _ _ _ _ us hl => match us, hl with | [_], _ => rfl
  have b18 : Binds K d18 ["_law_state_here", "_law_many"] [] := F18.bindsN fun _ _ _ _ _ _ us hl => match us, hl with | [_, _], _ => rfl
  have b19 : Binds K d19 ["_law_state_here"] [] := F19.bindsN fun _ _ _ _ _ _ us hl => match us, hl with | [_], _ => rfl
  have b20 : Binds K d20 ["_law_world", "_law_place"] [] := F20.bindsN fun _ _ _ _ _ _ us hl => match us, hl with | [_, _], _ => rfl
  have b21 : Binds K d21 ["_law_world"] [] := F21.bindsN fun _ _ _ _ _ _ us hl => match us, hl with | [_], _ => rfl
  have b22 : Binds K d22 nLStep [] := F22.bindsN fun _ _ _ _ _ _ us hl => match us, hl with | [_, _, _], _ => rfl
  have b23 : Binds K d23 ["_law_world", "_law_place"] [] := F23.bindsN fun _ _ _ _ _ _ us hl => match us, hl with | [_, _], _ => rfl
  have b24 : Binds K d24 ["_law_world", "_law_start"] [] := F24.bindsN fun _ _ _ _ _ _ us hl => match us, hl with | [_, _], _ => rfl
  have b25 : Binds K d25 ["_law_world", "_law_way", "_law_places_here"] [] := F25.bindsN fun _ _ _ _ _ _ us hl => match us, hl with | [_, _, _], _ => rfl
  have b26 : Binds K d26 ["_law_world", "_law_start", "_law_goal", "_law_paper", "_law_places_here"] [] := F26.bindsN fun _ _ _ _ _ _ us hl => match us, hl with | [_, _, _, _, _], _ => rfl
  have b27 : Binds K d27 ["_law_state_here", "_law_paper", "_law_places_here"] [] := F27.bindsN fun _ _ _ _ _ _ us hl => match us, hl with | [_, _, _], _ => rfl
  have b28 : Binds K d28 ["_law_state_here", "_law_world", "_law_start", "_law_goal", "_law_places_here"] [] := F28.bindsN fun _ _ _ _ _ _ us hl => match us, hl with | [_, _, _, _, _], _ => rfl
  have D0 : ∀ ex, Df P w K mg base 1 "partner" ["settings", "floors", "place", "di", "dk"] (spPartner (He.ga K "Settings") (TT K) ex) := fun ex => ⟨_, _, ok_partner F0 SX.cl SX.n2 (fr "abs" (by simp [fa])), gl "partner" (by simp [fa]), F0.kp, b0⟩
  have D1 : Df P w K mg base 1 "meets" ["settings", "area", "i", "k"] (spMeets (He.ga K "Settings")) := ⟨_, _, ok_meets F1 SX.cl SX.n5, gl "meets" (by simp [fa]), F1.kp, b1⟩
  have D2 : ∀ ex, Df P w K mg base 2 "floor_cost" ["settings", "areas", "place"] (spFloorCost (He.ga K "Settings") (TT K) ex) := fun ex => ⟨_, _, ok_floor_cost F2 SX.cl SX.n6 D1 (fr "max" (by simp [fa])), gl "floor_cost" (by simp [fa]), F2.kp, b2⟩
  have D4 : ∀ ex, Dm P w K mg base (He.ga K "Ground") 1 "has" ["self", "place"] (spHas (He.ga K "Ground") (He.ga K "Settings") (TT K) ex) := fun ex => ⟨_, _, ok_has F4 GX, He.meth_ok (d.facts (by simp [fa])), b4⟩
  have D5 : ∀ ex, Dm P w K mg base (He.ga K "Ground") 3 "step_cost" ["self", "one", "other"] (spStepCost (He.ga K "Ground") (He.ga K "Settings") (TT K) ex) := fun ex => ⟨_, _, ok_step_cost F5 GX (D2 ex) (fr "abs" (by simp [fa])), He.meth_ok (d.facts (by simp [fa])), b5⟩
  have D6 : ∀ ex, Dm P w K mg base (He.ga K "Ground") 4 "steps" ["self", "place"] (spSteps (He.ga K "Ground") (He.ga K "Settings") (TT K) ex) := fun ex => ⟨_, _, ok_steps F6 GX SD (D0 ex) (D5 ex), He.meth_ok (d.facts (by simp [fa])), b6⟩
  have D7 : ∀ ex, Dm P w K mg base (He.ga K "Ground") 5 "joined_cost" ["self", "one", "other"] (spJoined (He.ga K "Ground") (He.ga K "Settings") (TT K) ex) := fun ex => ⟨_, _, ok_joined F7 GX (D6 ex), He.meth_ok (d.facts (by simp [fa])), b7⟩
  have D8 : ∀ ex, Df P w K mg base 1 "least" ["waiting"] (spLeast (TT K) ex) := fun ex => ⟨_, _, ok_least F8 (fr "min" (by simp [fa])), gl "least" (by simp [fa]), F8.kp, b8⟩
  have D9 : ∀ ex, Df P w K mg base 5 "search" ["ground", "start", "goal"] (spSearch (He.ga K "Ground") (He.ga K "Settings") (TT K) ex) := fun ex => ⟨_, _, ok_search F9 GX (D8 ex) (D6 ex), gl "search" (by simp [fa]), F9.kp, b9⟩
  have D10 : Df P w K mg base 6 "cheapest_floors" ["ground", "start", "goal"] (exS (spCheapestV (He.ga K "Ground") (He.ga K "Settings") (TT K))) := ⟨_, _, fn_exS fun ex => (ok_cheapest F10 rfl B1 (fr "sorted" (by simp [fa])) (D9 ex)).imp chV_imp, gl "cheapest_floors" (by simp [fa]), F10.kp, b10⟩
  have D11 : ∀ ex, Df P w K mg base 6 "way_cost" ["ground", "way"] (spWayCost (He.ga K "Ground") (He.ga K "Settings") (TT K) ex) := fun ex => ⟨_, _, ok_way_cost F11 GX (fr "all" (by simp [fa])) (fr "range" (by simp [fa])) (fr "len" (by simp [fa])) (D4 ex) (D7 ex), gl "way_cost" (by simp [fa]), F11.kp, b11⟩
  have D12 : ∀ ex, Df P w K mg base 5 "marks_hold" ["ground", "start", "paid", "marks"] (spMarksHold (He.ga K "Ground") (He.ga K "Settings") (TT K) ex) := fun ex => ⟨_, _, ok_marks_hold F12 GX (D4 ex) (D6 ex), gl "marks_hold" (by simp [fa]), F12.kp, b12⟩
  have D13 : Df P w K mg base 7 "check_price" ["ground", "start", "goal", "paper"] (exS (spCheckPrice (He.ga K "Ground") (He.ga K "Settings") (TT K))) := ⟨_, _, fn_exS fun ex => ok_check_price F13 (fr "all" (by simp [fa])) (D11 ex) (D12 ex), gl "check_price" (by simp [fa]), F13.kp, b13⟩
  have D14 : Df P w K mg base 1 "require" ["holds", "name"] (spRequire) := ⟨_, _, ok_require F14, gl "require" (by simp [fa]), F14.kp, b14⟩
  have D15 : Df P w K mg base 1 "ceiled" ["number", "unit"] (spCeiled) := ⟨_, _, ok_ceiled F15, gl "ceiled" (by simp [fa]), F15.kp, b15⟩
  obtain ⟨d16, F16⟩ : ∃ fd, FunD K "__init__" "Settings.__init__" (defArgs sSInit) (defBody sSInit) (defScope sSInit) [] [("slack", .int 0), ("tile", .int 8)] (He.ma K (He.ga K "Settings") "__init__") fd := d.def_ 16 (d := dSI) rfl
  have MS : ∀ sA cA, MkS P w K mg base (He.ga K "Settings") (TT K) [sA, cA] := fun sA cA => ⟨⟨_, _, He.mkr_ok (d.facts (by simp [fa])), ok_sinit F16 SX D14 D15, kb_sinit F16⟩, gl "Settings" (by simp [fa])⟩
  have MG : MkG P w K mg base (He.ga K "Ground") (He.ga K "Settings") (TT K) := ⟨⟨_, _, He.mkr_ok (d.facts (by simp [fa])), fn_exS fun ex => ok_ginit F3 GX (fr "list" (by simp [fa])), b3⟩, gl "Ground" (by simp [fa])⟩
  have D17 : Df P w K mg base 1 "_law_state" ["_law_script"] (spLState K) := ⟨_, _, ok_lstate F17 (fr "int" (by simp [fa])) (fr "abs" (by simp [fa])), gl "_law_state" (by simp [fa]), F17.kp, b17⟩
  have D18 : ∀ sA cA, Df P w K mg base 1 "_law_draw" ["_law_state_here", "_law_many"] (spDraw (TT K) sA cA) := fun sA cA => ⟨_, _, ok_draw F18 (fr "int" (by simp [fa])) (fr "len" (by simp [fa])) sA cA, gl "_law_draw" (by simp [fa]), F18.kp, b18⟩
  have D18e : Df P w K mg base 1 "_law_draw" ["_law_state_here", "_law_many"] (exSS (spDraw (TT K))) := ⟨_, _, fn_exSS fun sA cA => ok_draw F18 (fr "int" (by simp [fa])) (fr "len" (by simp [fa])) sA cA, gl "_law_draw" (by simp [fa]), F18.kp, b18⟩
  have D19 : Df P w K mg base 4 "_law_ground" ["_law_state_here"] (exSS (spLGround (He.ga K "Settings") (TT K))) := ⟨_, _, fn_exSS fun sA cA => ok_lground F19 SX (fr "range" (by simp [fa])) (fr "len" (by simp [fa])) sA cA (MS sA cA) (D18 sA cA), gl "_law_ground" (by simp [fa]), F19.kp, b19⟩
  have D20 : ∀ ex, Df P w K mg base 1 "_law_half" ["_law_world", "_law_place"] (spLHalf (He.ga K "Settings") (TT K) ex) := fun ex => ⟨_, _, ok_lhalf F20 SX (fr "max" (by simp [fa])), gl "_law_half" (by simp [fa]), F20.kp, b20⟩
  have D21 : ∀ ex, Df P w K mg base 2 "_law_places" ["_law_world"] (spLPlaces (He.ga K "Settings") (TT K) ex) := fun ex => ⟨_, _, ok_lplaces F21 rfl B2 (fr "sorted" (by simp [fa])), gl "_law_places" (by simp [fa]), F21.kp, b21⟩
  have D21e : Df P w K mg base 2 "_law_places" ["_law_world"] (exS (spLPlaces (He.ga K "Settings") (TT K))) := ⟨_, _, fn_exS fun ex => ok_lplaces F21 rfl B2 (fr "sorted" (by simp [fa])), gl "_law_places" (by simp [fa]), F21.kp, b21⟩
  have D22 : ∀ ex, Df P w K mg base 2 "_law_step" nLStep (spLStep (He.ga K "Settings") (TT K) ex) := fun ex => ⟨_, _, ok_lstep F22 SX (fr "abs" (by simp [fa])) (D20 ex), gl "_law_step" (by simp [fa]), F22.kp, b22⟩
  have D23 : ∀ ex, Df P w K mg base 3 "_law_steps" ["_law_world", "_law_place"] (spLSteps (He.ga K "Settings") (TT K) ex) := fun ex => ⟨_, _, ok_lsteps F23 (D21 ex) (D22 ex), gl "_law_steps" (by simp [fa]), F23.kp, b23⟩
  have D24 : Df P w K mg base 4 "_law_costs" ["_law_world", "_law_start"] (exS (spLCosts (He.ga K "Settings") (TT K))) := ⟨_, _, fn_exS fun ex => ok_lcosts F24 (fr "sorted" (by simp [fa])) (D23 ex), gl "_law_costs" (by simp [fa]), F24.kp, b24⟩
  have D25 : ∀ ex, Df P w K mg base 3 "_law_way_cost" ["_law_world", "_law_way", "_law_places_here"] (spLWayCost (He.ga K "Settings") (TT K) ex) := fun ex => ⟨_, _, ok_lway_cost F25 (fr "range" (by simp [fa])) (fr "len" (by simp [fa])) (D22 ex), gl "_law_way_cost" (by simp [fa]), F25.kp, b25⟩
  have D26 : Df P w K mg base 4 "_law_taken" ["_law_world", "_law_start", "_law_goal", "_law_paper", "_law_places_here"] (exS (spLTaken (He.ga K "Settings") (TT K))) := ⟨_, _, fn_exS fun ex => ok_ltaken F26 (fr "sorted" (by simp [fa])) (D25 ex) (D23 ex), gl "_law_taken" (by simp [fa]), F26.kp, b26⟩
  have D27 : Df P w K mg base 2 "_law_changed" ["_law_state_here", "_law_paper", "_law_places_here"] (exSS (spLChanged (TT K))) := ⟨_, _, fn_exSS fun sA cA => ok_lchanged F27 (fr "list" (by simp [fa])) (fr "len" (by simp [fa])) sA cA (D18 sA cA), gl "_law_changed" (by simp [fa]), F27.kp, b27⟩
  have D28 : Df P w K mg base 4 "_law_made_up" ["_law_state_here", "_law_world", "_law_start", "_law_goal", "_law_places_here"] (exSS (spLMadeUp (He.ga K "Settings") (TT K))) := ⟨_, _, fn_exSS fun sA cA => ok_lmade_up F28 (fr "range" (by simp [fa])) (fr "len" (by simp [fa])) (fr "abs" (by simp [fa])) (fr "min" (by simp [fa])) sA cA (D18 sA cA) (D23 [sA, cA]) (D25 [sA, cA]), gl "_law_made_up" (by simp [fa]), F28.kp, b28⟩
  exact ok_law FL (fr "range" (by simp [fa])) (fr "len" (by simp [fa])) (fr "isinstance" (by simp [fa])) (fr "bool" (by simp [fa])) MG D17 D19 D21e D18e D24 D10 D13 D28 D27 D26
end
end K76
namespace K76
open PySem PySem.Spec PyProof.Rows L2 LamX
theorem tabs_empty {K : PySem.W.Frag} {H : Hp} (h : ∀ p ∈ [c1 K, c2 K], H p.2 = some (.tbl #[])) : Tabs (TT K) H := fun p hp => by
  have one : ∀ {P : Addr} {q : Str}, H P = some (.tbl #[]) → TabS H P q := fun {P q} e => ⟨#[], e, trivial, fun pos cv hc => by cases hc⟩
  rcases List.mem_cons.mp hp with z | z
  · rw [z]
    exact one (h (c1 K) List.mem_cons_self)
  · rw [List.mem_singleton.mp z]
    exact one (h (c2 K) (List.mem_cons_of_mem _ List.mem_cons_self))
theorem lawAt {l : PySem.W.OpenLaw} {w : World} {K : PySem.W.Frag} {mg : Str → Option Value} {h : Heap} {f : Addr} (X : K.In h) (G : h.Ns mainGlobals mg) (hfa : mg ("law" : Str) = some (.ref f)) (c : He.SaysX fa fn [] tf ex w h K) :
    LawAtS l w K CX0 8 63 "_law_script" mg f h := by
  obtain ⟨fd, FL⟩ := dfn c.t.d 29 (x := "law") (st := sLaw) rfl
  have e := hfa.symm.trans (He.glo_ok X G (c.t.d.facts (show He.Fa.glo "law" ∈ fa by simp [fa])))
  cases e
  have b := FunD.bindsA (ps := ["_law_script"]) FL fun _ _ _ _ _ _ us hl => match us, hl with | [_], _ => rfl
  have two : ∀ {Pr : Addr × Addr → Prop}, (∀ p ∈ tf, Pr (He.cT K p)) → ∀ p ∈ [c1 K, c2 K], Pr p := fun {Pr} hp p hm => by
    rcases List.mem_cons.mp hm with z | z
    · rw [z]
      exact hp _ List.mem_cons_self
    · rw [List.mem_singleton.mp z]
      exact hp _ (List.mem_cons_of_mem _ List.mem_cons_self)
  refine ⟨fd, [c1 K, c2 K], spLaw K (TT K), two (Pr := fun p => h.get? p.2 = some { cls := .none, data := .fields #[] }) c.empty, two (Pr := fun p => K.lookup p.2 = none) c.out, two (Pr := fun p => PySem.W.CodeHd h p.1 p.2) fun p hp => PySem.W.codeHd_of_K X (c.hd p hp), fun s u => b s [u] rfl, fun H a ns hl _ hT hS => ⟨a, ns, rfl, hS, by omega, tabs_empty hT, fun _ => rfl⟩, fun base _ _ hT => ?_⟩
  exact facts X G c FL (hT (c1 K) List.mem_cons_self) (hT (c2 K) (List.mem_cons_of_mem _ List.mem_cons_self))
end K76
open PySem PySem.W PySem.Calls PyProof.Rows
theorem PySem.Challenge.cw_footpath_k76_whole_least_costs_and_their_holds : PySem.Challenge.rw_footpath_k76_whole_least_costs_and_their.Holds := by
  w_on; o_law
  refine HandSHeadRun.head_any (r := OpenLaw.row PySem.Challenge.rw_footpath_k76_whole_least_costs_and_their) (q := view (OpenLaw.row PySem.Challenge.rw_footpath_k76_whole_least_costs_and_their).prog [36]) (H := K76.hk) (ob := K76.ob) (M := 4000) (loose := K76.loose) (d := HandSHeadRun.topDef (OpenLaw.row PySem.Challenge.rw_footpath_k76_whole_least_costs_and_their).prog 36) (kwd := []) K76.ob_eq
    (by kernel_rfl) (fun s => by kernel_rfl) K76.run (by kernel_rfl) (by kernel_rfl) (by kernel_rfl) (by rfl) (by first | assumption | decide +kernel) (by decide +kernel) ⟨rfl, rfl, rfl, rfl, rfl, by decide +kernel⟩ ?hw ?hc
  case hw => w_witness2
  case hc =>
    refine LamX.walk_ofTsE (l := PySem.Challenge.rw_footpath_k76_whole_least_costs_and_their) (n := 63) (k := 8) (x := "_law_script") (CX := fun _ => L2.CX0) rfl (by decide) (by kernel_rfl) ⟨rfl, by decide, by decide⟩ ?F (fun _ _ _ _ _ z => z)
    intro w mg fa h Y G hmg0
    obtain ⟨K, KX, c⟩ := Y
    have hmg : mg ("law" : PySem.Str) = some (.ref fa) := by
      have e : (HandSHeadRun.topDef (OpenLaw.row PySem.Challenge.rw_footpath_k76_whole_least_costs_and_their).prog 36).name = ("law" : PySem.Str) := by kernel_rfl
      rw [← e]
      exact hmg0
    exact ⟨K, KX, K76.lawAt KX G hmg c⟩
