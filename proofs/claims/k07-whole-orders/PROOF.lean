import PyProof.Rows.All
import Wide.All
import OpenK.AllK
import Wide.FinOn
import KE.KDictKeyed
import KE.KDictOf
import KE.KDictDisplayH
import KE.KDictSum
import KE.KEqDict
import KE.SortData
import HandS.ForMost
import HandS.Star
import HandS.Style
import HandS.Conv
import HandS.IsInst
import HandS.Zip
import HandS.Wide
import HandS.Flow
import HandS.Lambda
import HandS.TupAny
import HandS.EndTab
import PySem.Challenge.RW_shopwhole_k07_whole_orders
section
set_option autoImplicit false
set_option linter.all false
/-! The plain law: states, steps, costs of orders, heights; no program in sight. -/
namespace WO
abbrev Sta := List Int × Int
structure Costs where
  n : Nat
  first : List (Option Int)
  btw : List (List (Option Int))
  last : List (Option Int)
structure Costs.Ok (C : Costs) : Prop where
  n3 : C.n ≤ 3
  f : C.first.length = 2 * C.n
  b : C.btw.length = 2 * C.n
  br : ∀ r ∈ C.btw, r.length = 2 * C.n
  l : C.last.length = 2 * C.n
  fp : ∀ c, some c ∈ C.first → 0 ≤ c
  bp : ∀ r ∈ C.btw, ∀ c, some c ∈ r → 0 ≤ c
  lp : ∀ c, some c ∈ C.last → 0 ≤ c
def getO (l : List (Option Int)) (i : Nat) : Option Int := l.getD i none
def fst (C : Costs) (e : Nat) : Option Int := getO C.first e
def bt (C : Costs) (e f : Nat) : Option Int := getO (C.btw.getD e []) f
def lst (C : Costs) (e : Nat) : Option Int := getO C.last e
def way (C : Costs) (e : Int) (l : Nat) : Option Int := if e < 0 then fst C l else bt C e.toNat l
def other (e : Int) : Int := if e % 2 = 0 then e + 1 else e - 1
def start : Sta := ([], -1)
theorem other_half {e : Int} (h : 0 ≤ e) : other e / 2 = e / 2 ∧ 0 ≤ other e := by
  unfold other
  split <;> omega
theorem other_other {e : Int} : other (other e) = e := by
  unfold other
  split <;> split <;> omega
theorem other_lt {e : Int} {n : Nat} (h : 0 ≤ e) (h2 : e < 2 * (n : Int)) : 0 ≤ other e ∧ other e < 2 * (n : Int) := by
  unfold other
  split <;> omega
theorem other_inj {a b : Int} (h : other a = other b) : a = b := by
  have := congrArg other h
  rwa [other_other, other_other] at this

/-! ### sorted insertion -/
def ins (x : Int) : List Int → List Int
  | [] => [x]
  | y :: r => if x ≤ y then x :: y :: r else y :: ins x r
theorem ins_perm (x : Int) : ∀ l : List Int, (ins x l).Perm (x :: l)
  | [] => List.Perm.refl _
  | y :: r => by
    unfold ins
    split
    · exact List.Perm.refl _
    · exact ((ins_perm x r).cons y).trans (List.Perm.swap x y r)
theorem mem_ins {x y : Int} {l : List Int} : y ∈ ins x l ↔ y = x ∨ y ∈ l := by
  rw [(ins_perm x l).mem_iff, List.mem_cons]
theorem ins_len (x : Int) (l : List Int) : (ins x l).length = l.length + 1 := (ins_perm x l).length_eq
theorem ins_lt {x : Int} : ∀ {l : List Int}, l.Pairwise (· < ·) → x ∉ l → (ins x l).Pairwise (· < ·)
  | [], _, _ => by simp [ins]
  | y :: r, h, hx => by
    obtain ⟨h1, h2⟩ := List.pairwise_cons.mp h
    have hxy : x ≠ y := fun e => hx (by rw [e]; exact List.mem_cons_self)
    have hxr : x ∉ r := fun e => hx (List.mem_cons_of_mem _ e)
    unfold ins
    split
    · rename_i hle
      refine List.pairwise_cons.mpr ⟨fun z hz => ?_, h⟩
      rcases List.mem_cons.mp hz with e | e
      · omega
      · have := h1 z e
        omega
    · rename_i hle
      refine List.pairwise_cons.mpr ⟨fun z hz => ?_, ins_lt h2 hxr⟩
      rcases mem_ins.mp hz with e | e
      · omega
      · exact h1 z e
/-- two rising lists of the same things are one -/
theorem rising_one : ∀ {a b : List Int}, a.Perm b → a.Pairwise (· ≤ ·) → b.Pairwise (· ≤ ·) → a = b
  | [], b, p, _, _ => (List.nil_perm.mp p).symm
  | x :: a, [], p, _, _ => absurd p.length_eq (by simp)
  | x :: a, y :: b, p, ha, hb => by
    obtain ⟨h1, h2⟩ := List.pairwise_cons.mp ha
    obtain ⟨h3, h4⟩ := List.pairwise_cons.mp hb
    have e : x = y := by
      have m1 : x ∈ y :: b := p.mem_iff.mp List.mem_cons_self
      have m2 : y ∈ x :: a := p.mem_iff.mpr List.mem_cons_self
      rcases List.mem_cons.mp m1 with e | e
      · exact e
      · rcases List.mem_cons.mp m2 with e2 | e2
        · exact e2.symm
        · have := h3 x e
          have := h1 y e2
          omega
    subst e
    rw [rising_one ((List.perm_cons x).mp p) h2 h4]
theorem lt_le {l : List Int} (h : l.Pairwise (· < ·)) : l.Pairwise (· ≤ ·) := h.imp fun h => by omega
/-- what sorted([*done, x]) is -/
theorem sorted_ins {x : Int} {l r : List Int} (hl : l.Pairwise (· < ·)) (hx : x ∉ l) (p : r.Perm (l ++ [x])) (s : r.Pairwise (· ≤ ·)) : r = ins x l := by
  refine rising_one ?_ s (lt_le (ins_lt hl hx))
  refine p.trans ((List.perm_append_comm (l₁ := l) (l₂ := [x])).trans (ins_perm x l).symm)
theorem ins_filter {x : Int} : ∀ {l : List Int}, x ∉ l → (ins x l).filter (fun y => decide (y ≠ x)) = l
  | [], _ => by simp [ins]
  | y :: r, h => by
    have hxy : y ≠ x := fun e => h (by rw [e]; exact List.mem_cons_self)
    have hxr : x ∉ r := fun e => h (List.mem_cons_of_mem _ e)
    have hr : r.filter (fun y => decide (y ≠ x)) = r := List.filter_eq_self.mpr fun z hz => decide_eq_true fun e => hxr (e ▸ hz)
    unfold ins
    split
    · rw [List.filter_cons_of_neg (by simp), List.filter_cons_of_pos (by simpa using hxy), hr]
    · rw [List.filter_cons_of_pos (by simpa using hxy), ins_filter hxr]
/-- a rising list within lo .. hi is short -/
theorem rise_len : ∀ {l : List Int} {lo hi : Int}, l.Pairwise (· < ·) → (∀ x ∈ l, lo ≤ x ∧ x < hi) → lo ≤ hi → (l.length : Int) ≤ hi - lo
  | [], lo, hi, _, _, h => by simp; omega
  | x :: r, lo, hi, hp, hx, h => by
    obtain ⟨h1, h2⟩ := List.pairwise_cons.mp hp
    have a := hx x List.mem_cons_self
    have ih := rise_len (l := r) (lo := x + 1) (hi := hi) h2 (fun y hy => ⟨h1 y hy, (hx y (List.mem_cons_of_mem _ hy)).2⟩) (by omega)
    simp only [List.length_cons]
    omega

/-! ### steps -/
def stepAt (C : Costs) (s : Sta) (l : Nat) : Option (Sta × Int) :=
  if ((l : Int) / 2) ∈ s.1 then none else (way C s.2 l).map fun c => ((ins ((l : Int) / 2) s.1, other l), c)
def stepsTo (C : Costs) (s : Sta) (k : Nat) : List (Sta × Int) := (List.range k).filterMap (stepAt C s)
def steps (C : Costs) (s : Sta) : List (Sta × Int) := stepsTo C s (2 * C.n)
theorem stepsTo_succ (C : Costs) (s : Sta) (k : Nat) : stepsTo C s (k + 1) = stepsTo C s k ++ (stepAt C s k).toList := by
  unfold stepsTo
  rw [List.range_succ, List.filterMap_append]
  cases h : stepAt C s k <;> simp [List.filterMap_cons, h]
theorem stepsTo_len (C : Costs) (s : Sta) (k : Nat) : (stepsTo C s k).length ≤ k := by
  unfold stepsTo
  exact Nat.le_trans (List.length_filterMap_le _ _) (by simp)
theorem mem_steps {C : Costs} {s t : Sta} {c : Int} : (t, c) ∈ steps C s ↔ ∃ l : Nat, l < 2 * C.n ∧ stepAt C s l = some (t, c) := by
  unfold steps stepsTo
  simp [List.mem_filterMap]
theorem stepAt_some {C : Costs} {s t : Sta} {c : Int} {l : Nat} : stepAt C s l = some (t, c) ↔ ((l : Int) / 2) ∉ s.1 ∧ way C s.2 l = some c ∧ t = (ins ((l : Int) / 2) s.1, other l) := by
  unfold stepAt
  split
  · rename_i h
    simp [h]
  · rename_i h
    rw [Option.map_eq_some_iff]
    constructor
    · rintro ⟨a, e1, e2⟩
      cases e2
      exact ⟨h, e1, rfl⟩
    · rintro ⟨_, e1, rfl⟩
      exact ⟨c, e1, rfl⟩
structure Good (n : Nat) (s : Sta) : Prop where
  rise : s.1.Pairwise (· < ·)
  rng : ∀ x ∈ s.1, 0 ≤ x ∧ x < (n : Int)
  pos : (s.2 = -1 ∧ s.1 = []) ∨ (0 ≤ s.2 ∧ s.2 < 2 * (n : Int) ∧ s.2 / 2 ∈ s.1)
theorem good_start (n : Nat) : Good n start := ⟨List.Pairwise.nil, fun _ h => absurd h (by simp [start]), .inl ⟨rfl, rfl⟩⟩
theorem Good.len {n : Nat} {s : Sta} (g : Good n s) : s.1.length ≤ n := by
  have := rise_len g.rise g.rng (by omega)
  omega
theorem Good.start_of {n : Nat} {s : Sta} (g : Good n s) (h : s.2 < 0) : s = start := by
  rcases g.pos with ⟨a, b⟩ | ⟨a, _⟩
  · exact Prod.ext b a
  · omega
theorem Good.ends {n : Nat} {s : Sta} (g : Good n s) (h : ¬ s.2 < 0) : 0 ≤ s.2 ∧ s.2 < 2 * (n : Int) ∧ s.2 / 2 ∈ s.1 := by
  rcases g.pos with ⟨a, b⟩ | h'
  · omega
  · exact h'
theorem good_step {C : Costs} {s t : Sta} {c : Int} (g : Good C.n s) (h : (t, c) ∈ steps C s) : Good C.n t ∧ t.1.length = s.1.length + 1 ∧ 0 ≤ t.2 := by
  obtain ⟨l, hl, e⟩ := mem_steps.mp h
  obtain ⟨h1, h2, rfl⟩ := stepAt_some.mp e
  have ol := other_lt (e := (l : Int)) (n := C.n) (by omega) (by omega)
  have oh := other_half (e := (l : Int)) (by omega)
  refine ⟨⟨ins_lt g.rise h1, fun x hx => ?_, .inr ⟨ol.1, ol.2, ?_⟩⟩, ins_len _ _, ol.1⟩
  · rcases mem_ins.mp hx with e | e
    · omega
    · exact g.rng x e
  · show other (l : Int) / 2 ∈ ins ((l : Int) / 2) s.1
    rw [oh.1]
    exact mem_ins.mpr (.inl rfl)
/-- the step to a state, told by where it stands -/
theorem step_at {C : Costs} {s t : Sta} {c : Int} (h : (t, c) ∈ steps C s) : 0 ≤ other t.2 ∧ other t.2 < 2 * (C.n : Int) ∧ stepAt C s (other t.2).toNat = some (t, c) := by
  obtain ⟨l, hl, e⟩ := mem_steps.mp h
  obtain ⟨h1, h2, rfl⟩ := stepAt_some.mp e
  have o : other (other (l : Int)) = l := other_other
  refine ⟨by show 0 ≤ other (other (l : Int)); omega, by show other (other (l : Int)) < _; omega, ?_⟩
  show stepAt C s (other (other (l : Int))).toNat = _
  rw [o]
  exact e
/-- what stands ahead of a state -/
theorem step_before {C : Costs} {s t : Sta} {c : Int} (h : (t, c) ∈ steps C s) : t.1.filter (fun y => decide (y ≠ t.2 / 2)) = s.1 := by
  obtain ⟨l, hl, e⟩ := mem_steps.mp h
  obtain ⟨h1, h2, rfl⟩ := stepAt_some.mp e
  have oh := other_half (e := (l : Int)) (by omega)
  show (ins ((l : Int) / 2) s.1).filter (fun y => decide (y ≠ other (l : Int) / 2)) = s.1
  rw [oh.1]
  exact ins_filter h1
/-- near: those of the steps that stand at an end -/
def near (C : Costs) (s : Sta) (e : Int) : List (Sta × Int) := (steps C s).filter fun p => decide (p.1.2 = other e)
theorem filter_range_one {α : Type} (f : Nat → Option α) (p : α → Bool) {e : Nat} : ∀ {k : Nat}, (∀ l a, l < k → f l = some a → (p a = true ↔ l = e)) → ((List.range k).filterMap f).filter p = if e < k then (f e).toList else []
  | 0, _ => by simp
  | k + 1, h => by
    rw [List.range_succ, List.filterMap_append, List.filter_append, filter_range_one f p (k := k) fun l a hl => h l a (by omega)]
    by_cases hk : k = e
    · subst hk
      rw [if_neg (Nat.lt_irrefl _), if_pos (Nat.lt_succ_self _)]
      cases hf : f k with
      | none => simp [List.filterMap_cons, hf]
      | some a => simp [List.filterMap_cons, hf, (h k a (Nat.lt_succ_self _) hf).mpr rfl]
    · have e2 : ((List.filterMap f [k]).filter p) = [] := by
        cases hf : f k with
        | none => simp [List.filterMap_cons, hf]
        | some a =>
          have : p a = false := by
            cases hp : p a with
            | false => rfl
            | true => exact absurd ((h k a (Nat.lt_succ_self _) hf).mp hp) hk
          simp [List.filterMap_cons, hf, this]
      rw [e2, List.append_nil]
      by_cases hlt : e < k
      · rw [if_pos hlt, if_pos (by omega)]
      · rw [if_neg hlt, if_neg (by omega)]
theorem near_eq {C : Costs} {s : Sta} {e : Int} (h0 : 0 ≤ e) (h1 : e < 2 * (C.n : Int)) : near C s e = (stepAt C s e.toNat).toList := by
  unfold near steps stepsTo
  rw [filter_range_one (stepAt C s) _ (e := e.toNat) (k := 2 * C.n) ?_, if_pos (by omega)]
  rintro l ⟨t, c⟩ hl hs
  obtain ⟨_, _, rfl⟩ := stepAt_some.mp hs
  simp only [decide_eq_true_eq]
  constructor
  · intro q
    have := other_inj q
    omega
  · intro q
    have : e = (l : Int) := by omega
    rw [this]

/-! ### costs of orders -/
def home (C : Costs) (s : Sta) : Option Int := if 2 * s.1.length < C.first.length then none else if s.2 < 0 then some 0 else lst C s.2.toNat
def costFrom (C : Costs) : Sta → Int → List Int → Option Int
  | s, f, [] => (home C s).map (f + ·)
  | s, f, e :: r => match (near C s e).head? with
    | none => none
    | some (t, c) => costFrom C t (f + c) r
def costOf (C : Costs) (o : List Int) : Option Int := costFrom C start 0 o
def pairsOf (o : List Int) : List (Int × Int) := o.zip (o.drop 1)
def lawRows (C : Costs) (o : List Int) : List (Option Int) := fst C (o.headD 0).toNat :: (pairsOf o).map (fun p => bt C (other p.1).toNat p.2.toNat) ++ [lst C (other (o.getLastD 0)).toNat]
def sumO (l : List (Option Int)) : Int := (l.map fun x => x.getD 0).sum
def lawCost (C : Costs) (o : List Int) : Option Int :=
  if o = [] then (if C.first = [] then some 0 else none) else if o.length * 2 ≠ C.first.length ∨ (lawRows C o).any (·.isNone) = true then none else some (sumO (lawRows C o))
structure Part (n : Nat) (o : List Int) : Prop where
  nd : (o.map (· / 2)).Nodup
  rng : ∀ e ∈ o, 0 ≤ e ∧ e < 2 * (n : Int)
/-- the rows of what is left, from where one stands -/
def rowsFrom (C : Costs) : Int → List Int → List (Option Int)
  | cur, [] => [if cur < 0 then some 0 else lst C cur.toNat]
  | cur, e :: r => way C cur e.toNat :: rowsFrom C (other e) r
def total (f : Int) (l : List (Option Int)) : Option Int := if l.any (·.isNone) = true then none else some (f + sumO l)
theorem total_cons (f : Int) (x : Option Int) (l : List (Option Int)) : total f (x :: l) = match x with
    | none => none
    | some c => total (f + c) l := by
  cases x with
  | none => simp [total]
  | some c => simp [total, sumO, Int.add_assoc]
theorem costFrom_rows {C : Costs} (ok : C.Ok) : ∀ {o : List Int} {s : Sta} {f : Int}, Good C.n s → (o.map (· / 2)).Nodup → (∀ e ∈ o, 0 ≤ e ∧ e < 2 * (C.n : Int)) → (∀ e ∈ o, e / 2 ∉ s.1) →
    costFrom C s f o = if s.1.length + o.length < C.n then none else total f (rowsFrom C s.2 o)
  | [], s, f, g, _, _, _ => by
    have hf := ok.f
    unfold costFrom home
    rw [List.length_nil, Nat.add_zero]
    by_cases h : s.1.length < C.n
    · rw [if_pos (by omega), if_pos h]
      rfl
    · rw [if_neg (by omega), if_neg h]
      unfold rowsFrom
      by_cases h2 : s.2 < 0
      · simp [h2, total, sumO]
      · simp only [h2, if_false]
        rw [total_cons]
        cases lst C s.2.toNat with
        | none => rfl
        | some c => simp [total, sumO]
  | e :: r, s, f, g, hn, hr, hd => by
    have he := hr e List.mem_cons_self
    rw [List.map_cons, List.nodup_cons] at hn
    unfold costFrom
    rw [near_eq he.1 he.2]
    have ee : ((e.toNat : Nat) : Int) = e := by omega
    have hnot : ((e.toNat : Nat) : Int) / 2 ∉ s.1 := by rw [ee]; exact hd e List.mem_cons_self
    unfold rowsFrom
    rw [total_cons]
    cases hw : way C s.2 e.toNat with
    | none =>
      have : stepAt C s e.toNat = none := by unfold stepAt; rw [if_neg hnot, hw]; rfl
      rw [this]
      simp
    | some c =>
      have hs : stepAt C s e.toNat = some ((ins (e / 2) s.1, other e), c) := by unfold stepAt; rw [if_neg hnot, hw, ee]; rfl
      rw [hs]
      simp only [Option.toList_some, List.head?_cons]
      have hm : ((ins (e / 2) s.1, other e), c) ∈ steps C s := mem_steps.mpr ⟨e.toNat, by omega, hs⟩
      rw [costFrom_rows ok (good_step g hm).1 hn.2 (fun x hx => hr x (List.mem_cons_of_mem _ hx)) fun x hx => ?_]
      · simp only [ins_len, List.length_cons]
        rw [show s.1.length + 1 + r.length = s.1.length + (r.length + 1) by omega]
      · intro hx2
        rcases mem_ins.mp hx2 with q | q
        · exact hn.1 (q ▸ List.mem_map.mpr ⟨x, hx, rfl⟩)
        · exact hd x (List.mem_cons_of_mem _ hx) q
theorem rows_tail (C : Costs) : ∀ (e : Int) (r : List Int), 0 ≤ e → (∀ x ∈ r, 0 ≤ x) → rowsFrom C (other e) r = (pairsOf (e :: r)).map (fun p => bt C (other p.1).toNat p.2.toNat) ++ [lst C (other ((e :: r).getLastD 0)).toNat]
  | e, [], h, _ => by
    have := (other_half h).2
    unfold rowsFrom
    rw [if_neg (by omega)]
    simp [pairsOf]
  | e, x :: r, h, hr => by
    have h2 := (other_half h).2
    have hx := hr x List.mem_cons_self
    have ih := rows_tail C x r hx fun y hy => hr y (List.mem_cons_of_mem _ hy)
    unfold rowsFrom
    rw [ih]
    have hw : way C (other e) x.toNat = bt C (other e).toNat x.toNat := by unfold way; rw [if_neg (by omega)]
    rw [hw]
    simp [pairsOf]
theorem rows_law (C : Costs) {o : List Int} (h : o ≠ []) (hr : ∀ x ∈ o, 0 ≤ x) : rowsFrom C (-1) o = lawRows C o := by
  cases o with
  | nil => exact absurd rfl h
  | cons e r =>
    unfold rowsFrom lawRows
    rw [rows_tail C e r (hr e List.mem_cons_self) fun x hx => hr x (List.mem_cons_of_mem _ hx)]
    simp [way]
theorem insAll_spec : ∀ l : List Int, l.Nodup → ∃ r : List Int, r.Perm l ∧ r.Pairwise (· < ·)
  | [], _ => ⟨[], List.Perm.refl _, List.Pairwise.nil⟩
  | x :: l, h => by
    rw [List.nodup_cons] at h
    obtain ⟨r, p, s⟩ := insAll_spec l h.2
    exact ⟨ins x r, (ins_perm x r).trans (p.cons x), ins_lt s fun q => h.1 (p.mem_iff.mp q)⟩
theorem nodup_short {n : Nat} {l : List Int} (h : l.Nodup) (hr : ∀ x ∈ l, 0 ≤ x ∧ x < (n : Int)) : l.length ≤ n := by
  obtain ⟨r, p, s⟩ := insAll_spec l h
  have := rise_len s (lo := 0) (hi := n) (fun x hx => hr x (p.mem_iff.mp hx)) (by omega)
  rw [← p.length_eq]
  omega
theorem cost_law {C : Costs} (ok : C.Ok) {o : List Int} (p : Part C.n o) : costOf C o = lawCost C o := by
  have hf := ok.f
  have hlen : o.length ≤ C.n := by
    have := nodup_short (n := C.n) p.nd fun x hx => by
      obtain ⟨e, he, rfl⟩ := List.mem_map.mp hx
      have := p.rng e he
      omega
    simpa using this
  unfold costOf
  rw [costFrom_rows ok (good_start _) p.nd p.rng fun _ _ h => absurd h (by simp [start])]
  unfold lawCost
  by_cases ho : o = []
  · subst ho
    simp only [if_pos]
    by_cases hc : C.first = []
    · have : C.n = 0 := by rw [hc] at hf; simp at hf; omega
      simp [hc, this, start, rowsFrom, total, sumO]
    · have : C.first.length ≠ 0 := fun e => hc (List.length_eq_zero_iff.mp e)
      rw [if_neg hc, if_pos (by simp [start]; omega)]
  · rw [if_neg ho]
    have hr := rows_law C ho fun x hx => (p.rng x hx).1
    show (if 0 + o.length < C.n then none else total 0 (rowsFrom C (-1) o)) = _
    rw [hr, Nat.zero_add]
    by_cases hl : o.length < C.n
    · rw [if_pos hl, if_pos (.inl (by omega))]
    · rw [if_neg hl]
      unfold total
      by_cases ha : (lawRows C o).any (·.isNone) = true
      · rw [if_pos ha, if_pos (.inr ha)]
      · rw [if_neg ha, if_neg (fun q => q.elim (fun q => q (by omega)) ha), Int.zero_add]

/-! ### the orders of all strokes -/
def orders : Nat → List Int → List (List Int)
  | 0, _ => [[]]
  | k + 1, left => left.flatMap fun one => (orders k (left.filter fun x => decide (x ≠ one))).map ((2 * one) :: ·) ++ (orders k (left.filter fun x => decide (x ≠ one))).map ((2 * one + 1) :: ·)
theorem perm_filter {x : Int} : ∀ {l : List Int}, l.Nodup → x ∈ l → (x :: l.filter fun y => decide (y ≠ x)).Perm l
  | [], _, h => absurd h (by simp)
  | y :: r, hn, h => by
    rw [List.nodup_cons] at hn
    by_cases e : y = x
    · subst e
      have hr : r.filter (fun z => decide (z ≠ y)) = r := List.filter_eq_self.mpr fun z hz => decide_eq_true fun (q : z = y) => hn.1 (by rw [← q]; exact hz)
      rw [List.filter_cons_of_neg (by simp), hr]
    · have hx : x ∈ r := (List.mem_cons.mp h).elim (fun q => absurd q.symm e) id
      rw [List.filter_cons_of_pos (by simpa using e)]
      exact (List.Perm.swap y x _).trans ((perm_filter hn.2 hx).cons y)
theorem filter_len {x : Int} {l : List Int} {k : Nat} (hn : l.Nodup) (h : x ∈ l) (hk : l.length = k + 1) : (l.filter fun y => decide (y ≠ x)).length = k := by
  have := (perm_filter hn h).length_eq
  simp only [List.length_cons] at this
  omega
theorem mem_orders : ∀ {k : Nat} {left o : List Int}, left.Nodup → left.length = k → (o ∈ orders k left ↔ (o.map (· / 2)).Perm left)
  | 0, left, o, _, hk => by
    have : left = [] := List.length_eq_zero_iff.mp hk
    subst this
    simp [orders]
  | k + 1, left, o, hn, hk => by
    unfold orders
    rw [List.mem_flatMap]
    constructor
    · rintro ⟨one, h1, h2⟩
      have hl := filter_len hn h1 hk
      have hf : (left.filter fun x => decide (x ≠ one)).Nodup := hn.filter _
      rcases List.mem_append.mp h2 with h2 | h2
      · obtain ⟨o', h3, rfl⟩ := List.mem_map.mp h2
        have p := (mem_orders hf hl).mp h3
        rw [List.map_cons, show 2 * one / 2 = one by omega]
        exact (p.cons one).trans (perm_filter hn h1)
      · obtain ⟨o', h3, rfl⟩ := List.mem_map.mp h2
        have p := (mem_orders hf hl).mp h3
        rw [List.map_cons, show (2 * one + 1) / 2 = one by omega]
        exact (p.cons one).trans (perm_filter hn h1)
    · intro p
      cases o with
      | nil =>
        have := p.length_eq
        simp at this
        omega
      | cons e r =>
        rw [List.map_cons] at p
        have h1 : e / 2 ∈ left := p.mem_iff.mp List.mem_cons_self
        have hl := filter_len hn h1 hk
        have hf : (left.filter fun x => decide (x ≠ e / 2)).Nodup := hn.filter _
        have h3 : r ∈ orders k (left.filter fun x => decide (x ≠ e / 2)) := (mem_orders hf hl).mpr ((List.perm_cons _).mp (p.trans (perm_filter hn h1).symm))
        refine ⟨e / 2, h1, List.mem_append.mpr ?_⟩
        by_cases he : e % 2 = 0
        · exact .inl (List.mem_map.mpr ⟨r, h3, by rw [show 2 * (e / 2) = e by omega]⟩)
        · exact .inr (List.mem_map.mpr ⟨r, h3, by rw [show 2 * (e / 2) + 1 = e by omega]⟩)
def upto (n : Nat) : List Int := (List.range n).map fun (i : Nat) => (i : Int)
theorem upto_len (n : Nat) : (upto n).length = n := by simp [upto]
theorem upto_mem {n : Nat} {x : Int} : x ∈ upto n ↔ 0 ≤ x ∧ x < (n : Int) := by
  unfold upto
  rw [List.mem_map]
  constructor
  · rintro ⟨i, hi, rfl⟩
    have := List.mem_range.mp hi
    omega
  · intro h
    exact ⟨x.toNat, List.mem_range.mpr (by omega), by omega⟩
theorem upto_nodup (n : Nat) : (upto n).Nodup := by
  unfold upto
  refine List.Pairwise.map _ (fun a b h => ?_) (List.nodup_range (n := n))
  omega
def allOrders (C : Costs) : List (List Int) := orders C.n (upto C.n)
theorem all_iff {C : Costs} {o : List Int} : o ∈ allOrders C ↔ (o.map (· / 2)).Perm (upto C.n) := mem_orders (upto_nodup _) (upto_len _)
theorem all_part {C : Costs} {o : List Int} (h : o ∈ allOrders C) : Part C.n o ∧ o.length = C.n := by
  have p := all_iff.mp h
  refine ⟨⟨p.nodup_iff.mpr (upto_nodup _), fun e he => ?_⟩, ?_⟩
  · have := upto_mem.mp (p.mem_iff.mp (List.mem_map.mpr ⟨e, he, rfl⟩))
    omega
  · have := p.length_eq
    rw [upto_len, List.length_map] at this
    exact this
theorem part_sub {n : Nat} {a b : List Int} (s : a.Sublist b) (p : Part n b) : Part n a := ⟨(s.map _).nodup p.nd, fun e he => p.rng e (s.subset he)⟩
/-- an order of all is one of the list -/
theorem perm_full {n : Nat} {l : List Int} (hn : l.Nodup) (hr : ∀ x ∈ l, 0 ≤ x ∧ x < (n : Int)) (hl : l.length = n) : l.Perm (upto n) := by
  have key : ∀ (k : Nat) (a b : List Int), a.length = k → a.Nodup → b.Nodup → (∀ x ∈ a, x ∈ b) → b.length ≤ k → a.Perm b := by
    intro k
    induction k with
    | zero =>
      intro a b ha _ _ _ hb
      rw [List.length_eq_zero_iff.mp ha, List.length_eq_zero_iff.mp (by omega : b.length = 0)]
    | succ k ih =>
      intro a b ha hna hnb hs hb
      cases a with
      | nil => simp at ha
      | cons x r =>
        rw [List.nodup_cons] at hna
        have hx : x ∈ b := hs x List.mem_cons_self
        have pb := perm_filter hnb hx
        have hlb := pb.length_eq
        simp only [List.length_cons] at hlb ha
        refine List.Perm.trans ((ih r (b.filter fun y => decide (y ≠ x)) (by omega) hna.2 (hnb.filter _) (fun y hy => List.mem_filter.mpr ⟨hs y (List.mem_cons_of_mem _ hy), decide_eq_true fun e => hna.1 (e ▸ hy)⟩) (by omega)).cons x) pb
  exact key n l (upto n) hl hn (upto_nodup n) (fun x hx => upto_mem.mpr (hr x hx)) (by rw [upto_len]; exact Nat.le_refl _)
/-- an order that has a cost is one of all strokes -/
theorem cost_full {C : Costs} (ok : C.Ok) : ∀ {o : List Int} {s : Sta} {f c : Int}, Good C.n s → (∀ e ∈ o, 0 ≤ e ∧ e < 2 * (C.n : Int)) → costFrom C s f o = some c →
    (o.map (· / 2)).Nodup ∧ (∀ e ∈ o, e / 2 ∉ s.1) ∧ s.1.length + o.length = C.n
  | [], s, f, c, g, _, h => by
    have hf := ok.f
    have := g.len
    unfold costFrom home at h
    by_cases h2 : 2 * s.1.length < C.first.length
    · rw [if_pos h2] at h
      cases h
    · exact ⟨List.nodup_nil, fun _ h => absurd h (by simp), by simp; omega⟩
  | e :: r, s, f, c, g, hr, h => by
    have he := hr e List.mem_cons_self
    unfold costFrom at h
    rw [near_eq he.1 he.2] at h
    cases hs : stepAt C s e.toNat with
    | none => rw [hs] at h; cases h
    | some p =>
      obtain ⟨t, d⟩ := p
      rw [hs] at h
      simp only [Option.toList_some, List.head?_cons] at h
      have hm : (t, d) ∈ steps C s := mem_steps.mpr ⟨e.toNat, by omega, hs⟩
      obtain ⟨h1, h2, e3⟩ := stepAt_some.mp hs
      have ee : ((e.toNat : Nat) : Int) = e := by omega
      rw [ee] at h1 e3
      obtain ⟨a1, a2, a3⟩ := cost_full ok (good_step g hm).1 (fun x hx => hr x (List.mem_cons_of_mem _ hx)) h
      have hl := (good_step g hm).2.1
      have hin : ∀ y, y ∈ t.1 ↔ y = e / 2 ∨ y ∈ s.1 := fun y => by rw [e3]; exact mem_ins
      refine ⟨?_, fun x hx => ?_, by simp only [List.length_cons]; omega⟩
      · rw [List.map_cons, List.nodup_cons]
        refine ⟨fun q => ?_, a1⟩
        obtain ⟨x, hx, ex⟩ := List.mem_map.mp q
        exact a2 x hx ((hin _).mpr (.inl ex))
      · rcases List.mem_cons.mp hx with q | q
        · rw [q]; exact h1
        · exact fun z => a2 x q ((hin _).mpr (.inr z))
theorem cost_all {C : Costs} (ok : C.Ok) {o : List Int} {c : Int} (hr : ∀ e ∈ o, 0 ≤ e ∧ e < 2 * (C.n : Int)) (h : costOf C o = some c) : o ∈ allOrders C := by
  obtain ⟨a, _, b⟩ := cost_full ok (good_start _) hr h
  refine all_iff.mpr (perm_full a (fun x hx => ?_) (by simpa [start] using b))
  obtain ⟨e, he, rfl⟩ := List.mem_map.mp hx
  have := hr e he
  omega

/-! ### dicts of states -/
abbrev Tab := List (Sta × Int)
def keys (t : Tab) : List Sta := t.map (·.1)
def get (t : Tab) (s : Sta) : Option Int := (t.find? fun p => p.1 = s).map (·.2)
def put (t : Tab) (s : Sta) (v : Int) : Tab := if t.any (fun p => p.1 = s) then t.map (fun p => if p.1 = s then (p.1, v) else p) else t ++ [(s, v)]
theorem get_some {t : Tab} (h : (keys t).Nodup) {s : Sta} {v : Int} : get t s = some v ↔ (s, v) ∈ t := by
  induction t with
  | nil => simp [get]
  | cons p r ih =>
    unfold keys at h
    rw [List.map_cons, List.nodup_cons] at h
    by_cases e : p.1 = s
    · have : get (p :: r) s = some p.2 := by simp [get, e]
      rw [this]
      constructor
      · intro q
        cases q
        exact List.mem_cons.mpr (.inl (Prod.ext e.symm rfl))
      · intro q
        rcases List.mem_cons.mp q with q | q
        · rw [← q]
        · exact absurd (List.mem_map.mpr ⟨_, q, e.symm⟩) h.1
    · have : get (p :: r) s = get r s := by simp [get, e]
      rw [this, ih h.2]
      constructor
      · exact fun q => List.mem_cons_of_mem _ q
      · intro q
        rcases List.mem_cons.mp q with q | q
        · exact absurd (by rw [← q]) e
        · exact q
theorem get_none {t : Tab} {s : Sta} : get t s = none ↔ ∀ v, (s, v) ∉ t := by
  unfold get
  rw [Option.map_eq_none_iff, List.find?_eq_none]
  constructor
  · intro h v hv
    exact h (s, v) hv (by simp)
  · rintro h ⟨a, v⟩ hv e
    have e : a = s := by simpa using e
    exact h v (e ▸ hv)
theorem get_none_keys {t : Tab} {s : Sta} : get t s = none ↔ s ∉ keys t := by
  rw [get_none]
  constructor
  · intro h q
    obtain ⟨p, hp, rfl⟩ := List.mem_map.mp q
    exact h p.2 hp
  · intro h v hv
    exact h (List.mem_map.mpr ⟨_, hv, rfl⟩)
theorem mem_keys {t : Tab} {s : Sta} : s ∈ keys t ↔ ∃ v, (s, v) ∈ t := by
  constructor
  · intro q
    obtain ⟨p, hp, rfl⟩ := List.mem_map.mp q
    exact ⟨p.2, hp⟩
  · rintro ⟨v, hv⟩
    exact List.mem_map.mpr ⟨_, hv, rfl⟩
theorem any_keys {t : Tab} {s : Sta} : (t.any fun p => p.1 = s) = true ↔ s ∈ keys t := by
  simp [keys, List.any_eq_true]
theorem put_new {t : Tab} {s : Sta} {v : Int} (h : s ∉ keys t) : put t s v = t ++ [(s, v)] := by
  unfold put
  rw [if_neg fun q => h (any_keys.mp q)]
theorem put_old {t : Tab} {s : Sta} {v : Int} (h : s ∈ keys t) : keys (put t s v) = keys t ∧ ∀ a w, (a, w) ∈ put t s v ↔ (a = s ∧ w = v) ∨ (a ≠ s ∧ (a, w) ∈ t) := by
  unfold put
  rw [if_pos (any_keys.mpr h)]
  constructor
  · unfold keys
    rw [List.map_map]
    refine List.map_congr_left fun p _ => ?_
    show (if p.1 = s then (p.1, v) else p).1 = p.1
    split <;> rfl
  · intro a w
    rw [List.mem_map]
    constructor
    · rintro ⟨p, hp, e⟩
      split at e
      · rename_i q
        cases e
        exact .inl ⟨q, rfl⟩
      · rename_i q
        cases e
        exact .inr ⟨q, hp⟩
    · rintro (⟨rfl, rfl⟩ | ⟨e, hp⟩)
      · obtain ⟨v0, h0⟩ := mem_keys.mp h
        exact ⟨(a, v0), h0, by simp⟩
      · exact ⟨(a, w), hp, by simp [e]⟩
theorem put_len (t : Tab) (s : Sta) (v : Int) : (put t s v).length ≤ t.length + 1 := by
  unfold put
  split <;> simp
theorem put_keys {t : Tab} {s : Sta} {v : Int} (x : Sta) (h : x ∈ keys (put t s v)) : x = s ∨ x ∈ keys t := by
  by_cases hs : s ∈ keys t
  · rw [(put_old hs).1] at h
    exact .inr h
  · rw [put_new hs] at h
    unfold keys at h ⊢
    rw [List.map_append, List.mem_append] at h
    rcases h with h | h
    · exact .inr h
    · exact .inl (by simpa using h)
theorem put_nodup {t : Tab} {s : Sta} {v : Int} (h : (keys t).Nodup) : (keys (put t s v)).Nodup := by
  by_cases hs : s ∈ keys t
  · rw [(put_old hs).1]
    exact h
  · rw [put_new hs]
    unfold keys
    rw [List.map_append, List.nodup_append]
    refine ⟨h, by simp, fun a ha b hb => ?_⟩
    have : b = s := by simpa using hb
    subst this
    exact fun e => hs (e ▸ ha)

/-! ### the least of the told -/
structure MinMap (P late : Tab) : Prop where
  nd : (keys late).Nodup
  sub : ∀ s v, (s, v) ∈ late → (s, v) ∈ P
  low : ∀ s v, (s, v) ∈ P → ∃ w, (s, w) ∈ late ∧ w ≤ v
theorem MinMap.nil : MinMap [] [] := ⟨List.nodup_nil, fun _ _ h => absurd h (by simp), fun _ _ h => absurd h (by simp)⟩
theorem MinMap.keep {P late : Tab} (m : MinMap P late) {s : Sta} {v w : Int} (h : get late s = some w) (hle : w ≤ v) : MinMap (P ++ [(s, v)]) late := by
  refine ⟨m.nd, fun a b hb => List.mem_append_left _ (m.sub a b hb), fun a b hb => ?_⟩
  rcases List.mem_append.mp hb with q | q
  · exact m.low a b q
  · have q : (a, b) = (s, v) := by simpa using q
    cases q
    exact ⟨w, (get_some m.nd).mp h, hle⟩
theorem MinMap.put {P late : Tab} (m : MinMap P late) {s : Sta} {v : Int} (h : ∀ w, get late s = some w → v ≤ w) : MinMap (P ++ [(s, v)]) (put late s v) := by
  by_cases hs : s ∈ keys late
  · obtain ⟨w, hw⟩ := mem_keys.mp hs
    have hv := h w ((get_some m.nd).mpr hw)
    have po := put_old (v := v) hs
    refine ⟨put_nodup m.nd, fun a b hb => ?_, fun a b hb => ?_⟩
    · rcases (po.2 a b).mp hb with ⟨rfl, rfl⟩ | ⟨_, q⟩
      · exact List.mem_append_right _ (by simp)
      · exact List.mem_append_left _ (m.sub a b q)
    · rcases List.mem_append.mp hb with q | q
      · obtain ⟨u, h1, h2⟩ := m.low a b q
        by_cases e : a = s
        · subst e
          have : u = w := by
            have := (get_some m.nd).mpr h1
            rw [(get_some m.nd).mpr hw] at this
            cases this
            rfl
          exact ⟨v, (po.2 a v).mpr (.inl ⟨rfl, rfl⟩), by omega⟩
        · exact ⟨u, (po.2 a u).mpr (.inr ⟨e, h1⟩), h2⟩
      · have q : (a, b) = (s, v) := by simpa using q
        cases q
        exact ⟨v, (po.2 s v).mpr (.inl ⟨rfl, rfl⟩), Int.le_refl _⟩
  · refine ⟨put_nodup m.nd, fun a b hb => ?_, fun a b hb => ?_⟩
    · rw [put_new hs] at hb
      rcases List.mem_append.mp hb with q | q
      · exact List.mem_append_left _ (m.sub a b q)
      · exact List.mem_append_right _ q
    · rw [put_new hs]
      rcases List.mem_append.mp hb with q | q
      · obtain ⟨u, h1, h2⟩ := m.low a b q
        exact ⟨u, List.mem_append_left _ h1, h2⟩
      · exact ⟨b, List.mem_append_right _ q, Int.le_refl _⟩

/-! ### heights -/
/-- what follows from a layer, told in an order of its states -/
def told (C : Costs) (ly : Tab) (ss : List Sta) : Tab := ss.flatMap fun s => (steps C s).map fun p => (p.1, (get ly s).getD 0 + p.2)
theorem told_app (C : Costs) (ly : Tab) (a b : List Sta) : told C ly (a ++ b) = told C ly a ++ told C ly b := by simp [told]
structure Lay (C : Costs) (k : Nat) (hs ly : Tab) : Prop where
  nd : (keys (hs ++ ly)).Nodup
  old : ∀ s v, (s, v) ∈ hs → Good C.n s ∧ s.1.length < k
  now : ∀ s v, (s, v) ∈ ly → Good C.n s ∧ s.1.length = k
  beg : (start, 0) ∈ hs ++ ly
  step : ∀ s v, (s, v) ∈ hs → ∀ t c, (t, c) ∈ steps C s → ∃ w, (t, w) ∈ hs ++ ly ∧ w ≤ v + c
  back : ∀ s v, (s, v) ∈ hs ++ ly → s ≠ start → ∃ a w c, (a, w) ∈ hs ∧ (s, c) ∈ steps C a ∧ v = w + c
theorem Lay.first (C : Costs) : Lay C 0 [] [(start, 0)] := by
  refine ⟨by simp [keys], fun _ _ h => absurd h (by simp), fun s v h => ?_, by simp, fun _ _ h => absurd h (by simp), fun s v h hn => ?_⟩
  · have h : (s, v) = (start, 0) := by simpa using h
    cases h
    exact ⟨good_start _, rfl⟩
  · have h : (s, v) = (start, 0) := by simpa using h
    cases h
    exact absurd rfl hn
theorem Lay.short {C : Costs} {k : Nat} {hs ly : Tab} (L : Lay C k hs ly) (h : ly ≠ []) : k ≤ C.n := by
  cases ly with
  | nil => exact absurd rfl h
  | cons p r =>
    have := L.now p.1 p.2 List.mem_cons_self
    have := this.1.len
    omega
theorem Lay.next {C : Costs} {k : Nat} {hs ly late : Tab} {ss : List Sta} (L : Lay C k hs ly) (p : ss.Perm (keys ly)) (m : MinMap (told C ly ss) late) : Lay C (k + 1) (hs ++ ly) late := by
  have ndl : (keys ly).Nodup := by
    have := L.nd
    unfold keys at this ⊢
    rw [List.map_append, List.nodup_append] at this
    exact this.2.1
  have tin : ∀ t w, (t, w) ∈ told C ly ss → ∃ a v c, (a, v) ∈ ly ∧ (t, c) ∈ steps C a ∧ w = v + c := fun t w h => by
    unfold told at h
    rw [List.mem_flatMap] at h
    obtain ⟨a, ha, h⟩ := h
    obtain ⟨⟨u, c⟩, hu, e⟩ := List.mem_map.mp h
    cases e
    obtain ⟨v, hv⟩ := mem_keys.mp (p.mem_iff.mp ha)
    exact ⟨a, v, c, hv, hu, by rw [(get_some ndl).mpr hv]; rfl⟩
  have good : ∀ t w, (t, w) ∈ late → Good C.n t ∧ t.1.length = k + 1 := fun t w h => by
    obtain ⟨a, v, c, h1, h2, _⟩ := tin t w (m.sub t w h)
    have g := L.now a v h1
    have := good_step g.1 h2
    exact ⟨this.1, by omega⟩
  have oldg : ∀ s v, (s, v) ∈ hs ++ ly → Good C.n s ∧ s.1.length < k + 1 := fun s v h => by
    rcases List.mem_append.mp h with q | q
    · have := L.old s v q
      exact ⟨this.1, by omega⟩
    · have := L.now s v q
      exact ⟨this.1, by omega⟩
  refine ⟨?_, oldg, good, List.mem_append_left _ L.beg, fun s v h t c ht => ?_, fun s v h hn => ?_⟩
  · unfold keys
    rw [List.map_append, List.nodup_append]
    refine ⟨L.nd, m.nd, fun a ha b hb e => ?_⟩
    subst e
    obtain ⟨v, hv⟩ := mem_keys.mp (show a ∈ keys (hs ++ ly) from ha)
    obtain ⟨w, hw⟩ := mem_keys.mp (show a ∈ keys late from hb)
    have g1 := (oldg a v hv).2
    have g2 := (good a w hw).2
    omega
  · rcases List.mem_append.mp h with q | q
    · obtain ⟨w, h1, h2⟩ := L.step s v q t c ht
      exact ⟨w, List.mem_append_left _ h1, h2⟩
    · have hs' : s ∈ ss := p.mem_iff.mpr (mem_keys.mpr ⟨v, q⟩)
      have : (t, v + c) ∈ told C ly ss := by
        unfold told
        rw [List.mem_flatMap]
        refine ⟨s, hs', List.mem_map.mpr ⟨(t, c), ht, ?_⟩⟩
        rw [(get_some ndl).mpr q]
        rfl
      obtain ⟨w, h1, h2⟩ := m.low t (v + c) this
      exact ⟨w, List.mem_append_right _ h1, h2⟩
  · rcases List.mem_append.mp h with q | q
    · obtain ⟨a, w, c, h1, h2, h3⟩ := L.back s v q hn
      exact ⟨a, w, c, List.mem_append_left _ h1, h2, h3⟩
    · obtain ⟨a, w, c, h1, h2, h3⟩ := tin s v (m.sub s v q)
      exact ⟨a, w, c, List.mem_append_right _ h1, h2, h3⟩
/-- what heights_of gives -/
structure Hts (C : Costs) (hs : Tab) : Prop where
  nd : (keys hs).Nodup
  good : ∀ s v, (s, v) ∈ hs → Good C.n s
  beg : (start, 0) ∈ hs
  step : ∀ s v, (s, v) ∈ hs → ∀ t c, (t, c) ∈ steps C s → ∃ w, (t, w) ∈ hs ∧ w ≤ v + c
  back : ∀ s v, (s, v) ∈ hs → s ≠ start → ∃ a w c, (a, w) ∈ hs ∧ (s, c) ∈ steps C a ∧ v = w + c
theorem Lay.done {C : Costs} {k : Nat} {hs : Tab} (L : Lay C k hs []) : Hts C hs := by
  have nd := L.nd
  have beg := L.beg
  rw [List.append_nil] at nd beg
  refine ⟨nd, fun s v h => (L.old s v h).1, beg, fun s v h t c ht => ?_, fun s v h hn => L.back s v (by rw [List.append_nil]; exact h) hn⟩
  obtain ⟨w, h1, h2⟩ := L.step s v h t c ht
  rw [List.append_nil] at h1
  exact ⟨w, h1, h2⟩

/-! ### a paper -/
def okAt (C : Costs) (h : Tab) (cost : Int) (s : Sta) (v : Int) : Bool :=
  (match home C s with | none => true | some m => decide (cost ≤ v + m)) && (steps C s).all fun p => match get h p.1 with | none => false | some w => decide (w ≤ v + p.2)
def isLeast (C : Costs) (o : List Int) (h : Tab) : Bool := match costOf C o with
  | none => false
  | some cost => decide (get h start = some 0) && h.all fun p => okAt C h cost p.1 p.2
/-- a paper shows it -/
theorem paper {C : Costs} {h : Tab} {cost : Int} (nd : (keys h).Nodup) (al : ∀ s v, (s, v) ∈ h → okAt C h cost s v = true) : ∀ {o : List Int} {s : Sta} {f v c : Int}, (s, v) ∈ h → v ≤ f → costFrom C s f o = some c → cost ≤ c
  | [], s, f, v, c, hs, hv, e => by
    have a := al s v hs
    unfold costFrom at e
    rw [Option.map_eq_some_iff] at e
    obtain ⟨m, hm, rfl⟩ := e
    unfold okAt at a
    rw [hm, Bool.and_eq_true] at a
    have := of_decide_eq_true a.1
    omega
  | e :: r, s, f, v, c, hs, hv, q => by
    have a := al s v hs
    unfold costFrom at q
    cases hn : (near C s e).head? with
    | none => rw [hn] at q; cases q
    | some p =>
      obtain ⟨t, d⟩ := p
      rw [hn] at q
      have hm : (t, d) ∈ steps C s := (List.mem_filter.mp (List.mem_of_head? hn)).1
      unfold okAt at a
      rw [Bool.and_eq_true, List.all_eq_true] at a
      have b := a.2 (t, d) hm
      cases hg : get h t with
      | none => simp only [hg] at b; cases b
      | some w =>
        simp only [hg] at b
        have := of_decide_eq_true b
        exact paper nd al ((get_some nd).mp hg) (by omega) q
theorem least_paper {C : Costs} {h : Tab} {o o' : List Int} {c' : Int} (nd : (keys h).Nodup) (e : isLeast C o h = true) (hc : costOf C o' = some c') : ∃ c, costOf C o = some c ∧ c ≤ c' := by
  unfold isLeast at e
  cases hco : costOf C o with
  | none => rw [hco] at e; cases e
  | some c =>
    rw [hco] at e
    simp only [Bool.and_eq_true, List.all_eq_true] at e
    have h0 := (get_some nd).mp (of_decide_eq_true e.1)
    exact ⟨c, rfl, paper nd (fun s v hs => e.2 (s, v) hs) h0 (Int.le_refl 0) hc⟩
theorem hts_paper {C : Costs} {hs : Tab} (H : Hts C hs) {o : List Int} {cost : Int} (hc : costOf C o = some cost) (hm : ∀ s v m, (s, v) ∈ hs → home C s = some m → cost ≤ v + m) : isLeast C o hs = true := by
  unfold isLeast
  rw [hc]
  simp only [Bool.and_eq_true, List.all_eq_true]
  refine ⟨decide_eq_true ((get_some H.nd).mpr H.beg), fun p hp => ?_⟩
  unfold okAt
  rw [Bool.and_eq_true, List.all_eq_true]
  constructor
  · cases h : home C p.1 with
    | none => rfl
    | some m => exact decide_eq_true (hm p.1 p.2 m hp h)
  · rintro ⟨t, c⟩ ht
    obtain ⟨w, h1, h2⟩ := H.step p.1 p.2 hp t c ht
    simp only [(get_some H.nd).mpr h1]
    exact decide_eq_true h2

/-! ### the least one -/
/-- the best of some states -/
structure Best (C : Costs) (hs : Tab) (ss : List Sta) (b : Option (Int × Sta)) : Prop where
  bno : b = none → ∀ s ∈ ss, home C s = none
  bso : ∀ c s, b = some (c, s) → ∃ v m, (s, v) ∈ hs ∧ home C s = some m ∧ c = v + m
  blo : ∀ c s, b = some (c, s) → ∀ t ∈ ss, ∀ v m, (t, v) ∈ hs → home C t = some m → c ≤ v + m
theorem Best.nil (C : Costs) (hs : Tab) : Best C hs [] none := ⟨fun _ _ h => absurd h (by simp), fun _ _ h => (by cases h), fun _ _ h => (by cases h)⟩
def better (C : Costs) (hs : Tab) (b : Option (Int × Sta)) (s : Sta) : Option (Int × Sta) := match home C s with
  | none => b
  | some m => match b with
    | none => some ((get hs s).getD 0 + m, s)
    | some (c, t) => if (get hs s).getD 0 + m < c then some ((get hs s).getD 0 + m, s) else some (c, t)
theorem Best.next {C : Costs} {hs : Tab} {ss : List Sta} {b : Option (Int × Sta)} (nd : (keys hs).Nodup) (B : Best C hs ss b) {s : Sta} (h : s ∈ keys hs) : Best C hs (ss ++ [s]) (better C hs b s) := by
  obtain ⟨v0, hv0⟩ := mem_keys.mp h
  have g0 := (get_some nd).mpr hv0
  have one : ∀ v, (s, v) ∈ hs → v = v0 := fun v hv => by
    have := (get_some nd).mpr hv
    rw [g0] at this
    cases this
    rfl
  unfold better
  rw [g0, Option.getD_some]
  cases hh : home C s with
  | none =>
    refine ⟨fun e t ht => ?_, B.bso, fun c u e t ht v m hv hm => ?_⟩
    · rcases List.mem_append.mp ht with q | q
      · exact B.bno e t q
      · rw [show t = s by simpa using q]
        exact hh
    · rcases List.mem_append.mp ht with q | q
      · exact B.blo c u e t q v m hv hm
      · rw [show t = s by simpa using q, hh] at hm
        cases hm
  | some m0 =>
    have here : ∀ t, t ∈ ss ++ [s] → ∀ v m, (t, v) ∈ hs → home C t = some m → t ∈ ss ∨ v + m = v0 + m0 := fun t ht v m hv hm => by
      rcases List.mem_append.mp ht with q | q
      · exact .inl q
      · have e : t = s := by simpa using q
        subst e
        rw [hh] at hm
        cases hm
        rw [one v hv]
        exact .inr rfl
    cases b with
    | none =>
      refine ⟨fun e => (by cases e), fun c u e => ?_, fun c u e t ht v m hv hm => ?_⟩
      · cases e
        exact ⟨v0, m0, hv0, hh, rfl⟩
      · cases e
        rcases here t ht v m hv hm with q | q
        · rw [B.bno rfl t q] at hm
          cases hm
        · omega
    | some p =>
      obtain ⟨c0, t0⟩ := p
      show Best C hs (ss ++ [s]) (if v0 + m0 < c0 then some (v0 + m0, s) else some (c0, t0))
      split
      · rename_i hlt
        refine ⟨fun e => (by cases e), fun c u e => ?_, fun c u e t ht v m hv hm => ?_⟩
        · cases e
          exact ⟨v0, m0, hv0, hh, rfl⟩
        · cases e
          rcases here t ht v m hv hm with q | q
          · have := B.blo c0 t0 rfl t q v m hv hm
            omega
          · omega
      · rename_i hlt
        refine ⟨fun e => (by cases e), B.bso, fun c u e t ht v m hv hm => ?_⟩
        rcases here t ht v m hv hm with q | q
        · exact B.blo c u e t q v m hv hm
        · cases e
          omega
/-- on the way back: what is left costs so much -/
structure Trail (C : Costs) (hs : Tab) (b : Int) (s : Sta) (acc : List Int) : Prop where
  here : ∃ v, (s, v) ∈ hs ∧ costFrom C s v acc.reverse = some b
  rng : ∀ e ∈ acc, 0 ≤ e ∧ e < 2 * (C.n : Int)
theorem Trail.first {C : Costs} {hs : Tab} {s : Sta} {v m : Int} (h : (s, v) ∈ hs) (hm : home C s = some m) : Trail C hs (v + m) s [] :=
  ⟨⟨v, h, by show (home C s).map (v + ·) = _; rw [hm]; rfl⟩, fun _ h => absurd h (by simp)⟩
theorem Trail.next {C : Costs} {hs : Tab} {b : Int} {s a : Sta} {acc : List Int} {v w c : Int} (nd : (keys hs).Nodup) (T : Trail C hs b s acc) (hv : (s, v) ∈ hs) (ha : (a, w) ∈ hs) (hst : (s, c) ∈ steps C a) (e : w + c = v) : Trail C hs b a (acc ++ [other s.2]) := by
  obtain ⟨h0, h1, h2⟩ := step_at hst
  obtain ⟨u, hu, hc⟩ := T.here
  have : u = v := by
    have q := (get_some nd).mpr hu
    rw [(get_some nd).mpr hv] at q
    cases q
    rfl
  subst this
  refine ⟨⟨w, ha, ?_⟩, fun x hx => ?_⟩
  · rw [List.reverse_append]
    show costFrom C a w (other s.2 :: acc.reverse) = some b
    unfold costFrom
    rw [near_eq h0 h1, h2]
    simp only [Option.toList_some, List.head?_cons]
    rw [e]
    exact hc
  · rcases List.mem_append.mp hx with q | q
    · exact T.rng x q
    · rw [show x = other s.2 by simpa using q]
      exact ⟨h0, h1⟩
/-- what least_order gives -/
def IsLeast (C : Costs) (b : Int) (o : List Int) : Prop := o ∈ allOrders C ∧ costOf C o = some b ∧ ∀ o' c', costOf C o' = some c' → b ≤ c'
theorem hts_cost {C : Costs} {hs : Tab} (H : Hts C hs) {b : Int} {ss : List Sta} {s : Sta} (p : ss.Perm (keys hs)) (B : Best C hs ss (some (b, s))) : (∀ t v m, (t, v) ∈ hs → home C t = some m → b ≤ v + m) ∧ ∀ o' c', costOf C o' = some c' → b ≤ c' := by
  have low : ∀ t v m, (t, v) ∈ hs → home C t = some m → b ≤ v + m := fun t v m hv hm => B.blo b s rfl t (p.mem_iff.mpr (mem_keys.mpr ⟨v, hv⟩)) v m hv hm
  refine ⟨low, fun o' c' hc => ?_⟩
  refine paper (h := hs) (cost := b) H.nd (fun t v hv => ?_) H.beg (Int.le_refl 0) hc
  unfold okAt
  rw [Bool.and_eq_true, List.all_eq_true]
  constructor
  · cases h : home C t with
    | none => rfl
    | some m => exact decide_eq_true (low t v m hv h)
  · rintro ⟨u, c⟩ ht
    obtain ⟨w, h1, h2⟩ := H.step t v hv u c ht
    simp only [(get_some H.nd).mpr h1]
    exact decide_eq_true h2
theorem none_cost {C : Costs} {hs : Tab} (H : Hts C hs) {ss : List Sta} (p : ss.Perm (keys hs)) (B : Best C hs ss none) : ∀ o, costOf C o = none := by
  have fin : ∀ (o : List Int) (s : Sta) (f : Int), s ∈ keys hs → costFrom C s f o = none := by
    intro o
    induction o with
    | nil =>
      intro s f hs'
      show (home C s).map (f + ·) = none
      rw [B.bno rfl s (p.mem_iff.mpr hs')]
      rfl
    | cons e r ih =>
      intro s f hs'
      unfold costFrom
      cases hn : (near C s e).head? with
      | none => rfl
      | some q =>
        obtain ⟨t, d⟩ := q
        have hm : (t, d) ∈ steps C s := (List.mem_filter.mp (List.mem_of_head? hn)).1
        obtain ⟨v, hv⟩ := mem_keys.mp hs'
        obtain ⟨w, h1, _⟩ := H.step s v hv t d hm
        exact ih t (f + d) (mem_keys.mpr ⟨w, h1⟩)
  exact fun o => fin o start 0 (mem_keys.mpr ⟨0, H.beg⟩)
theorem Trail.least {C : Costs} (ok : C.Ok) {hs : Tab} (H : Hts C hs) {b : Int} {s : Sta} {acc : List Int} (T : Trail C hs b s acc) (h : s.2 < 0) (low : ∀ o' c', costOf C o' = some c' → b ≤ c') : IsLeast C b acc.reverse := by
  obtain ⟨v, hv, hc⟩ := T.here
  have e := (H.good s v hv).start_of h
  subst e
  have ev : v = 0 := by
    have q := (get_some H.nd).mpr hv
    rw [(get_some H.nd).mpr H.beg] at q
    cases q
    rfl
  subst ev
  exact ⟨cost_all ok (fun e he => T.rng e (List.mem_reverse.mp he)) hc, hc, low⟩
/-- the state ahead is there -/
theorem ahead {C : Costs} {hs : Tab} (H : Hts C hs) {s : Sta} {v : Int} (h : (s, v) ∈ hs) (h0 : 0 ≤ s.2) : ∃ a w c, (a, w) ∈ hs ∧ (s, c) ∈ steps C a ∧ w + c = v ∧ a.1 = s.1.filter fun y => decide (y ≠ s.2 / 2) := by
  obtain ⟨a, w, c, h1, h2, h3⟩ := H.back s v h fun e => by rw [e] at h0; exact absurd h0 (by decide)
  exact ⟨a, w, c, h1, h2, h3.symm, (step_before h2).symm⟩
end WO
end
section
set_option autoImplicit false
set_option linter.all false
/-! How many good states there are. -/
namespace WO
def allSta : List Sta := [([], -1), ([0], 0), ([0], 1), ([1], 2), ([1], 3), ([2], 4), ([2], 5), ([0, 1], 0), ([0, 1], 1), ([0, 1], 2), ([0, 1], 3), ([0, 2], 0), ([0, 2], 1), ([0, 2], 4), ([0, 2], 5), ([1, 2], 2), ([1, 2], 3), ([1, 2], 4), ([1, 2], 5),
  ([0, 1, 2], 0), ([0, 1, 2], 1), ([0, 1, 2], 2), ([0, 1, 2], 3), ([0, 1, 2], 4), ([0, 1, 2], 5)]
theorem rise3 {l : List Int} (h : l.Pairwise (· < ·)) (hr : ∀ x ∈ l, 0 ≤ x ∧ x < 3) : l ∈ ([[], [0], [1], [2], [0, 1], [0, 2], [1, 2], [0, 1, 2]] : List (List Int)) := by
  have hl := rise_len (lo := 0) (hi := 3) h hr (by omega)
  match l, h, hr, hl with
  | [], _, _, _ => decide
  | [x], _, hr, _ =>
    have := hr x (by simp)
    have : x = 0 ∨ x = 1 ∨ x = 2 := by omega
    rcases this with rfl | rfl | rfl <;> decide
  | [x, y], h, hr, _ =>
    have a := hr x (by simp)
    have b := hr y (by simp)
    have c : x < y := (List.pairwise_cons.mp h).1 y (by simp)
    have : (x = 0 ∧ y = 1) ∨ (x = 0 ∧ y = 2) ∨ (x = 1 ∧ y = 2) := by omega
    rcases this with ⟨rfl, rfl⟩ | ⟨rfl, rfl⟩ | ⟨rfl, rfl⟩ <;> decide
  | [x, y, z], h, hr, _ =>
    have a := hr x (by simp)
    have b := hr y (by simp)
    have b2 := hr z (by simp)
    have c : x < y := (List.pairwise_cons.mp h).1 y (by simp)
    have d : y < z := (List.pairwise_cons.mp (List.pairwise_cons.mp h).2).1 z (by simp)
    have : x = 0 ∧ y = 1 ∧ z = 2 := by omega
    obtain ⟨rfl, rfl, rfl⟩ := this
    decide
  | _ :: _ :: _ :: _ :: r, _, _, hl =>
    simp only [List.length_cons] at hl
    omega
theorem good_all {n : Nat} (hn : n ≤ 3) {s : Sta} (g : Good n s) : s ∈ allSta := by
  obtain ⟨d, e⟩ := s
  have h := rise3 g.rise fun x hx => by
    have := g.rng x hx
    omega
  have hp := g.pos
  have key : ∀ d ∈ ([[], [0], [1], [2], [0, 1], [0, 2], [1, 2], [0, 1, 2]] : List (List Int)), ∀ e ∈ ([-1, 0, 1, 2, 3, 4, 5] : List Int), ((e = -1 ∧ d = []) ∨ (0 ≤ e ∧ e / 2 ∈ d)) → (d, e) ∈ allSta := by decide
  refine key d h e ?_ ?_
  · rcases hp with ⟨a, _⟩ | ⟨a, b, _⟩
    · have a : e = -1 := a
      rw [a]
      decide
    · have a : 0 ≤ e := a
      have b : e < 2 * (n : Int) := b
      have : e = 0 ∨ e = 1 ∨ e = 2 ∨ e = 3 ∨ e = 4 ∨ e = 5 := by omega
      rcases this with rfl | rfl | rfl | rfl | rfl | rfl <;> decide
  · rcases hp with ⟨a, b⟩ | ⟨a, _, b⟩
    · exact .inl ⟨a, b⟩
    · exact .inr ⟨a, b⟩
theorem sub_len {α : Type} [DecidableEq α] : ∀ {l m : List α}, l.Nodup → (∀ x ∈ l, x ∈ m) → l.length ≤ m.length
  | [], _, _, _ => Nat.zero_le _
  | x :: l, m, h, hs => by
    rw [List.nodup_cons] at h
    have hx := hs x List.mem_cons_self
    have := sub_len (l := l) (m := m.erase x) h.2 fun y hy => (List.mem_erase_of_ne fun e => h.1 (by rw [← e]; exact hy)).mpr (hs y (List.mem_cons_of_mem _ hy))
    rw [List.length_erase_of_mem hx] at this
    have := List.length_pos_of_mem hx
    simp only [List.length_cons]
    omega
theorem tab_len {n : Nat} (hn : n ≤ 3) {t : Tab} (nd : (keys t).Nodup) (g : ∀ s v, (s, v) ∈ t → Good n s) : t.length ≤ 25 := by
  have := sub_len (m := allSta) nd fun x hx => by
    obtain ⟨v, hv⟩ := mem_keys.mp hx
    exact good_all hn (g x v hv)
  unfold keys at this
  rw [List.length_map] at this
  exact this
theorem Lay.one {C : Costs} {k : Nat} {ly : Tab} (L : Lay C k [] ly) : ly.length ≤ 1 := by
  have hs : ∀ s ∈ keys ly, s ∈ [start] := fun s hs => by
    obtain ⟨v, hv⟩ := mem_keys.mp hs
    by_cases e : s = start
    · simp [e]
    · obtain ⟨_, _, _, h, _⟩ := L.back s v (by simpa using hv) e
      exact absurd h (by simp)
  have nd := L.nd
  rw [List.nil_append] at nd
  have := sub_len nd hs
  unfold keys at this
  rw [List.length_map] at this
  exact this
theorem Lay.small {C : Costs} (ok : C.Ok) {k : Nat} {hs ly : Tab} (L : Lay C k hs ly) : (hs ++ ly).length ≤ 25 :=
  tab_len ok.n3 L.nd fun s v h => by
    rcases List.mem_append.mp h with q | q
    · exact (L.old s v q).1
    · exact (L.now s v q).1
theorem told_good {C : Costs} {ly : Tab} {ss : List Sta} (h : ∀ s ∈ ss, Good C.n s) {t : Sta} {w : Int} (m : (t, w) ∈ told C ly ss) : Good C.n t := by
  unfold told at m
  rw [List.mem_flatMap] at m
  obtain ⟨a, ha, m⟩ := m
  obtain ⟨⟨u, c⟩, hu, e⟩ := List.mem_map.mp m
  cases e
  exact (good_step (h a ha) hu).1
theorem told_one (C : Costs) (ly : Tab) (s : Sta) : told C ly [s] = (steps C s).map fun p => (p.1, (get ly s).getD 0 + p.2) := by simp [told]
end WO
end
section
set_option Elab.async false
set_option linter.all false
set_option maxRecDepth 100000
/-! Rules for a dict whose keys are states: pairs of a tuple of ints and an int. -/
namespace W7
open PySem PySem.Spec PyProof.Rows L2

/-! ### keys -/
def nk (s : WO.Sta) : NestedKey := .tup [.tup (s.1.map .num), .num s.2]
theorem nums_inj : ∀ {a b : List Int}, a.map NestedKey.num = b.map NestedKey.num → a = b
  | [], [], _ => rfl
  | [], _ :: _, h => by cases h
  | _ :: _, [], h => by cases h
  | x :: a, y :: b, h => by
    rw [List.map_cons, List.map_cons] at h
    injection h with h1 h2
    injection h1 with h3
    rw [h3, nums_inj h2]
theorem nk_inj {a b : WO.Sta} (h : nk a = nk b) : a = b := by
  unfold nk at h
  injection h with h
  injection h with h1 h2
  injection h1 with h1
  injection h2 with h2 _
  injection h2 with h2
  exact Prod.ext (nums_inj h1) h2
theorem depth_nums : ∀ l : List Int, NestedKey.depthAll (l.map .num) = 0
  | [] => rfl
  | x :: l => by
    rw [List.map_cons]
    show max (NestedKey.depth (.num x)) (NestedKey.depthAll (l.map .num)) = 0
    rw [depth_nums l]
    rfl
theorem nk_depth (s : WO.Sta) : (nk s).depth = 2 := by
  show max (NestedKey.depthAll (s.1.map .num) + 1) (max 0 0) + 1 = 2
  rw [depth_nums]
  rfl
/-- the tuple at a is the state s -/
def StaAt (H : Hp) (a : Addr) (s : WO.Sta) : Prop := ∃ q, H a = some (.tup [.ref q, .int s.2]) ∧ H q = some (.tup (s.1.map V.int))
theorem StaAt.keep {H H' : Hp} {a : Addr} {s : WO.Sta} (h : StaAt H a s) (k : ∀ b xs, H b = some (.tup xs) → H' b = some (.tup xs)) : StaAt H' a s := by
  obtain ⟨q, h1, h2⟩ := h
  exact ⟨q, k _ _ h1, k _ _ h2⟩
theorem StaAt.inj {H : Hp} {a : Addr} {s t : WO.Sta} (h : StaAt H a s) (h' : StaAt H a t) : s = t := by
  obtain ⟨q, h1, h2⟩ := h
  obtain ⟨r, g1, g2⟩ := h'
  rw [h1] at g1
  have e := Option.some.inj g1
  injection e with e
  injection e with e1 e2
  injection e1 with e1
  injection e2 with e2 _
  injection e2 with e2
  subst e1
  rw [h2] at g2
  have e := Option.some.inj g2
  injection e with e
  refine Prod.ext ?_ e2
  have : ∀ {a b : List Int}, a.map V.int = b.map V.int → a = b := by
    intro a
    induction a with
    | nil => intro b q; cases b with
      | nil => rfl
      | cons _ _ => cases q
    | cons x a ih => intro b q; cases b with
      | nil => cases q
      | cons y b =>
        rw [List.map_cons, List.map_cons] at q
        injection q with q1 q2
        injection q1 with q1
        rw [q1, ih q2]
  exact this e
section
variable {P : Program} {w : World} {H : Hp} {h : Heap} {a : Addr} {s : WO.Sta}
theorem nums_are {h : Heap} : ∀ {l : List Int} {us : List Value}, Vals (l.map V.int) us → NestedAll h (l.map .num) us
  | [], _, r => by cases r; exact .nil
  | x :: l, _, r => by
    rw [List.map_cons] at r
    cases r with
    | cons r rr =>
      obtain ⟨t, rfl⟩ := r
      exact .cons (.int _ _) (nums_are rr)
theorem sta_nested (ok : HOk P w H h) (x : StaAt H a s) : NestedIs h (nk s) (.ref a) := by
  obtain ⟨q, h1, h2⟩ := x
  obtain ⟨_, its, r, o, e1, e2, n, e3⟩ := ok a _ h1
  obtain ⟨_, its2, r2, o2, f1, f2, n2, f3⟩ := ok q _ h2
  refine .tup e1 e2 e3 ?_
  cases r with
  | cons r rr =>
    cases rr with
    | cons r' rr' =>
      cases rr'
      cases r
      obtain ⟨t, rfl⟩ := r'
      exact .cons (.tup f1 f2 f3 (nums_are r2)) (.cons (.int _ _) .nil)
theorem sta_key (ok : HOk P w H h) (x : StaAt H a s) : (nestedKind P w).is h (nk s) a := ⟨sta_nested ok x, by rw [nk_depth]; decide⟩
end

/-! ### the dict -/
abbrev Ent := WO.Sta × Addr × Int
def tab (es : List Ent) : WO.Tab := es.map fun e => (e.1, e.2.2)
def EntR (e : Ent) (x : NestedKey × Addr × Value) : Prop := x.1 = nk e.1 ∧ x.2.1 = e.2.1 ∧ RelV (.int e.2.2) x.2.2
def NDf (P : Program) (w : World) (d : Addr) (es : List Ent) : Heap → Prop := fun h => es.length ≤ 100000 ∧ (d == sysModules) = false ∧
  ∃ xs, Paired EntR es xs ∧ (xs.map (·.1)).Nodup ∧ ∃ o ar ep, h.get? d = some o ∧ o.ExactDict ∧ o.data = .dict ar ep ∧ ar.toList = xs.map (entryOfKey (nestedKind P w))
def NDo (P : Program) (w : World) (d : Addr) (es : List Ent) : HO := .ext (NDf P w d es)
structure ND (P : Program) (w : World) (H : Hp) (d : Addr) (es : List Ent) : Prop where
  rd : Rd H d (NDo P w d es)
  st : ∀ e ∈ es, StaAt H e.2.1 e.1
theorem nd_okay {P : Program} {w : World} {H : Hp} {h : Heap} {d : Addr} {es : List Ent} (x : NDf P w d es h) : ObjOk P w H h d (NDo P w d es) := by
  refine ⟨x, ?_, fun h1 h2 x1 k => ?_⟩
  · obtain ⟨_, _, xs, _, _, o, _, _, e, _⟩ := x
    exact ⟨o, e⟩
  · obtain ⟨a, b, xs, c, d', o, ar, ep, e, r⟩ := x1
    exact ⟨a, b, xs, c, d', o, ar, ep, k o e, r⟩
section
variable {P : Program} {w : World} {H H' : Hp} {h : Heap} {d : Addr} {es : List Ent}
theorem ND.keep (n : ND P w H d es) (hd : ∀ u, H d = some u → H' d = some u) (k : ∀ b xs, H b = some (.tup xs) → H' b = some (.tup xs)) : ND P w H' d es := by
  refine ⟨?_, fun e he => (n.st e he).keep k⟩
  rcases n.rd with q | ⟨o, q⟩
  · exact .inl (hd _ q)
  · exact .inr ⟨o, hd _ q⟩
theorem ent_keys {P : Program} {w : World} {H : Hp} {h : Heap} (ok : HOk P w H h) : ∀ {es : List Ent} {xs : List (NestedKey × Addr × Value)}, Paired EntR es xs → (∀ e ∈ es, StaAt H e.2.1 e.1) → ∀ x ∈ xs, (nestedKind P w).is h x.1 x.2.1
  | [], _, .nil, _, x, hx => nomatch hx
  | e :: es, x :: xs, .cons r rr, hs, y, hy => by
    rcases List.mem_cons.mp hy with q | q
    · subst q
      obtain ⟨r1, r2, _⟩ := r
      rw [r1, r2]
      exact sta_key ok (hs e List.mem_cons_self)
    · exact ent_keys ok rr (fun z hz => hs z (List.mem_cons_of_mem _ hz)) y q
theorem ND.dict (n : ND P w H d es) (ok : HOk P w H h) : es.length ≤ 100000 ∧ (d == sysModules) = false ∧ ∃ xs, Paired EntR es xs ∧ h.DictOfH (nestedKind P w) d xs := by
  obtain ⟨⟨a, b, xs, c, nd, o, ar, ep, e1, e2, e3, e4⟩, _⟩ := n.rd.ok ok
  exact ⟨a, b, xs, c, o, ar, ep, e1, e2, e3, e4, ent_keys ok c n.st, nd⟩
theorem ent_nodup : ∀ {es : List Ent} {xs : List (NestedKey × Addr × Value)}, Paired EntR es xs → xs.map (·.1) = (WO.keys (tab es)).map nk
  | _, _, .nil => rfl
  | _, _, .cons r rr => by
    have ih := ent_nodup rr
    rw [List.map_cons, r.1, ih]
    rfl
theorem nodup_nk {l : List WO.Sta} (h : (l.map nk).Nodup) : l.Nodup := by
  induction l with
  | nil => exact List.nodup_nil
  | cons x l ih =>
    rw [List.map_cons, List.nodup_cons] at h
    rw [List.nodup_cons]
    exact ⟨fun q => h.1 (List.mem_map.mpr ⟨x, q, rfl⟩), ih h.2⟩
theorem nk_nodup {l : List WO.Sta} (h : l.Nodup) : (l.map nk).Nodup := by
  induction l with
  | nil => exact List.nodup_nil
  | cons x l ih =>
    rw [List.nodup_cons] at h
    rw [List.map_cons, List.nodup_cons]
    refine ⟨fun q => ?_, ih h.2⟩
    obtain ⟨y, hy, e⟩ := List.mem_map.mp q
    exact h.1 (nk_inj e ▸ hy)
theorem ND.nodup (n : ND P w H d es) (ok : HOk P w H h) : (WO.keys (tab es)).Nodup := by
  obtain ⟨_, _, xs, c, _, _, _, _, _, _, _, _, nd⟩ := n.dict ok
  rw [ent_nodup c] at nd
  exact nodup_nk nd
/-- what is looked up -/
theorem ent_at : ∀ {es : List Ent} {xs : List (NestedKey × Addr × Value)} (s : WO.Sta), Paired EntR es xs → (atKey xs (nk s)).isSome = (WO.get (tab es) s).isSome ∧ ∀ v, WO.get (tab es) s = some v → ∃ p, atKey xs (nk s) = some p ∧ RelV (.int v) p.2
  | _, _, s, .nil => ⟨rfl, fun v q => by cases q⟩
  | e :: es, x :: xs, s, .cons r rr => by
    obtain ⟨ih1, ih2⟩ := ent_at s rr
    by_cases hs : e.1 = s
    · have e1 : atKey (x :: xs) (nk s) = some x.2 := by
        have hx : x.1 = nk s := by rw [r.1, hs]
        simp [atKey, hx]
      have e2 : WO.get (tab (e :: es)) s = some e.2.2 := by simp [WO.get, tab, hs]
      rw [e1, e2]
      exact ⟨rfl, fun v q => by cases q; exact ⟨x.2, rfl, r.2.2⟩⟩
    · have hx : x.1 ≠ nk s := fun q => hs (nk_inj (r.1.symm.trans q))
      have e1 : atKey (x :: xs) (nk s) = atKey xs (nk s) := by simp [atKey, hx]
      have e2 : WO.get (tab (e :: es)) s = WO.get (tab es) s := by simp [WO.get, tab, hs]
      rw [e1, e2]
      exact ⟨ih1, ih2⟩
/-- a store -/
def putE (es : List Ent) (s : WO.Sta) (a : Addr) (v : Int) : List Ent := if es.any (fun e => e.1 = s) then es.map (fun e => if e.1 = s then (e.1, e.2.1, v) else e) else es ++ [(s, a, v)]
theorem tab_put (es : List Ent) (s : WO.Sta) (a : Addr) (v : Int) : tab (putE es s a v) = WO.put (tab es) s v := by
  have e : ((tab es).any fun p => p.1 = s) = es.any fun e => e.1 = s := by simp [tab, List.any_map, Function.comp_def]
  unfold putE WO.put
  rw [e]
  split
  · unfold tab
    rw [List.map_map, List.map_map]
    refine List.map_congr_left fun x _ => ?_
    show (fun e : Ent => (e.1, e.2.2)) (if x.1 = s then (x.1, x.2.1, v) else x) = if x.1 = s then (x.1, v) else (x.1, x.2.2)
    split <;> rfl
  · simp [tab]
theorem putE_mem {es : List Ent} {s : WO.Sta} {a : Addr} {v : Int} {e : Ent} (h : e ∈ putE es s a v) : (e.1 = s ∧ e.2.1 = a) ∨ ∃ e' ∈ es, e.1 = e'.1 ∧ e.2.1 = e'.2.1 := by
  unfold putE at h
  split at h
  · obtain ⟨x, hx, rfl⟩ := List.mem_map.mp h
    refine .inr ⟨x, hx, ?_⟩
    split <;> exact ⟨rfl, rfl⟩
  · rcases List.mem_append.mp h with q | q
    · exact .inr ⟨e, q, rfl, rfl⟩
    · rw [show e = (s, a, v) by simpa using q]
      exact .inl ⟨rfl, rfl⟩
theorem putE_len (es : List Ent) (s : WO.Sta) (a : Addr) (v : Int) : (putE es s a v).length ≤ es.length + 1 := by
  unfold putE
  split <;> simp
theorem ent_any : ∀ {es : List Ent} {xs : List (NestedKey × Addr × Value)} (s : WO.Sta), Paired EntR es xs → (atKey xs (nk s)).isSome = es.any fun e => e.1 = s
  | _, _, s, .nil => rfl
  | e :: es, x :: xs, s, .cons r rr => by
    have ih := ent_any s rr
    by_cases hs : e.1 = s
    · have hx : x.1 = nk s := by rw [r.1, hs]
      simp [atKey, hx, hs]
    · have hx : x.1 ≠ nk s := fun q => hs (nk_inj (r.1.symm.trans q))
      have e1 : atKey (x :: xs) (nk s) = atKey xs (nk s) := by simp [atKey, hx]
      rw [e1, ih]
      simp [hs]
theorem ent_map {s : WO.Sta} {v : Int} {u : Value} (r : RelV (.int v) u) : ∀ {es : List Ent} {xs : List (NestedKey × Addr × Value)}, Paired EntR es xs → Paired EntR (es.map fun e => if e.1 = s then (e.1, e.2.1, v) else e) (xs.map (putAt (nk s) u))
  | _, _, .nil => .nil
  | e :: es, x :: xs, .cons q t => by
    rw [List.map_cons, List.map_cons]
    refine .cons ?_ (ent_map r t)
    by_cases hs : e.1 = s
    · have hx : x.1 = nk s := by rw [q.1, hs]
      rw [if_pos hs]
      unfold putAt
      rw [if_pos hx]
      exact ⟨q.1, q.2.1, r⟩
    · have hx : x.1 ≠ nk s := fun z => hs (nk_inj (q.1.symm.trans z))
      rw [if_neg hs]
      unfold putAt
      rw [if_neg hx]
      exact q
theorem ent_snoc {e : Ent} {x : NestedKey × Addr × Value} (r : EntR e x) : ∀ {es : List Ent} {xs : List (NestedKey × Addr × Value)}, Paired EntR es xs → Paired EntR (es ++ [e]) (xs ++ [x])
  | _, _, .nil => .cons r .nil
  | _, _, .cons q t => .cons q (ent_snoc r t)
theorem ent_put {es : List Ent} {xs : List (NestedKey × Addr × Value)} {s : WO.Sta} {a : Addr} {v : Int} {u : Value} (p : Paired EntR es xs) (r : RelV (.int v) u) : Paired EntR (putE es s a v) (storedH xs (nk s) a u) := by
  unfold putE storedH
  rw [ent_any s p]
  split
  · exact ent_map r p
  · exact ent_snoc ⟨rfl, rfl, r⟩ p
end

/-! ### its rules -/
section
variable {X : Cx}
theorem room9 {A : Around} (hu : A.units + 64 < cLine) : A.in1.units + 8 < cLine := by
  show A.units + 1 + 8 < cLine
  omega
abbrev NDx (X : Cx) (H : Hp) (d : Addr) (es : List Ent) : Prop := ND X.prog X.w H d es
def rInN (P : Program) (w : World) (f : Bool → Bool) : R2 := fun x y H Q => ∃ a d s es, x = .ref a ∧ y = .ref d ∧ StaAt H a s ∧ ND P w H d es ∧ Q (.bl (f (WO.get (tab es) s).isSome)) H
theorem op_inN (hu : X.A.units + 64 < cLine) : OpR X (compareOp .In) (rInN X.prog X.w id) := by
  intro pins s σ H x y v u Q I rx ry h
  obtain ⟨a, d, t, es, rfl, rfl, ha, hd, q⟩ := h
  cases rx
  cases ry
  obtain ⟨_, hs, xs, p, dd⟩ := hd.dict I.hok
  refine wpAny_in_heap (knd := nestedKind X.prog X.w) (room9 hu) (sta_key I.hok ha) hs dd ?_
  rw [(ent_at t p).1]
  exact ⟨.bl _, H, I.tok _, rfl, q⟩
theorem op_ninN (hu : X.A.units + 64 < cLine) : OpR X (compareOp .NotIn) (rInN X.prog X.w not) := by
  intro pins s σ H x y v u Q I rx ry h
  obtain ⟨a, d, t, es, rfl, rfl, ha, hd, q⟩ := h
  cases rx
  cases ry
  obtain ⟨_, hs, xs, p, dd⟩ := hd.dict I.hok
  refine notIn_keyed (knd := nestedKind X.prog X.w) (kvs := pairsH xs) (room9 hu) (sta_key I.hok ha) hs ⟨xs, dd, rfl⟩ ?_
  have e : (valueAt (pairsH xs) (nk t)).isSome = (WO.get (tab es) t).isSome := by rw [valueAt_pairsH, Option.isSome_map, (ent_at t p).1]
  rw [e]
  exact ⟨.bl _, H, I.tok _, rfl, q⟩
/-- d[k] -/
def rGetN (P : Program) (w : World) : R2 := fun x y H Q => ∃ d a s es v, x = .ref d ∧ y = .ref a ∧ StaAt H a s ∧ ND P w H d es ∧ WO.get (tab es) s = some v ∧ Q (.int v) H
theorem ix_nd (hu : X.A.units + 64 < cLine) : IxR X (rGetN X.prog X.w) := by
  intro value slice pins s σ H x y v u Q I rx ry h hs
  obtain ⟨d, a, t, es, z, rfl, rfl, ha, hd, hz, q⟩ := h
  cases rx
  cases ry
  obtain ⟨_, hm, xs, p, dd⟩ := hd.dict I.hok
  obtain ⟨pr, e1, r⟩ := (ent_at t p).2 z hz
  refine tail_any dd.typeIs PySem.F.slot_dict_getitem.lookup ?_ hs
  exact wpAny_getItem_heap (knd := nestedKind X.prog X.w) (room9 hu) (sta_key I.hok ha) dd e1 ⟨.int z, H, I.tok _, r, q⟩
/-- d[k] = v -/
def rSetN (P : Program) (w : World) : V → V → V → Hp → (Hp → Prop) → Prop := fun o i v H Q => ∃ d a s es z, o = .ref d ∧ i = .ref a ∧ v = .int z ∧ StaAt H a s ∧ H d = some (NDo P w d es) ∧ (∀ e ∈ es, StaAt H e.2.1 e.1) ∧ es.length < 1000 ∧ Q (upd H d (NDo P w d (putE es s a z)))
theorem set_nd (hu : X.A.units + 64 < cLine) : PSet X (rSetN X.prog X.w) := by
  intro pins s σ H o i v ov iv u Q I ro ri rv h
  obtain ⟨d, a, t, es, z, rfl, rfl, rfl, ha, hd, hst, hl, q⟩ := h
  cases ro
  cases ri
  obtain ⟨_, hm, xs, p, dd⟩ := (ND.mk (.inl hd) hst : ND X.prog X.w H d es).dict I.hok
  have hz : xs.length ≤ sizeLine := by rw [← Paired.length p, sizeLine_eq]; omega
  refine wpAny_setItem_heap (hsz := hz) (knd := nestedKind X.prog X.w) (room9 hu) (sta_key I.hok ha) dd fun h' dd' hs => ⟨_, d_write I (by rw [hd]; exact True.intro) hs ?_ (nd_okay ?_), q⟩
  · obtain ⟨ob, _, _, hg, _⟩ := dd'
    exact ⟨ob, hg⟩
  · obtain ⟨ob, ar, ep, hg, h2, h3, h4, _, h5⟩ := dd'
    have := putE_len es t a z
    exact ⟨by omega, hm, _, ent_put p rv, h5, ob, ar, ep, hg, h2, h3, h4⟩
end

/-! ### a new dict, d.get(k), d.update(e), d != {}, dict(d) -/
section
variable {X : Cx} {pos apos cpos : Pos}
def tDNewN (P : Program) (w : World) : TE := fun _ H Q => ∀ p, H p = none → Q (.ref p) (upd H p (NDo P w p []))
theorem nd_empty {P : Program} {w : World} {H : Hp} (h : Heap) (hb : sysModules < h.objs.size) : ObjOk P w H (h.push { cls := .type "dict", data := .dict #[] }) h.objs.size (NDo P w h.objs.size []) :=
  nd_okay ⟨by simp, beq_eq_false_iff_ne.mpr fun e => Nat.lt_irrefl _ (e ▸ hb), [], .nil, List.nodup_nil, _, #[], 0, Heap.get?_push_size _ rfl, ⟨rfl, rfl, rfl⟩, rfl, rfl⟩
theorem pe_dnewN : PE X (.Dict [] [] pos) (tDNewN X.prog X.w) := by
  constructor
  intro pins s σ H Q I h
  refine wpAny_Dict_empty ⟨.ref s.heap.objs.size, _, ?_, rfl, h _ (I.hok.fresh (Nat.le_refl _))⟩
  exact I.laid (t' := s.toks) (fun _ _ e => Heap.get?_push_of_some _ e) (Nat.le_refl _) (nd_empty s.heap I.big)
/-- {k: v}, k a state -/
def tDOneN (P : Program) (w : World) (tk tv : TE) : TE := fun σ H Q => ∀ p, H p = none → tk σ (upd H p (NDo P w p [])) fun x H1 => tv σ H1 fun y H2 =>
  ∃ a s z, x = .ref a ∧ y = .int z ∧ StaAt H2 a s ∧ H2 p = some (NDo P w p []) ∧ Q (.ref p) (upd H2 p (NDo P w p [(s, a, z)]))
theorem pe_done {ek ev : Expr} {tk tv : TE} (hu : X.A.units + 64 < cLine) (hk : PE X ek tk) (hv : PE X ev tv) : PE X (.Dict [some ek] [ev] pos) (tDOneN X.prog X.w tk tv) := by
  constructor
  intro pins s σ H Q I h
  have hn := I.hok.fresh (Nat.le_refl s.heap.objs.size)
  have I1 := I.laid (a := s.heap.objs.size) (o := NDo X.prog X.w s.heap.objs.size []) (h' := s.heap.push { cls := .type "dict", data := .dict #[] }) (t' := s.toks)
    (fun _ _ e => Heap.get?_push_of_some _ e) (Nat.le_refl _) (nd_empty s.heap I.big)
  have q := h _ hn
  rw [arm_eval_Dict]
  refine wpAny_bind (wpAny_standAt ?_)
  rw [show (evalEachOpt [some ek] X.env).zip ((evalEach [ev] X.env).map fun v => do let x ← v; standAt pos; pure x) = ([(eval ek X.env, do let x ← eval ev X.env; standAt pos; pure x)] : List (Sem Value × Sem Value)).map (fun p => (some p.1, p.2)) from rfl, dictDisplay_pairs _ (by simp) (by simp)]
  refine wpAny_bind (wpAny_subDictH (knd := nestedKind X.prog X.w) (show X.A.units + 8 < cLine by omega) (by simp) ?_)
  refine evalPairs_cons (thn (hk.run pins _ σ _ _ I1 q) fun kv s2 ⟨x, H2, I2, rx, q2⟩ => ?_)
  refine wpAny_bind (thn (hv.run pins s2 σ H2 _ I2 q2) fun vv s3 ⟨y, H3, I3, ry, a, st, z, e1, e2, ha, hd, q3⟩ => ?_)
  subst e1 e2
  refine wpAny_bind (wpAny_standAt (wpAny_pure (evalPairs_nil ?_)))
  cases rx
  obtain ⟨_, hm, xs, p, dd⟩ := (ND.mk (.inl hd) (fun _ h => nomatch h) : ND X.prog X.w H3 _ []).dict I3.hok
  cases p
  refine ⟨[(nk st, a, vv)], ⟨rfl, rfl, sta_key I3.hok ha, True.intro⟩, dd, fun h' tk dd' hs => wpAny_pure ⟨.ref _, _, d_write I3 (by rw [hd]; exact True.intro) hs ?_ (nd_okay ?_), rfl, q3⟩⟩
  · obtain ⟨ob, _, _, hg, _⟩ := dd'
    exact ⟨ob, hg⟩
  · obtain ⟨ob, ar, ep, hg, h2, h3, h4, _, h5⟩ := dd'
    exact ⟨by simp, hm, _, .cons ⟨rfl, rfl, ry⟩ .nil, h5, ob, ar, ep, hg, h2, h3, h4⟩
theorem nd_at {pins : List (Addr × Obj)} {σ : L2.St} {H : Hp} {s : Shared} {d : Addr} {es : List Ent} (I : Inv X pins σ H s) (n : NDx X H d es) : s.TypeIs (.ref d) "dict" ∧ ∀ b, Value.ref d = .ref b → ∃ ob, s.heap.get? b = some ob ∧ ob.dict = none := by
  obtain ⟨_, _, xs, _, dd⟩ := n.dict I.hok
  refine ⟨dd.typeIs, fun b q => ?_⟩
  cases q
  obtain ⟨ob, _, _, h1, h2, _⟩ := dd
  exact ⟨ob, h1, h2.2.1⟩
/-- d.get(k) -/
def tGet1N (P : Program) (w : World) (td ty : TE) : TE := fun σ H Q => td σ H fun x H1 => ∃ d es, x = .ref d ∧ ND P w H1 d es ∧ ty σ H1 fun y H2 => ∃ a s, y = .ref a ∧ StaAt H2 a s ∧ ND P w H2 d es ∧
  Q (match WO.get (tab es) s with | none => .non | some v => .int v) H2
theorem pe_get1N {o e : Expr} {td ty : TE} (hu : X.A.units + 64 < cLine) (ho : PE X o td) (he : PE X e ty) (m : M1 X o "get" apos e cpos) : PE X (.Call (.Attribute o "get" apos) [e] [] cpos) (tGet1N X.prog X.w td ty) := by
  constructor
  intro pins s σ H Q I h
  refine wpAny_Call_method m.base m.few m.line PySem.F.plainAttrs_dict PySem.F.slot_dict_get PySem.F.type_dict_get (thn (ho.run pins s σ H _ I h) fun u s1 ⟨x, H1, I1, rx, d, es, ex, n, q1⟩ => ?_)
  subst ex
  cases rx
  have t := nd_at I1 n
  refine ⟨t.1, t.2, ?_⟩
  rw [m.trees]
  refine Calls.callWith_builtin rfl (Calls.evalArgs_plain (Calls.spliced_cons (thn (he.run pins s1 σ H1 _ I1 q1) fun iv s2 ⟨y, H2, I2, ry, a, st, ey, ha, n2, q2⟩ => Calls.spliced_nil ?_)))
  subst ey
  cases ry
  obtain ⟨_, hm, xs, p, dd⟩ := n2.dict I2.hok
  refine call_meetsIn PySem.F.slot_dict_get dd.typeIs PySem.F.entry_dict_get (PySem.F.args_dict_get_2 _ _) (meetsH_dict_get (nestedKind X.prog X.w) d a hm) ⟨room9 hu, nk st, xs, sta_key I2.hok ha, dd, ?_⟩
  refine ⟨_, H2, I2.tok _, ?_, q2⟩
  obtain ⟨e1, e2⟩ := ent_at st p
  cases hg : WO.get (tab es) st with
  | none =>
    rw [hg] at e1
    have e3 : atKey xs (nk st) = none := by cases z : atKey xs (nk st) with
      | none => rfl
      | some _ => rw [z] at e1; cases e1
    rw [e3]
    exact rfl
  | some v =>
    obtain ⟨pr, e3, r⟩ := e2 v hg
    rw [e3]
    exact r
theorem tupT {P : Program} {w : World} {H : Hp} {s : Shared} {a : Addr} {xs : List V} (ok : HOk P w H s.heap) (h : H a = some (.tup xs)) : s.TypeIs (.ref a) "tuple" := by
  obtain ⟨_, _, _, o, e1, e2, _⟩ := ok a _ h
  exact ⟨o, e1, e2⟩
theorem ents_tuple {P : Program} {w : World} {H : Hp} {s : Shared} (ok : HOk P w H s.heap) : ∀ {es : List Ent} {xs : List (NestedKey × Addr × Value)}, Paired EntR es xs → (∀ e ∈ es, StaAt H e.2.1 e.1) → ∀ x ∈ xs, s.TypeIs (.ref x.2.1) "tuple"
  | [], _, .nil, _, x, hx => nomatch hx
  | e :: es, x :: xs, .cons r rr, hs, y, hy => by
    rcases List.mem_cons.mp hy with q | q
    · subst q
      rw [r.2.1]
      obtain ⟨_, h1, _⟩ := hs e List.mem_cons_self
      exact tupT ok h1
    · exact ents_tuple ok rr (fun z hz => hs z (List.mem_cons_of_mem _ hz)) y q
theorem ents_hash {w : World} : ∀ {es : List Ent} {xs : List (NestedKey × Addr × Value)}, Paired EntR es xs → (xs.map fun x => x.1.hash w) = es.map fun e => (nk e.1).hash w
  | _, _, .nil => rfl
  | _, _, .cons r rr => by
    have ih := ents_hash (w := w) rr
    rw [List.map_cons, List.map_cons, ih, r.1]
theorem ent_append {a b : List Ent} {xs ys : List (NestedKey × Addr × Value)} (p : Paired EntR a xs) (q : Paired EntR b ys) : Paired EntR (a ++ b) (xs ++ ys) := by
  induction p with
  | nil => exact q
  | cons r _ ih => exact .cons r ih
/-- d.update(e), no key of e in d -/
def tUpdN (P : Program) (w : World) (td ty : TE) : TE := fun σ H Q => td σ H fun x H1 => ∃ d es, x = .ref d ∧ ND P w H1 d es ∧ ty σ H1 fun y H2 => ∃ e fs, y = .ref e ∧ H2 d = some (NDo P w d es) ∧ ND P w H2 d es ∧ ND P w H2 e fs ∧ d ≠ e ∧ es.length + fs.length < 1000 ∧
  (WO.keys (tab es ++ tab fs)).Nodup ∧ (es ≠ [] ∨ fs.length ≤ 1) ∧ Q .non (upd H2 d (NDo P w d (es ++ fs)))
theorem pe_updN {o e : Expr} {td ty : TE} (hu : X.A.units + 64 < cLine) (ho : PE X o td) (he : PE X e ty) (m : M1 X o "update" apos e cpos) : PE X (.Call (.Attribute o "update" apos) [e] [] cpos) (tUpdN X.prog X.w td ty) := by
  constructor
  intro pins s σ H Q I h
  refine wpAny_Call_method m.base m.few m.line PySem.F.plainAttrs_dict PySem.F.slot_dict_update PySem.F.type_dict_update (thn (ho.run pins s σ H _ I h) fun u s1 ⟨x, H1, I1, rx, d, es, ex, n, q1⟩ => ?_)
  subst ex
  cases rx
  have t := nd_at I1 n
  refine ⟨t.1, t.2, ?_⟩
  rw [m.trees]
  refine Calls.callWith_builtin rfl (Calls.evalArgs_plain (Calls.spliced_cons (thn (he.run pins s1 σ H1 _ I1 q1) fun iv s2 ⟨y, H2, I2, ry, f, fs, ey, hd, n1, n2, hne, hl, hnd, hone, q2⟩ => Calls.spliced_nil ?_)))
  subst ey
  cases ry
  obtain ⟨_, hm, xs, p, dd⟩ := n1.dict I2.hok
  obtain ⟨_, hm2, ys, p2, dd2⟩ := n2.dict I2.hok
  have lx := Paired.length p
  have ly := Paired.length p2
  have pk : ((xs ++ ys).map (·.1)).Nodup := by
    rw [List.map_append, ent_nodup p, ent_nodup p2, ← List.map_append]
    refine nk_nodup ?_
    have e : WO.keys (tab es) ++ WO.keys (tab fs) = WO.keys (tab es ++ tab fs) := by simp [WO.keys]
    rw [e]
    exact hnd
  refine call_update_dictH (knd := nestedKind X.prog X.w) (room9 hu) hne hm2 dd dd2 ?_ (by rw [← lx, ← ly, sizeLine_eq]; omega) fun h' dd' _ hs => ?_
  · rcases hone with z | z
    · refine .inl fun e => z ?_
      subst e
      cases p
      rfl
    · refine .inr ⟨ents_tuple I2.hok p2 n2.st, ?_⟩
      cases ys with
      | nil => exact List.nodup_nil
      | cons y r =>
        cases r with
        | nil => simp
        | cons _ _ =>
          rw [ly] at z
          simp at z
  · rw [storedAllH_append_of_fresh _ _ pk] at dd'
    refine ⟨.non, _, d_write (t' := s2.toks) I2 (by rw [hd]; exact True.intro) hs ?_ (nd_okay ?_), rfl, q2⟩
    · obtain ⟨ob, _, _, hg, _⟩ := dd'
      exact ⟨ob, hg⟩
    · obtain ⟨ob, ar, ep, hg, h2, h3, h4, _, h5⟩ := dd'
      exact ⟨by rw [List.length_append]; omega, hm, _, ent_append p p2, h5, ob, ar, ep, hg, h2, h3, h4⟩
/-- dict(d) -/
def rDictN (P : Program) (w : World) : List V → Hp → VK → Prop := fun vs H Q => ∃ d es, vs = [.ref d] ∧ ND P w H d es ∧ (es.map fun e => (nk e.1).hash w).Nodup ∧ es.length < 1000 ∧ ∀ p, H p = none → Q (.ref p) (upd H p (NDo P w p es))
theorem call_dictN (hu : X.A.units + 64 < cLine) : CallR X (.type "dict") (rDictN X.prog X.w) := by
  intro pins s σ H vs us Q I r h
  obtain ⟨o, es, rfl, n, hh, hl, q⟩ := h
  obtain ⟨u, rfl, ru⟩ := vals1 r
  cases ru
  obtain ⟨_, hm, xs, p, dd⟩ := n.dict I.hok
  have lx := Paired.length p
  refine callType_codes (Q₁ := fun obj s₁ => obj = .ref s.heap.objs.size ∧ s₁ = { s with heap := s.heap.push { cls := .type "dict", data := .dict #[] } }) PySem.F.kt_called_dict (PySem.F.kt_typeCall_dict_1 _) PySem.F.entry_dict_init (kt_code_dict_new _ ⟨rfl, rfl⟩) ?_
  rintro obj s₁ ⟨rfl, rfl⟩
  have hnew := Heap.DictOfH.new (knd := nestedKind X.prog X.w) s.heap
  have I1 : Inv X pins σ H { s with heap := s.heap.push { cls := .type "dict", data := .dict #[] } } := I.kept (t' := s.toks) fun b ob e => Heap.get?_push_of_some _ e
  obtain ⟨_, _, xs', p', dd'⟩ := n.dict I1.hok
  have lx' := Paired.length p'
  have hne : s.heap.objs.size ≠ o := by
    obtain ⟨ob, _, _, hg, _⟩ := dd
    exact fun e => Nat.lt_irrefl _ (e ▸ Heap.lt_size hg)
  refine ⟨hnew.typeIs, PySem.F.args_dict_init_2 _ _, ?_⟩
  unfold Builtin.«dict.__init__»
  refine wpAny_bind ?_
  unfold Builtin.Dict.selfAndRest
  refine wpAny_bind (wpAny_notOrdered_dict hnew.typeIs ?_)
  show wpAny _ _ (pure (s.heap.objs.size, [Value.ref o])) _ _ _
  refine wpAny_pure ?_
  show wpAny _ _ (Builtin.Dict.updateFrom "dict.__init__" s.heap.objs.size (.ref o) [] .none) _ _ _
  refine updateFrom_dictH (knd := nestedKind X.prog X.w) (A := X.A.in1) .none (show X.A.units + 1 + 1 + 8 < cLine by omega) hne hm hnew dd' (.inr ⟨ents_tuple I1.hok p' n.st, ?_⟩) (by rw [← lx', List.length_nil, sizeLine_eq]; omega) fun h' d1 _ hs => ?_
  · show (xs'.map fun x => x.1.hash X.w).Nodup
    rw [ents_hash p']
    exact hh
  · have nd : (xs'.map (·.1)).Nodup := by
      obtain ⟨_, _, _, _, _, _, _, _, nd⟩ := dd'
      exact nd
    rw [storedAllH_nil_of_nodup _ nd] at d1
    refine ⟨rfl, .ref s.heap.objs.size, _, I.laid (a := s.heap.objs.size) (o := NDo X.prog X.w s.heap.objs.size es) (h' := h') (t' := s.toks) (fun b ob e => (hs.2 b (Nat.ne_of_lt (Heap.lt_size e))).trans (Heap.get?_push_of_some _ e)) (Nat.le_refl _) (nd_okay ?_), rfl, q _ (I.hok.fresh (Nat.le_refl _))⟩
    obtain ⟨ob, ar, ep, hg, h2, h3, h4, _, h5⟩ := d1
    exact ⟨by omega, beq_eq_false_iff_ne.mpr fun e => Nat.lt_irrefl _ (e ▸ I.big), _, p', h5, ob, ar, ep, hg, h2, h3, h4⟩
end

/-! ### d != {} -/
section
variable {prog : Program} {w : World} {A : Around} {E : Value → Shared → Prop} {s : Shared}
theorem pairs_empty {nm : String} {a b : Addr} {oa ob : Obj} {es : Array DictEntry} {ep ep' : Nat} {Q : Bool → Shared → Prop} (ha : (a == sysModules) = false) (hb : (b == sysModules) = false)
    (hoa : s.heap.get? a = some oa) (hda : oa.data = .dict es ep) (hob : s.heap.get? b = some ob) (hdb : ob.data = .dict #[] ep') (h : Q (es.size == 0) s) :
    wpAny (model prog w) A (Builtin.Dict.samePairs nm a b) Q E s := by
  unfold Builtin.Dict.samePairs Builtin.Dict.showsAll
  rw [if_neg (by rw [ha]; exact Bool.false_ne_true), if_neg (by rw [hb]; exact Bool.false_ne_true)]
  refine wpAny_bind (wpAny_pure (wpAny_bind (wpAny_pure ?_)))
  refine wpAny_bind (wpAny_dictEntries hoa hda ?_)
  dsimp only
  refine wpAny_bind (wpAny_dictEntries hob hdb ?_)
  by_cases hz : es.size = 0
  · have e : (es.size == 0) = true := by rw [hz]; rfl
    rw [e] at h
    rw [if_neg (by simp [hz])]
    refine wpAny_bind (wpAny_dictEpoch hoa hda ?_)
    refine wpAny_bind ?_
    rw [Std.Legacy.Range.forIn_eq_forIn_range']
    simp only [Std.Legacy.Range.size, hz, Nat.sub_zero, Nat.add_sub_cancel, Nat.div_one, List.range'_zero, List.forIn_nil]
    exact wpAny_pure (wpAny_pure h)
  · have e : (es.size == 0) = false := by simpa using hz
    rw [e] at h
    rw [if_pos (by simpa using hz)]
    exact wpAny_bind (wpAny_rule (wpAny_pure h))
theorem ne_empty {a b : Addr} {oa ob : Obj} {es : Array DictEntry} {ep ep' : Nat} {Q : Value → Shared → Prop} (ha : (a == sysModules) = false) (hb : (b == sysModules) = false) (hoa : s.heap.get? a = some oa) (ca : oa.ExactDict) (hda : oa.data = .dict es ep)
    (hob : s.heap.get? b = some ob) (cb : ob.ExactDict) (hdb : ob.data = .dict #[] ep') (hu : A.units < cLine) (h : Q (.bool (!(es.size == 0))) s) : wpAny (model prog w) A (compareOp .NotEq (.ref a) (.ref b)) Q E s := by
  have ta : s.TypeIs (.ref a) "dict" := ⟨oa, hoa, ca.1⟩
  have tb : s.TypeIs (.ref b) "dict" := ⟨ob, hob, cb.1⟩
  refine wpAny_richCompare_same_room (op := .NotEq) ta tb PySem.F.slot_dict_ne (wpAny_call_entry PySem.F.slot_dict_ne ta PySem.F.entry_dict_ne ?_ (PySem.F.args_dict_ne_2 _ _)) hu
  show wpAny _ _ (Builtin.Dict.dictSlotArgs "__ne__" ⟨[.ref a, .ref b], []⟩ >>= _) _ _ s
  refine wpAny_bind ?_
  unfold Builtin.Dict.dictSlotArgs
  refine wpAny_bind (wpAny_notOrdered_dict ta ?_)
  show wpAny _ _ (pure (Value.ref a, Value.ref b)) _ _ s
  refine wpAny_pure (wpAny_bind (wpAny_isInstance (T := "dict") tb PySem.F.sub_dict_dict ?_))
  simp only [Bool.not_true, Bool.false_eq_true, if_false]
  refine wpAny_bind (wpAny_pure (wpAny_bind (wpAny_pure (wpAny_bind (pairs_empty ha hb hoa hda hob hdb ?_)))))
  refine wpAny_pure ⟨_, rfl, (fun x => nomatch x), ?_⟩
  have e : ((es.size == 0) == false) = !(es.size == 0) := by cases (es.size == 0) <;> rfl
  rw [e]
  exact h
end
section
variable {X : Cx}
def rNeN (P : Program) (w : World) : R2 := fun x y H Q => ∃ a b es, x = .ref a ∧ y = .ref b ∧ ND P w H a es ∧ ND P w H b [] ∧ Q (.bl (!es.isEmpty)) H
theorem op_neN (hu : X.A.units < cLine) : OpR X (compareOp .NotEq) (rNeN X.prog X.w) := by
  intro pins s σ H x y v u Q I rx ry h
  obtain ⟨a, b, es, rfl, rfl, n1, n2, q⟩ := h
  cases rx
  cases ry
  obtain ⟨_, hm, xs, p, o, ar, ep, e1, e2, e3, e4, _⟩ := n1.dict I.hok
  obtain ⟨_, hm2, ys, p2, o2, ar2, ep2, f1, f2, f3, f4, _⟩ := n2.dict I.hok
  cases p2
  have z : ar2 = #[] := by
    have : ar2.toList = [] := f4
    exact Array.toList_eq_nil_iff.mp this
  subst z
  refine ne_empty hm hm2 e1 e2 e3 f1 f2 f3 hu ?_
  have hl : ar.size = es.length := by
    rw [size_of_entries e4]
    exact (Paired.length p).symm
  have : (!(ar.size == 0)) = !es.isEmpty := by rw [hl]; cases es <;> rfl
  rw [this]
  exact ⟨.bl _, H, I, rfl, q⟩

/-! ### for k in d -/
def Itn (P : Program) (w : World) (d : Addr) (o : Obj) (es : List Ent) : It :=
  ⟨fun i H => H d = some (.frz o (NDo P w d es)) ∧ i < es.length, fun i H x H' => H' = H ∧ ∃ e, es[i]? = some e ∧ x = .ref e.2.1, fun i H => H d = some (.frz o (NDo P w d es)) ∧ es.length ≤ i⟩
theorem frzN {pins : List (Addr × Obj)} {σ : L2.St} {H : Hp} {s : Shared} {d : Addr} {o : Obj} {es : List Ent} (I : Inv X pins σ H s) (h : H d = some (.frz o (NDo X.prog X.w d es))) :
    (d == sysModules) = false ∧ s.heap.get? d = some o ∧ o.ExactDict ∧ ∃ ar ep, o.data = .dict ar ep ∧ ar.size = es.length ∧ ∀ (i : Nat) (e : Ent), es[i]? = some e → ∃ en : DictEntry, ar[i]? = some en ∧ en.key = .ref e.2.1 := by
  obtain ⟨hd, ⟨z, hm, xs, p, nd, o', ar, ep, e1, e2, e3, e4⟩, _⟩ := I.hok d _ h
  rw [hd] at e1
  cases e1
  refine ⟨hm, hd, e2, ar, ep, e3, ?_, fun i e he => ?_⟩
  · rw [size_of_entries e4]
    exact (Paired.length p).symm
  · obtain ⟨x, hx, r⟩ := paired_get p he
    have q := entry_at e4 i
    rw [hx] at q
    refine ⟨_, q, ?_⟩
    show Value.ref x.2.1 = _
    rw [r.2.1]
theorem turn_nd {P : Program} {w : World} {K : PySem.W.Frag} {tg : Expr} {d : Addr} {o : Obj} {es : List Ent} {ar : Array DictEntry} {ep : Nat} (it : Addr) (hod : o.data = .dict ar ep) :
    Turn P w K tg (Itn P w d o es) [it] it (fun i h => h.IsKeyIter it d i es.length ep) where
  mem := List.mem_singleton.mpr rfl
  obj := by
    intro i h st b hb
    cases List.mem_singleton.mp hb
    obtain ⟨oi, e, _, dd⟩ := st
    exact ⟨oi, e, fun v z => by rw [dd] at z; cases z⟩
  keep := by
    intro i h h' st k
    exact st.at fun oi e => k it (List.mem_singleton.mpr rfl) oi e
  item := by
    intro X hP hw hK hc i pins s σ H E I hf st hg
    subst hP hw hK
    obtain ⟨f0, f1, f2, f3, f4, f5⟩ := hf it (List.mem_singleton.mpr rfl)
    obtain ⟨_, hgd, _, ar', ep', hdt, hsz, ent⟩ := frzN I hg.1
    obtain ⟨rfl, rfl⟩ := dict_ep hod hdt
    obtain ⟨e0, he⟩ : ∃ e0, es[i]? = some e0 := ⟨_, List.getElem?_eq_getElem hg.2⟩
    obtain ⟨en, hen, hkey⟩ := ent i e0 he
    refine next_key_item st hgd hdt hsz hen fun h' st' sb => ?_
    have I1 : Inv X pins σ H { s with heap := h' } := I.turned (t' := s.toks) (fun b ob hb e => (sb.2 b hb).trans e) f0 f1 f3 f4 f5
    obtain ⟨oi, e, c, dd⟩ := id st'
    exact ⟨en.key, rfl, go_of (s := { s with heap := h' }) e c dd (by decide) ⟨.ref e0.2.1, H, I1, hkey, ⟨rfl, _, he, rfl⟩, st', fun b hb => (hf b hb).1⟩⟩
  done := by
    intro X hP hw hK hc i pins s σ H E I hf st hg
    subst hP hw hK
    obtain ⟨f0, f1, f2, f3, f4, f5⟩ := hf it (List.mem_singleton.mpr rfl)
    obtain ⟨_, hgd, _, ar', ep', hdt, hsz, _⟩ := frzN I hg.1
    obtain ⟨rfl, rfl⟩ := dict_ep hod hdt
    exact next_key_end (I.ok.hd hc) st hgd hdt hsz hg.2 fun h' eb => ⟨rfl, I.turned (t' := s.toks) (fun b ob hb e => eb b ob hb e) f0 f1 f3 f4 f5⟩
  self := fun A i s Q E st h => wpAny_pyIter_keyiter st h
def iND (P : Program) (w : World) (td : TE) : TI := fun σ H R => td σ H fun x H1 => ∃ d o es, x = .ref d ∧ H1 d = some (.frz o (NDo P w d es)) ∧ R (Itn P w d o es) H1
theorem pi_nd {tg e : Expr} {td : TE} (he : PE X e td) : PI X tg e (iND X.prog X.w td) := by
  constructor
  intro pins s σ H R I h
  refine thn (he.run pins s σ H _ I h) fun u s1 ⟨x, H1, I1, rx, d, o, es, ex, hd, q⟩ => ?_
  subst ex
  cases rx
  obtain ⟨hs, hgd, hx, ar, ep, hdt, hsz, ent⟩ := frzN I1 hd
  refine iter_keys hs hgd hx hdt (pi_one (tk := s1.toks) I1 _ (turn_nd _ hdt) ⟨_, Heap.get?_push_size _ rfl, rfl, ?_⟩ q)
  rw [hsz]
  rfl
theorem for_nd {P : Program} {w : World} {d : Addr} {o : Obj} {es : List Ent} {g : TG} {tb : TS} {D : Ends} {σ : L2.St} {H : Hp} (Pv : Nat → L2.St → Hp → Prop) (h0 : Pv 0 σ H) (hl : ∀ i σ H, i ≤ es.length → Pv i σ H → H d = some (.frz o (NDo P w d es)))
    (hs : ∀ i e σ H, es[i]? = some e → Pv i σ H → g (.ref e.2.1) σ H fun σ2 H2 => tb { D with nx := Pv (i + 1), ct := Pv (i + 1), bk := D.nx } σ2 H2) (hd : ∀ σ H, Pv es.length σ H → D.nx σ H) :
    ∃ W : Nat → Nat → L2.St → Hp → Prop, (∃ m, W 0 m σ H) ∧ ∀ i m σ H, W i m σ H → ((Itn P w d o es).stop i H ∧ D.nx σ H) ∨
      ((Itn P w d o es).go i H ∧ ∃ N : L2.St → Hp → Prop, (∀ σ' H', N σ' H' → ∃ m', m' < m ∧ W (i + 1) m' σ' H') ∧ ∀ x H', (Itn P w d o es).yld i H x H' → g x σ H' fun σ2 H2 => tb { D with nx := N, ct := N, bk := D.nx } σ2 H2) := by
  refine ⟨fun i m σ H => m = es.length - i ∧ i ≤ es.length ∧ Pv i σ H, ⟨es.length, by simp, Nat.zero_le _, h0⟩, ?_⟩
  rintro i m σ H ⟨rfl, hi, p⟩
  have q := hl i σ H hi p
  by_cases hlt : i < es.length
  · refine .inr ⟨⟨q, hlt⟩, Pv (i + 1), fun σ' H' p' => ⟨es.length - (i + 1), by omega, rfl, hlt, p'⟩, fun x H' y => ?_⟩
    obtain ⟨e, en, he, ex⟩ := y
    subst e ex
    exact hs i en σ _ he p
  · have e : i = es.length := by omega
    subst e
    exact .inl ⟨⟨q, Nat.le_refl _⟩, hd σ H p⟩
end
end W7
end
section
set_option Elab.async false
set_option linter.all false
set_option maxRecDepth 100000
/-! sorted(d), d a dict keyed by states: some arrangement of its keys. -/
namespace W7
open PySem PySem.Spec PyProof.Rows L2
def encE (e : Ent) : PyData := .tuple [.tuple (e.1.1.map .int), .int e.1.2]
theorem reads_ints {h : Heap} : ∀ {l : List Int} {us : List Value}, Vals (l.map V.int) us → ReadsAll h us (l.map .int) []
  | [], _, r => by cases r; exact .nil
  | x :: l, _, r => by
    rw [List.map_cons] at r
    cases r with
    | cons r rr =>
      obtain ⟨t, rfl⟩ := r
      exact .cons (.int _ _) (reads_ints rr)
theorem sta_reads {P : Program} {w : World} {H : Hp} {h : Heap} {e : Ent} (ok : HOk P w H h) (x : StaAt H e.2.1 e.1) : Reads h (.ref e.2.1) (encE e) [] := by
  obtain ⟨q, h1, h2⟩ := x
  obtain ⟨_, its, r, o, e1, e2, n, e3⟩ := ok _ _ h1
  obtain ⟨_, its2, r2, o2, f1, f2, n2, f3⟩ := ok q _ h2
  refine .tuple e1 e2 e3 ?_
  cases r with
  | cons r rr =>
    cases rr with
    | cons r' rr' =>
      cases rr'
      cases r
      obtain ⟨t, rfl⟩ := r'
      exact .cons (as := []) (.tuple f1 f2 f3 (reads_ints r2)) (.cons (as := []) (.int _ _) .nil)
theorem alike_nums : ∀ a b : List Int, PySem.W.alikeAll (a.map .int) (b.map .int) = true
  | [], b => by cases b <;> rfl
  | x :: a, [] => rfl
  | x :: a, y :: b => by
    rw [List.map_cons, List.map_cons]
    show (true && PySem.W.alikeAll (a.map .int) (b.map .int)) = true
    rw [alike_nums a b]
    rfl
theorem alike_ent (a b : Ent) : PySem.W.alike (encE a) (encE b) = true := by
  show (PySem.W.alikeAll (a.1.1.map .int) (b.1.1.map .int) && (true && true)) = true
  rw [alike_nums]
  rfl
theorem depth_ent (e : Ent) : (encE e).depth ≤ 2 := by
  have h : PyData.depthAll (e.1.1.map PyData.int) = 0 := PySem.W.depth_ints _
  unfold encE
  simp only [PyData.depth, PyData.depthAll, h]
  decide
theorem each_of {α β : Type} {R : α → β → Prop} {f : β → α} (h : ∀ b, R (f b) b) : ∀ l : List β, PySem.W.EachIs R (l.map f) l
  | [] => .nil
  | x :: l => .cons (h x) (each_of h l)
theorem each_in {α β : Type} {R : α → β → Prop} {f : β → α} : ∀ l : List β, (∀ b ∈ l, R (f b) b) → PySem.W.EachIs R (l.map f) l
  | [], _ => .nil
  | x :: l, h => .cons (h x List.mem_cons_self) (each_in l fun b hb => h b (List.mem_cons_of_mem _ hb))
theorem each_ref : ∀ {out : List Value} {l : List Ent}, PySem.W.EachIs (fun v (e : Ent) => v = .ref e.2.1) out l → Vals (l.map fun e => V.ref e.2.1) out
  | _, _, .nil => .nil
  | _, _, .cons r rr => by
    rw [r]
    exact .cons rfl (each_ref rr)
def rSortN (P : Program) (w : World) : List V → Hp → VK → Prop := fun vs H Q => ∃ d es, vs = [.ref d] ∧ ND P w H d es ∧ es.length < 1000 ∧ ∀ (fs : List Ent) (p : Addr), fs.Perm es → H p = none → Q (.ref p) (upd H p (.lst (fs.map fun e => .ref e.2.1)))
section
variable {X : Cx}
theorem cr_sortN (hc : X.calm = true) (hu : X.A.units + 64 < cLine) : CallR X (.builtin "sorted") (rSortN X.prog X.w) := by
  intro pins s σ H vs us Q I r h
  obtain ⟨d, es, rfl, n, hl, q⟩ := h
  obtain ⟨u, rfl, ru⟩ := vals1 r
  cases ru
  obtain ⟨_, hm, xs, p, o, ar, ep, e1, e2, e3, e4, _⟩ := n.dict I.hok
  have lx := Paired.length p
  have hsz : ar.size = es.length := by
    rw [size_of_entries e4]
    exact lx.symm
  have small : es.length ≤ sizeLine := by rw [sizeLine_eq]; omega
  refine PySem.Calls.call_function_entry kind_sorted plain_sorted entry_sorted (args_sorted1 _) ?_
  unfold Builtin.«sorted»
  refine wpAny_bind (m := checkCount "sorted" 1 1 _) (wpAny_pure ?_)
  refine wpAny_bind (PySem.W.kdu_collect (A := X.A.in1) (PySem.KdlSrc.rawDict (es := ar) (ep := ep) hm) (I.ok.hd hc) ⟨o, e1, e2, e3⟩ (by rw [hsz]; exact small) fun h' tk acc hk hacc => ?_)
  have I1 : Inv X pins σ H { s with heap := h', toks := tk } := I.kept hk
  have hv : acc.toList = es.map fun e => Value.ref e.2.1 := by
    refine List.ext_getElem? fun i => ?_
    rw [List.getElem?_map]
    by_cases hi : i < es.length
    · obtain ⟨x, hx, rx⟩ := paired_get p (List.getElem?_eq_getElem hi)
      have hai : i < acc.size := by rw [hacc.1, hsz]; exact hi
      have ha : acc[i]? = some acc[i] := Array.getElem?_eq_getElem hai
      obtain ⟨hi2, ev⟩ := hacc.2 i acc[i] ha
      have q1 := entry_at e4 i
      rw [hx, Array.getElem?_eq_getElem hi2] at q1
      have q2 : ar[i] = entryOfKey (nestedKind X.prog X.w) x := Option.some.inj q1
      rw [Array.getElem?_toList, ha, ev, q2, List.getElem?_eq_getElem hi]
      show some (Value.ref x.2.1) = _
      rw [rx.2.1]
      rfl
    · have h1 : acc.toList.length ≤ i := by
        rw [Array.length_toList, hacc.1, hsz]
        omega
      rw [List.getElem?_eq_none h1, List.getElem?_eq_none (by omega)]
      rfl
  rw [hv]
  refine wpAny_bind (wpAny_newList ?_ (by rw [List.length_map]; exact small))
  have I2 : Inv X pins σ H { s with heap := h'.push { cls := .type "list", data := .seq (es.map fun e => Value.ref e.2.1).toArray }, toks := tk } := I1.kept (t' := tk) fun b ob e => Heap.get?_push_of_some _ e
  refine wpAny_bind (wpAny_holding (wpAny_mono (Q := fun _ s' => EP X pins σ Q (.ref h'.objs.size) s') ?_ (fun _ s' x => wpAny_pure ⟨_, rfl, x⟩) fun _ _ e => e))
  refine PySem.W.list_sort_data (β := Ent) (bs := es) (enc := encE) (R := fun v e => v = .ref e.2.1) (n := 0) (Heap.get?_push_size _ rfl) (each_of (f := fun e : Ent => Value.ref e.2.1) (R := fun v e => v = .ref e.2.1) (fun _ => rfl) es) (each_in es fun e he => ⟨[], sta_reads I2.hok (n.st e he), by simp⟩) ?_ (.tuples fun b => ⟨_, _, rfl⟩) small ?_ ?_
  · refine .of fun b b' => alike_ent b b'
  · intro b _
    have := depth_ent b
    show X.A.units + 1 + 1 + (encE b).depth < cLine
    omega
  · intro out ho eo
    have pm := List.mergeSort_perm es (PySem.W.dataLe false encE)
    have lm := pm.length_eq
    have fresh : h'.objs.size < (h'.push { cls := .type "list", data := .seq (es.map fun e => Value.ref e.2.1).toArray }).objs.size := by rw [Heap.size_push]; exact Nat.lt_succ_self _
    obtain ⟨c, hat⟩ := sortedHeap_at (out := out.toArray) (show (h'.push { cls := .type "list", data := .seq (es.map fun e => Value.ref e.2.1).toArray }).get? h'.objs.size = some (seqObj "list" (es.map fun e => Value.ref e.2.1).toArray 0) from Heap.get?_push_size _ rfl)
    refine ⟨.ref h'.objs.size, _, I1.laid (a := h'.objs.size) (o := .lst ((es.mergeSort (PySem.W.dataLe false encE)).map fun e => V.ref e.2.1)) (t' := tk) (fun b ob e => ?_) (Nat.le_refl _) ⟨?_, out, c, each_ref eo, hat⟩, rfl, q _ _ pm (I1.hok.fresh (Nat.le_refl _))⟩
    · have hlt := Heap.lt_size e
      rw [sortedHeap_old (Nat.ne_of_lt hlt) (Nat.lt_trans hlt fresh)]
      exact Heap.get?_push_of_some _ e
    · rw [List.length_map, lm]
      exact small
end
end W7
end
section
set_option Elab.async false
set_option linter.all false
set_option maxRecDepth 100000
set_option maxHeartbeats 1000000
/-! A lambda of two parameters, without captured names, made, handed on, called. -/
namespace W7
open PySem PySem.Spec PyProof.Rows L2
structure LamT where
  q : Str
  params : Arguments
  body : Expr
  scope : Scope
def lamO (L : LamT) (f c' : Addr) : HO := .ext fun h => ∃ pm ctv, h.get? f = some (PySem.W.kla_obj "<lambda>" L.q L.params L.body L.scope [] pm c' ctv)
theorem lamO_ok {P : Program} {w : World} {H : Hp} {h : Heap} {L : LamT} {f c' : Addr} {pm ctv : Value} (e : h.get? f = some (PySem.W.kla_obj "<lambda>" L.q L.params L.body L.scope [] pm c' ctv)) : ObjOk P w H h f (lamO L f c') :=
  ⟨⟨pm, ctv, e⟩, ⟨_, e⟩, fun h1 h2 ⟨pm, ctv, e⟩ k => ⟨pm, ctv, k _ e⟩⟩
def IsLam (L : LamT) (H : Hp) (f : Addr) : Prop := ∃ c', H f = some (lamO L f c') ∧ H c' = some (LamX.CodeO c' L.q)
theorem IsLam.keep {L : LamT} {H H' : Hp} {f : Addr} (x : IsLam L H f) (k : ∀ b o, H b = some o → H' b = some o) : IsLam L H' f := by
  obtain ⟨c', h1, h2⟩ := x
  exact ⟨c', k _ _ h1, k _ _ h2⟩
def tLamV (L : LamT) (P : Addr) : TE := fun _ H Q => LamX.TabS H P L.q ∧ ∀ f H1, LamX.ExtN H H1 → IsLam L H1 f → Q (.ref f) H1
section
variable {X : Cx}
theorem pe_lam {L : LamT} {c P : Addr} {pos : Pos} (TB : LamX.TabB X.base X.mg c P) (hcode : X.env.code = .ref c) (hq : X.env.qual ++ "<lambda>" = L.q) (hdef : defaultsOf L.params X.env = ([], [])) (hfree : ∀ y ∈ L.scope.names, y.2 ≠ .free)
    (hclo : cloFrom X.env.cells L.scope.names [] = []) : PE X (.Lambda L.params L.body L.scope pos) (tLamV L P) := by
  constructor
  intro pins s σ H Q I h
  obtain ⟨⟨ps, hP, ht, ha⟩, h⟩ := h
  have hcl : closureFor L.scope X.env = pure [] := by rw [closure_ok fun y hy e => absurd e (hfree y hy), hclo]
  refine PySem.W.kla_eval hdef ?_
  rw [hq]
  have bP : s.heap.BuiltinsAt X.mg P := TB.bm.keeps I.bk
  have hP' : s.heap.get? P = some { cls := .none, data := .fields ps } := I.hok P _ hP
  cases hc : codeAmong pos ps.toList with
  | none =>
    refine PySem.W.kla_makeFunction (mg := X.mg) (c := c) (P := P) (ps := ps) hcl I.ok.glob (I.mod.glob.keeps I.bk) hcode (TB.code.keeps I.bk) hP' ht hc TB.gP bP fun c' ctv h' tk hx hge hlt hrec htb => ?_
    obtain ⟨c2, oc, vs, t, e2, hoc, hd, hv⟩ := hrec
    cases e2
    have nC : H c' = none := I.hok.fresh hge
    have I1 := LamX.inv_table (t' := tk) (more := #[rawInt pos.line, rawInt pos.col, .ref c']) (h' := h') I hP (fun b o hb e => hx b o hb e) htb hge ⟨oc, vs, t, hoc, hd, hv⟩
    have nF := I1.hok.fresh (Nat.le_refl h'.objs.size)
    have I2 := I1.laid (a := h'.objs.size) (o := lamO L h'.objs.size c') (h' := h'.push (PySem.W.kla_obj "<lambda>" L.q L.params L.body L.scope [] ((X.mg "__name__").getD .none) c' ctv)) (t' := tk) (fun b o e => Heap.get?_push_of_some _ e) (Nat.le_refl _) (lamO_ok (Heap.get?_push_size _ rfl))
    have hE : LamX.ExtN H (upd (upd H P (.tbl (ps ++ #[rawInt pos.line, rawInt pos.col, .ref c']))) c' (LamX.CodeO c' L.q)) := fun b o e n => by
      rw [upd_ne (ne_of_none e nC), upd_ne (fun z => n ps (Option.some.inj (e.symm.trans (by rw [z]; exact hP))))]
      exact e
    refine ⟨.ref h'.objs.size, _, I2, rfl, h _ _ (hE.trans (.of fun b o e => ?_)) ⟨c', upd_same, ?_⟩⟩
    · rw [upd_ne (ne_of_none e nF)]
      exact e
    · rw [upd_ne (ne_of_none upd_same nF), upd_same]
  | some cv =>
    obtain ⟨c', e, hco⟩ := ha pos cv hc
    subst e
    refine PySem.W.kla_makeFunctionHit (mg := X.mg) (c := c) (P := P) (ps := ps) hcl I.ok.glob (I.mod.glob.keeps I.bk) hcode (TB.code.keeps I.bk) hP' ht hc bP fun ctv h' tk hx hsz => ?_
    have I1 : Inv X pins σ H { s with heap := h', toks := tk } := I.kept hx
    have nF := I1.hok.fresh (Nat.le_refl h'.objs.size)
    have I2 := I1.laid (a := h'.objs.size) (o := lamO L h'.objs.size c') (h' := h'.push (PySem.W.kla_obj "<lambda>" L.q L.params L.body L.scope [] ((X.mg "__name__").getD .none) c' ctv)) (t' := tk) (fun b o e => Heap.get?_push_of_some _ e) (Nat.le_refl _) (lamO_ok (Heap.get?_push_size _ rfl))
    refine ⟨.ref h'.objs.size, _, I2, rfl, h _ _ (.of fun b o e => ?_) ⟨c', upd_same, ?_⟩⟩
    · rw [upd_ne (ne_of_none e nF)]
      exact e
    · rw [upd_ne (ne_of_none hco nF)]
      exact hco
end

/-! ### its call -/
structure LamOk (P : Program) (w : World) (K : PySem.W.Frag) (mg : Str → Option Value) (base : Heap) (L : LamT) (k n : Nat) (sp : Sp) : Prop where
  run : ∀ (A : Around) (outer : List Env) (s : Shared) (H : Hp) (f c' : Addr) (pm ctv : Value) (us : List Value) (vs : List V) (Q : VK), Room k A → Env0 P w K mg base A outer s H → us.length = n → Vals vs us →
    s.heap.get? f = some (PySem.W.kla_obj "<lambda>" L.q L.params L.body L.scope [] pm c' ctv) → s.heap.CodeRec (.ref c') L.q → sp vs H Q E0 → codeAny (model P w) A (.call (.ref f) ⟨us, []⟩) (CR L2.CX0 outer P w H s Q E0) s
theorem lamOk_of {P : Program} {w : World} {K : PySem.W.Frag} {mg : Str → Option Value} {base : Heap} {L : LamT} {k : Nat} {sp : Sp} {N ps : List Str} (S : FnScope N ps L.scope)
    (len : ∀ vs H Q E, sp vs H Q E → vs.length = ps.length) (hbind : ∀ (pm cv ctv : Value) (us : List Value), us.length = ps.length → bindArgs (PySem.W.kla_fn "<lambda>" L.q L.params L.body L.scope [] pm cv ctv) ⟨us, []⟩ = pure (ps.zip us))
    (hbody : ∀ (cdv : Value) (A : Around) (outer : List Env) (s : Shared) (H : Hp) (f : Addr) (vs : List V) (Q : VK), Room k (A.deeper (envOfC L.q L.scope s.heap.objs.size f cdv)) → sp vs H Q E0 →
      ∃ t, PE (cxOf L2.CX0 P w K mg base N L.q L.scope f cdv A outer s H E0).nox L.body t ∧ t (L2.start N vs) H Q) : LamOk P w K mg base L (k + 1) ps.length sp := by
  constructor
  intro A outer s H f c' pm ctv us vs Q hr e0 hlu r hf hcd hsp
  have lim : s.heap.NoLimit := e0.mod.nolimit.keeps fun b o e => (e0.bs b o e).1
  have hkind : ∀ y ∈ ps.zip us, L.scope.names.lookup y.1 = some .local ∨ (L.scope.names.lookup y.1 = some .cell ∧ ((cellsFrom (s.heap.objs.size + 1) L.scope.names []).lookup y.1).isSome = true) := by
    rintro ⟨n, v⟩ hy
    rcases S.par n (List.of_mem_zip hy).1 with q | q
    · exact .inl q
    · exact .inr ⟨q, PySem.W.cellsFrom_some _ _ _ (.inl q)⟩
  refine PySem.W.kla_callFunE hr.depth hf rfl S.co S.gen rfl hcd ?_
  rw [hbind pm _ ctv us hlu]
  refine wpAny_pure (wpAny_newFunctionEnv_cells S.kind hkind fun env he s1 x => ?_)
  subst he
  refine ⟨lim.keeps x.toInCall.keep, ?_⟩
  obtain ⟨t, ht, hq⟩ := hbody (.ref c') A outer s H f vs Q (hr.deeper _) hsp
  have hlv : vs.length = ps.length := len _ _ _ _ hsp
  have I : Inv (cxOf L2.CX0 P w K mg base N L.q L.scope f (.ref c') A outer s H E0) [] (L2.start N vs) H s1 := inv_start S hr.hd e0 hlv r x
  show codeAny _ _ (.expr L.body (envOfC L.q L.scope s.heap.objs.size f (.ref c'))) _ _
  refine PySem.W.kla_codeExpr (wpAny_mono (ht.nox.run [] s1 _ H Q I hq) (fun v s' hs => ?_) fun e s' hs => hs)
  obtain ⟨y, H', J, rv, q⟩ := hs
  exact ⟨y, H', J.os, J.bare, J.base, J.hok, rv, q⟩
def tCallLam (i : Nat) (L : LamT) (sp : Sp) (t : TA) : TE := fun σ H Q => ∃ f, σ[i]? = some (some (.ref f)) ∧ IsLam L H f ∧ t σ H fun vs H1 => IsLam L H1 f ∧ sp vs H1 Q E0
section
variable {X : Cx} {k n i : Nat} {L : LamT} {sp : Sp} {x : Str} {p pos : Pos} {e : Expr} {es : List Expr} {t : TA}
theorem pe_callLam (F : LamOk X.prog X.w X.K X.mg X.base L k n sp) (hr : Room k X.A) (hN : X.N[i]? = some x) (hv : Vis X.env.scope x) (ha : PA X (e :: es) t) (hlen : ∀ vs H Q E, sp vs H Q E → vs.length = n)
    (hdb : (x == ("__debug__" : Str)) = false := by decide) (hcd : (x == ("__classdict__" : Str)) = false := by decide)
    (he : starEach (e :: es) X.env = (false, eval e X.env) :: starEach es X.env := by rfl) (hpl : (backTo pos (starEach es X.env)).any (·.1) = false := by rfl) : PE X (.Call (.Name x p) (e :: es) [] pos) (tCallLam i L sp t) := by
  constructor
  intro pins s σ H Q I h
  obtain ⟨f, hs, hl, ht⟩ := h
  refine wpAny_Call_Name_kw (thn ((pe_var (pos := p) hN hv hdb hcd).run pins s σ H (fun v H1 => v = .ref f ∧ H1 = H) I ⟨.ref f, hs, rfl, rfl⟩) fun u s1 ⟨v, H1, I1, r1, e1, e2⟩ => ?_)
  subst e1 e2
  cases r1
  have at1 : PySem.W.FnAt f s1.heap := by
    obtain ⟨c', g1, _⟩ := hl
    obtain ⟨⟨pm, ctv, g⟩, _⟩ := I1.hok f _ g1
    exact ⟨_, _, _, _, g⟩
  refine PySem.W.callWith_F at1 (thn (ha.run pos pins s1 σ _ _ I1 ht) fun us s2 ⟨vs, H2, I2, r, q1, q⟩ => ?_) he hpl
  obtain ⟨c', g1, g2⟩ := q1
  obtain ⟨⟨pm, ctv, g⟩, _⟩ := I2.hok f _ g1
  obtain ⟨⟨oc, ws, tt, hoc, hdc, hvc⟩, _⟩ := I2.hok c' _ g2
  refine ⟨⟨_, _, _, _, g⟩, wpAny_call (codeAny_mono (F.run X.A X.stack s2 H2 f c' pm ctv us vs Q hr I2.env0 (by rw [← r.length]; exact hlen _ _ _ _ q) r g ⟨c', oc, ws, tt, rfl, hoc, hdc, hvc⟩ q) fun r s' hq => ?_)⟩
  cases r with
  | error e => exact False.elim hq
  | ok fl =>
    cases fl with
    | ret u => exact I2.after hq
    | next => exact False.elim hq
    | brk => exact False.elim hq
    | cont => exact False.elim hq
end
end W7
end
section
set_option Elab.async false
set_option linter.all false
set_option maxRecDepth 100000
/-! The text by places, what stands in the heap, the promises. -/
namespace W7
open PySem PySem.Spec PyProof.Rows L2
def top (i : Nat) : Stmt := PySem.Challenge.pw_shopwhole_k07_whole_orders.main.body.getD i (.Pass ⟨0, 0, 0, 0⟩)
abbrev sIsCost : Stmt := top 2
abbrev sAre : Stmt := top 3
abbrev sSteps : Stmt := top 4
abbrev sOther : Stmt := top 5
abbrev sHeights : Stmt := top 6
abbrev sHome : Stmt := top 7
abbrev sLeast : Stmt := top 8
abbrev sAhead : Stmt := top 9
abbrev sCostOf : Stmt := top 10
abbrev sIsLeast : Stmt := top 11
abbrev sBetween : Stmt := top 12
abbrev sCell : Stmt := top 14
abbrev sDraw : Stmt := top 15
abbrev sNumber : Stmt := top 16
abbrev sNext : Stmt := top 17
abbrev sPick : Stmt := top 18
abbrev sLCosts : Stmt := top 19
abbrev sLOrders : Stmt := top 20
abbrev sLCost : Stmt := top 21
abbrev sLaw : Stmt := top 22

/-! ### heaps -/
theorem same_new {H : Hp} {p : Addr} (h : H p = none) (o : HO) : Same H (upd H p o) := fun b u q => by
  rw [upd_ne (ne_of_none q h)]
  exact q
theorem _root_.L2.Same.new7 {H H1 : Hp} {p : Addr} (s : Same H H1) (h : H1 p = none) (o : HO) : Same H (upd H1 p o) := s.trans (same_new h o)
/-- a thing that was new is written -/
theorem _root_.L2.Same.wr7 {H H1 : Hp} {p : Addr} (s : Same H H1) (h : H p = none) (o : HO) : Same H (upd H1 p o) := fun b u q => by
  rw [upd_ne (ne_of_none q h)]
  exact s _ _ q
def oV : Option Int → V
  | none => .non
  | some i => .int i
theorem oV_non {x : Option Int} : decide (oV x = V.non) = x.isNone := by
  cases x with
  | none => rfl
  | some i => exact decide_eq_false fun e => by cases e
def CAt (H : Hp) (c : Addr) (C : WO.Costs) : Prop := ∃ f b l rs, H c = some (.tup [.ref f, .ref b, .ref l]) ∧ H f = some (.tup (C.first.map oV)) ∧ H l = some (.tup (C.last.map oV)) ∧
  H b = some (.tup (rs.map V.ref)) ∧ Paired (fun r row => H r = some (.tup (row.map oV))) rs C.btw
theorem pmap {α β : Type} {F G : α → β → Prop} (f : ∀ a b, F a b → G a b) : ∀ {l : List α} {m : List β}, Paired F l m → Paired G l m
  | _, _, .nil => .nil
  | _, _, .cons r t => .cons (f _ _ r) (pmap f t)
theorem CAt.keep {H H' : Hp} {c : Addr} {C : WO.Costs} (x : CAt H c C) (s : Same H H') : CAt H' c C := by
  obtain ⟨f, b, l, rs, h1, h2, h3, h4, h5⟩ := x
  exact ⟨f, b, l, rs, s _ _ h1, s _ _ h2, s _ _ h3, s _ _ h4, pmap (fun _ _ q => s _ _ q) h5⟩
theorem StaAt.same {H H' : Hp} {a : Addr} {s : WO.Sta} (x : StaAt H a s) (k : Same H H') : StaAt H' a s := x.keep fun b xs q => k b _ q
theorem ND.same {P : Program} {w : World} {H H' : Hp} {d : Addr} {es : List Ent} (n : ND P w H d es) (k : Same H H') : ND P w H' d es := n.keep (fun u q => k _ _ q) fun b xs q => k b _ q
theorem IsLam.same {L : LamT} {H H' : Hp} {f : Addr} (x : IsLam L H f) (k : Same H H') : IsLam L H' f := x.keep k
/-- a list of ints as a tuple's items -/
def IntsT (H : Hp) (o : Addr) (os : List Int) : Prop := H o = some (.tup (os.map V.int))
/-- pairs (state, cost) -/
def StepAt (H : Hp) (p : Addr) (st : WO.Sta × Int) : Prop := ∃ a, H p = some (.tup [.ref a, .int st.2]) ∧ StaAt H a st.1
theorem StepAt.same {H H' : Hp} {p : Addr} {st : WO.Sta × Int} (x : StepAt H p st) (k : Same H H') : StepAt H' p st := by
  obtain ⟨a, h1, h2⟩ := x
  exact ⟨a, k _ _ h1, h2.same k⟩

/-! ### small things -/
theorem get_map {α β : Type} {f : α → β} {l : List α} {i : Nat} {x : α} (h : l[i]? = some x) : (l.map f)[i]? = some (f x) := by
  rw [List.getElem?_map, h]
  rfl
theorem getO_at {l : List (Option Int)} {i : Nat} (h : i < l.length) : (l.map oV)[i]? = some (oV (WO.getO l i)) := by
  have e : l[i]? = some (WO.getO l i) := by
    unfold WO.getO
    rw [List.getD_eq_getElem?_getD, List.getElem?_eq_getElem h]
    rfl
  exact get_map e
theorem paired_len {α β : Type} {R : α → β → Prop} {l : List α} {m : List β} (p : Paired R l m) : l.length = m.length := Paired.length p
theorem paired_app {α β : Type} {R : α → β → Prop} : ∀ {l l' : List α} {m m' : List β}, Paired R l m → Paired R l' m' → Paired R (l ++ l') (m ++ m')
  | _, _, _, _, .nil, q => q
  | _, _, _, _, .cons r t, q => .cons r (paired_app t q)
theorem sizeLine_big {n : Nat} (h : n ≤ 100000) : n < sizeLine := by
  rw [sizeLine_eq]
  omega
/-! ### promises -/
def spOther : Sp := fun vs H Q _ => ∃ e : Int, vs = [.int e] ∧ Q (.int (WO.other e)) H
def spIsCost : Sp := fun vs H Q _ => ∃ x : Option Int, vs = [oV x] ∧ (∀ c, x = some c → 0 ≤ c) ∧ Q (.bl true) H
def spAre : Sp := fun vs H Q _ => ∃ c C, vs = [.ref c] ∧ CAt H c C ∧ C.Ok ∧ ∀ H', Same H H' → Q (.bl true) H'
def spSteps : Sp := fun vs H Q _ => ∃ c C a s, vs = [.ref c, .ref a] ∧ CAt H c C ∧ C.Ok ∧ StaAt H a s ∧ WO.Good C.n s ∧
  ∀ H' l ps, Same H H' → H l = none → H' l = some (.lst (ps.map V.ref)) → Paired (StepAt H') ps (WO.steps C s) → Q (.ref l) H'
def spHome : Sp := fun vs H Q _ => ∃ c C a s, vs = [.ref c, .ref a] ∧ CAt H c C ∧ C.Ok ∧ StaAt H a s ∧ WO.Good C.n s ∧ Q (oV (WO.home C s)) H
def spHeights (P : Program) (w : World) : Sp := fun vs H Q _ => ∃ c C, vs = [.ref c] ∧ CAt H c C ∧ C.Ok ∧
  ∀ H' d es, Same H H' → H d = none → H' d = some (NDo P w d es) → ND P w H' d es → WO.Hts C (tab es) → es.length ≤ 100 → Q (.ref d) H'
def spAhead (P : Program) (w : World) : Sp := fun vs H Q _ => ∃ c C d es a s v, vs = [.ref c, .ref d, .ref a] ∧ CAt H c C ∧ C.Ok ∧ ND P w H d es ∧ WO.Hts C (tab es) ∧ es.length ≤ 100 ∧ StaAt H a s ∧ (s, v) ∈ tab es ∧ 0 ≤ s.2 ∧
  ∀ H' b t u z, Same H H' → StaAt H' b t → (t, u) ∈ tab es → (s, z) ∈ WO.steps C t → u + z = v → Q (.ref b) H'
def spLeast : Sp := fun vs H Q _ => ∃ c C, vs = [.ref c] ∧ CAt H c C ∧ C.Ok ∧ (∀ H', Same H H' → (∀ o, WO.costOf C o = none) → Q .non H') ∧
  ∀ H' p o b os, Same H H' → H' p = some (.tup [.int b, .ref o]) → IntsT H' o os → WO.IsLeast C b os → Q (.ref p) H'
def spCostOf : Sp := fun vs H Q _ => ∃ c C o os, vs = [.ref c, .ref o] ∧ CAt H c C ∧ C.Ok ∧ IntsT H o os ∧ (∀ e ∈ os, 0 ≤ e ∧ e < 2 * (C.n : Int)) ∧ ∀ H', Same H H' → Q (oV (WO.costOf C os)) H'
def spIsLeast (P : Program) (w : World) : Sp := fun vs H Q _ => ∃ c C o os d es, vs = [.ref c, .ref o, .ref d] ∧ CAt H c C ∧ C.Ok ∧ IntsT H o os ∧ (∀ e ∈ os, 0 ≤ e ∧ e < 2 * (C.n : Int)) ∧
  H d = some (NDo P w d es) ∧ ND P w H d es ∧ (WO.keys (tab es)).Nodup ∧ (∀ s v, (s, v) ∈ tab es → WO.Good C.n s) ∧ ∀ H', Same H H' → Q (.bl (WO.isLeast C os (tab es))) H'
/-- the costs of ends on a line -/
def btwC (es : List Int) : WO.Costs := ⟨es.length / 2, es.map fun e => some (3 - e).natAbs, es.map fun a => es.map fun b => some (a - b).natAbs, es.map fun e => some (e - 3).natAbs⟩
def EndAt (H : Hp) (p : Addr) (e : Int) : Prop := H p = some (.tup [.int e, .int 0, .int 0])
def spDist : Sp := fun vs H Q _ => ∃ a b x y, vs = [.ref a, .ref b] ∧ EndAt H a x ∧ EndAt H b y ∧ Q (.int ((x - y).natAbs : Nat)) H
def spBetween (L : LamT) : Sp := fun vs H Q _ => ∃ l ps es h f, vs = [.ref l, .ref h, .ref f] ∧ H l = some (.lst (ps.map V.ref)) ∧ Paired (EndAt H) ps es ∧ es.length ≤ 100 ∧ EndAt H h 3 ∧ IsLam L H f ∧
  ∀ H' c, Same H H' → CAt H' c (btwC es) → Q (.ref c) H'
def DrawAt (K : PySem.W.Frag) (H : Hp) (d sc : Addr) : Prop := ∃ (ns : List Int) (z m : Int), H d = some (.lst [.ref sc, .int z, .int m]) ∧ SqL K H sc (ns.map V.int) ∧ sc ≠ d ∧ 0 ≤ z ∧ 0 ≤ m
def But (H H' : Hp) (d : Addr) : Prop := ∀ b o, b ≠ d → H b = some o → H' b = some o
theorem But.refl (H : Hp) (d : Addr) : But H H d := fun _ _ _ h => h
theorem But.trans {H H1 H2 : Hp} {d : Addr} (a : But H H1 d) (b : But H1 H2 d) : But H H2 d := fun c o n h => b c o n (a c o n h)
theorem But.of {H H1 : Hp} {d : Addr} (a : Same H H1) : But H H1 d := fun c o _ h => a c o h
theorem But.new {H H1 : Hp} {d p : Addr} (a : But H H1 d) (h : H1 p = none) (o : HO) : But H (upd H1 p o) d := a.trans (.of (same_new h o))
theorem But.seq {K : PySem.W.Frag} {H H' : Hp} {d a : Addr} {xs : List V} (e : But H H' d) (n : a ≠ d) (h : SqL K H a xs) : SqL K H' a xs := by
  rcases h with (h | ⟨o, h⟩) | h
  · exact .inl (.inl (e _ _ n h))
  · exact .inl (.inr ⟨o, e _ _ n h⟩)
  · exact .inr h
theorem DrawAt.same {K : PySem.W.Frag} {H H' : Hp} {d sc : Addr} (x : DrawAt K H d sc) (s : Same H H') : DrawAt K H' d sc := by
  obtain ⟨ns, z, m, h1, h2, h3, h4, h5⟩ := x
  exact ⟨ns, z, m, s _ _ h1, s.seq h2, h3, h4, h5⟩
theorem DrawAt.ne {K : PySem.W.Frag} {H : Hp} {d sc p : Addr} (x : DrawAt K H d sc) (h : H p = none) : d ≠ p := by
  obtain ⟨ns, z, m, h1, h2, h3, h4, h5⟩ := x
  exact ne_of_none h1 h
theorem But.wr {H H' : Hp} {d p : Addr} (a : But H H' d) (h : H p = none) (o : HO) : But H (upd H' p o) d := fun b u n e => by
  rw [upd_ne (ne_of_none e h)]
  exact a b u n e
/-- a thing that was new at H is written -/
theorem DrawAt.wr {K : PySem.W.Frag} {H H' : Hp} {d sc p : Addr} (x : DrawAt K H d sc) (y : DrawAt K H' d sc) (b : But H H' d) (h : H p = none) (o : HO) : DrawAt K (upd H' p o) d sc := by
  obtain ⟨ns, z, m, h1, h2, h3, h4, h5⟩ := x
  obtain ⟨ns', z', m', g1, g2, g3, g4, g5⟩ := y
  exact ⟨ns, z', m', by rw [upd_ne (ne_of_none h1 h)]; exact g1, (b.wr h o).seq h3 h2, h3, g4, g5⟩
def spCellAt (K : PySem.W.Frag) : Sp := fun vs H Q _ => ∃ (l : Addr) (ns : List Int) (k : Int), vs = [.ref l, .int k] ∧ SqL K H l (ns.map V.int) ∧ 0 ≤ k ∧ ∀ i : Int, Q (.int i) H
def spDraw : Sp := fun vs H Q _ => ∃ z k b : Int, vs = [.int z, .int k, .int b] ∧ -(2 ^ 64) < z ∧ z < 2 ^ 64 ∧ 0 ≤ k ∧ k ≤ 100 ∧ 0 < b ∧ ∀ H' r, Same H H' → 0 ≤ r → r < b → Q (.int r) H'
def spNumber : Sp := fun vs H Q _ => ∃ z k b : Int, vs = [.int z, .int k, .int b] ∧ 1 ≤ k ∧ k ≤ 12 ∧ 0 < b ∧ ∀ H' r, Same H H' → 0 ≤ r → r < b → Q (.int r) H'
def spNext (K : PySem.W.Frag) : Sp := fun vs H Q _ => ∃ d sc b, vs = [.ref d, .int b] ∧ DrawAt K H d sc ∧ 0 < b ∧ ∀ H' r, But H H' d → DrawAt K H' d sc → 0 ≤ r → r < b → Q (.int r) H'
def spPick (K : PySem.W.Frag) : Sp := fun vs H Q _ => ∃ d sc l xs, vs = [.ref d, .ref l] ∧ DrawAt K H d sc ∧ l ≠ d ∧ SqL K H l xs ∧ xs ≠ [] ∧ ∀ H' x, But H H' d → DrawAt K H' d sc → x ∈ xs → Q x H'
def spLCosts (K : PySem.W.Frag) : Sp := fun vs H Q _ => ∃ d sc, vs = [.ref d] ∧ DrawAt K H d sc ∧ ∀ H' c C, But H H' d → DrawAt K H' d sc → CAt H' c C → C.Ok → Q (.ref c) H'
def OrdsAt (H : Hp) (r : Addr) (os : List (List Int)) : Prop := ∃ ps, H r = some (.lst (ps.map V.ref)) ∧ Paired (IntsT H) ps os
def spLOrders (k : Nat) : Sp := fun vs H Q _ => ∃ l left, vs = [.ref l] ∧ H l = some (.lst (left.map V.int)) ∧ left.length = k ∧ left.Nodup ∧ ∀ H' r, Same H H' → H r = none → OrdsAt H' r (WO.orders k left) → Q (.ref r) H'
def spLCost : Sp := fun vs H Q _ => ∃ c C o os, vs = [.ref c, .ref o] ∧ CAt H c C ∧ C.Ok ∧ IntsT H o os ∧ (∀ e ∈ os, 0 ≤ e ∧ e < 2 * (C.n : Int)) ∧ os.length ≤ 100 ∧ ∀ H', Same H H' → Q (oV (WO.lawCost C os)) H'
def spLaw (K : PySem.W.Frag) (P : Addr) : Sp := fun vs H Q _ => ∃ (a : Addr) (ns : List Int), vs = [.ref a] ∧ SqL K H a (ns.map V.int) ∧ ns.length ≤ 63 ∧ H P = some (.tbl #[]) ∧ ∀ H', Q (.bl true) H'
/-- the built-ins' names are free -/
structure Txt (mg : Str → Option Value) : Prop where
  isi : mg "isinstance" = none
  int : mg "int" = none
  bool : mg "bool" = none
  tuple : mg "tuple" = none
  len : mg "len" = none
  all : mg "all" = none
  range : mg "range" = none
  sorted : mg "sorted" = none
  zip : mg "zip" = none
  any : mg "any" = none
  sum : mg "sum" = none
  list : mg "list" = none
  min : mg "min" = none
  dict : mg "dict" = none
  abs : mg "abs" = none
theorem ifd {p : Prop} [Decidable p] {A B : Prop} (h1 : p → A) (h2 : ¬ p → B) : if decide p = true then A else B := by
  by_cases h : p
  · rw [decide_eq_true h]
    exact iteT (h1 h)
  · rw [decide_eq_false h]
    exact iteF (h2 h)
/-- a test by ==, of two ints -/
theorem ifv {i j : Int} {A B : Prop} (h1 : i = j → A) (h2 : i ≠ j → B) : if decide (V.int i = V.int j) = true then A else B :=
  ifd (fun e => h1 (by injection e)) fun e => h2 fun z => e (by rw [z])
theorem ifnv {i j : Int} {A B : Prop} (h1 : i ≠ j → A) (h2 : i = j → B) : if (!decide (V.int i = V.int j)) = true then A else B := by
  by_cases h : i = j
  · rw [decide_eq_true (by rw [h])]
    exact iteF (h2 h)
  · rw [decide_eq_false fun z => h (by injection z)]
    exact iteT (h1 h)
/-- a test by is None -/
theorem ifN {x : Option Int} {A B : Prop} (h1 : x = none → A) (h2 : ∀ c, x = some c → B) : if decide (oV x = V.non) = true then A else B := by
  cases x with
  | none => exact iteT (h1 rfl)
  | some c => exact iteF (h2 c rfl)
theorem ifNN {x : Option Int} {A B : Prop} (h1 : ∀ c, x = some c → A) (h2 : x = none → B) : if (!decide (oV x = V.non)) = true then A else B := by
  cases x with
  | none => exact iteF (h2 rfl)
  | some c => exact iteT (h1 c rfl)
theorem at_oV {l : List (Option Int)} {e : Int} (h0 : 0 ≤ e) (h1 : e < (l.length : Int)) : atI (l.map oV) e = some (oV (WO.getO l e.toNat)) := by
  have h := atI_nat (getO_at (l := l) (i := e.toNat) (by omega))
  rwa [show ((e.toNat : Nat) : Int) = e by omega] at h
theorem bt_isinstance : bootBuiltins "isinstance" = some (.builtin "isinstance") := by decide +kernel
theorem bt_sorted : bootBuiltins "sorted" = some (.builtin "sorted") := by decide +kernel
theorem bt_all : bootBuiltins "all" = some (.builtin "all") := by decide +kernel
theorem bt_any : bootBuiltins "any" = some (.builtin "any") := by decide +kernel
theorem bt_sum : bootBuiltins "sum" = some (.builtin "sum") := by decide +kernel
theorem bt_min : bootBuiltins "min" = some (.builtin "min") := by decide +kernel
theorem bt_abs : bootBuiltins "abs" = some (.builtin "abs") := by decide +kernel
theorem bt_int : bootBuiltins "int" = some (.type "int") := by decide +kernel
theorem bt_bool : bootBuiltins "bool" = some (.type "bool") := by decide +kernel
theorem bt_tuple : bootBuiltins "tuple" = some (.type "tuple") := by decide +kernel
theorem bt_list : bootBuiltins "list" = some (.type "list") := by decide +kernel
theorem bt_dict : bootBuiltins "dict" = some (.type "dict") := by decide +kernel
/-! ### rules with the written part told (within a comprehension's block) -/
section
variable {X : Cx} {K : PySem.W.Frag}
def rLen7 (K : PySem.W.Frag) : List V → Hp → VK → Prop := fun xs H Q => ∃ p ys, xs = [.ref p] ∧ (SqL K H p ys ∨ SqT K H p ys) ∧ Q (.int ys.length) H
theorem len7 (h : X.K = K) : CallR X (.builtin "len") (rLen7 K) := by
  subst h
  exact call_len_seq
theorem tup7 (h : X.K = K) : IxR X (rIxT K) := by
  subst h
  exact ix_tup
theorem lst7 (h : X.K = K) : IxR X (rIxL K) := by
  subst h
  exact ix_list
theorem isi7 (h : X.K = K) : CallR X (.builtin "isinstance") (rIsi K) := by
  subst h
  exact call_isi
def rTup7 (K : PySem.W.Frag) : List V → Hp → VK → Prop := fun xs H Q => ∃ p ys, xs = [.ref p] ∧ ((SqL K H p ys ∧ ∀ l, H l = none → Q (.ref l) (upd H l (.tup ys))) ∨ (SqT K H p ys ∧ Q (.ref p) H))
theorem tupof7 (h : X.K = K) : CallR X (.type "tuple") (rTup7 K) := by
  subst h
  exact call_tuple_of
end
/-! ### rules with the program told -/
section
variable {X : Cx} {P : Program} {w : World} {pos apos cpos : Pos} {td ty tk tv : TE} {o e ek ev tg : Expr}
theorem dnew7 (h1 : X.prog = P) (h2 : X.w = w) : PE X (.Dict [] [] pos) (tDNewN P w) := by
  subst h1 h2
  exact pe_dnewN
theorem done7 (h1 : X.prog = P) (h2 : X.w = w) (hu : X.A.units + 64 < cLine) (hk : PE X ek tk) (hv : PE X ev tv) : PE X (.Dict [some ek] [ev] pos) (tDOneN P w tk tv) := by
  subst h1 h2
  exact pe_done hu hk hv
theorem get7 (h1 : X.prog = P) (h2 : X.w = w) (hu : X.A.units + 64 < cLine) (ho : PE X o td) (he : PE X e ty) (m : M1 X o "get" apos e cpos) : PE X (.Call (.Attribute o "get" apos) [e] [] cpos) (tGet1N P w td ty) := by
  subst h1 h2
  exact pe_get1N hu ho he m
theorem upd7 (h1 : X.prog = P) (h2 : X.w = w) (hu : X.A.units + 64 < cLine) (ho : PE X o td) (he : PE X e ty) (m : M1 X o "update" apos e cpos) : PE X (.Call (.Attribute o "update" apos) [e] [] cpos) (tUpdN P w td ty) := by
  subst h1 h2
  exact pe_updN hu ho he m
theorem nin7 (h1 : X.prog = P) (h2 : X.w = w) (hu : X.A.units + 64 < cLine) : OpR X (compareOp .NotIn) (rInN P w not) := by
  subst h1 h2
  exact op_ninN hu
theorem ix7 (h1 : X.prog = P) (h2 : X.w = w) (hu : X.A.units + 64 < cLine) : IxR X (rGetN P w) := by
  subst h1 h2
  exact ix_nd hu
theorem set7 (h1 : X.prog = P) (h2 : X.w = w) (hu : X.A.units + 64 < cLine) : PSet X (rSetN P w) := by
  subst h1 h2
  exact set_nd hu
theorem ne7 (h1 : X.prog = P) (h2 : X.w = w) (hu : X.A.units < cLine) : OpR X (compareOp .NotEq) (rNeN P w) := by
  subst h1 h2
  exact op_neN hu
theorem sort7 (h1 : X.prog = P) (h2 : X.w = w) (hc : X.calm = true) (hu : X.A.units + 64 < cLine) : CallR X (.builtin "sorted") (rSortN P w) := by
  subst h1 h2
  exact cr_sortN hc hu
theorem dict7 (h1 : X.prog = P) (h2 : X.w = w) (hu : X.A.units + 64 < cLine) : CallR X (.type "dict") (rDictN P w) := by
  subst h1 h2
  exact call_dictN hu
theorem keys7 (h1 : X.prog = P) (h2 : X.w = w) (he : PE X e td) : PI X tg e (iND P w td) := by
  subst h1 h2
  exact pi_nd he
end
end W7
end
section
set_option Elab.async false
set_option linter.all false
set_option maxRecDepth 100000
/-! Comprehensions whose items are reckoned one by one. -/
namespace W7
open PySem PySem.Spec PyProof.Rows L2
theorem take_get {ys : List V} {i : Nat} {y : V} (h : ys[i]? = some y) : ys.take (i + 1) = ys.take i ++ [y] := by
  rw [List.take_add_one, h]
  rfl
/-- over a tuple: the heap as it was but for the list -/
theorem lcT_map {K : PySem.W.Frag} {a : Addr} {xs : List V} (ys : List V) {g : TG} {te : TE} {vs : List Nat} {σ : L2.St} {H1 : Hp} {D : Addr} {Qd : Hp → Prop} (hD : H1 D = none) (ha : SqT K H1 a xs) (hxy : xs.length = ys.length) (hz : xs.length ≤ 1000)
    (hs : ∀ (i : Nat) (x y : V) (H : Hp) (R : V → Hp → Prop), xs[i]? = some x → ys[i]? = some y → Same H1 H → R y H → g x (wipe σ vs) H fun σ2 H2 => wipe σ2 vs = wipe σ vs ∧ te σ2 H2 R)
    (hd : ∀ H, Same H1 H → H D = some (.lst ys) → Qd H) :
    ∃ W : Nat → Nat → Hp → Prop, (∃ m, W 0 m (upd H1 D (.lst []))) ∧ ∀ i m H, W i m H →
      ((Itt K a).stop i H ∧ Qd H) ∨ ((Itt K a).go i H ∧ ∃ Nx : Hp → Prop, (∀ H', Nx H' → ∃ m', m' < m ∧ W (i + 1) m' H') ∧ ∀ x H', (Itt K a).yld i H x H' → g x (wipe σ vs) H' fun σ2 H2 => wipe σ2 vs = wipe σ vs ∧ tYes σ2 H2 fun b H3 =>
        if b = true then te σ2 H3 fun y H4 => ∃ acc, H4 D = some (.lst acc) ∧ acc.length < sizeLine ∧ Nx (upd H4 D (.lst (acc ++ [y]))) else Nx H3) := by
  have sq : ∀ H, Same H1 H → SqT K H a xs := fun H s => by
    rcases ha with (h | ⟨o, h⟩) | h
    · exact .inl (.inl (s _ _ h))
    · exact .inl (.inr ⟨o, s _ _ h⟩)
    · exact .inr h
  refine lc_tup (K := K) (xs := xs) (fun i H => Same H1 H ∧ H D = some (.lst (ys.take i))) ⟨same_new hD _, upd_same⟩ (fun i H _ p => sq H p.1) (fun i x H hx p => ?_) fun H p => hd H p.1 (by rw [p.2, hxy, List.take_length])
  have hi : i < ys.length := by
    rw [← hxy]
    exact (List.getElem?_eq_some_iff.mp hx).1
  have hy : ys[i]? = some ys[i] := List.getElem?_eq_getElem hi
  refine hs i x ys[i] H (fun y H4 => ∃ acc, H4 D = some (.lst acc) ∧ acc.length < sizeLine ∧ Same H1 (upd H4 D (.lst (acc ++ [y]))) ∧ upd H4 D (.lst (acc ++ [y])) D = some (.lst (ys.take (i + 1)))) hx hy p.1 ⟨_, p.2, ?_, p.1.wr7 hD _, by rw [upd_same, take_get hy]⟩
  rw [List.length_take]
  exact sizeLine_big (by omega)
theorem lcL_map {K : PySem.W.Frag} {a : Addr} {xs : List V} (ys : List V) {g : TG} {te : TE} {vs : List Nat} {σ : L2.St} {H1 : Hp} {D : Addr} {Qd : Hp → Prop} (hD : H1 D = none) (ha : SqL K H1 a xs) (hxy : xs.length = ys.length) (hz : xs.length ≤ 1000)
    (hs : ∀ (i : Nat) (x y : V) (H : Hp) (R : V → Hp → Prop), xs[i]? = some x → ys[i]? = some y → Same H1 H → R y H → g x (wipe σ vs) H fun σ2 H2 => wipe σ2 vs = wipe σ vs ∧ te σ2 H2 R)
    (hd : ∀ H, Same H1 H → H D = some (.lst ys) → Qd H) :
    ∃ W : Nat → Nat → Hp → Prop, (∃ m, W 0 m (upd H1 D (.lst []))) ∧ ∀ i m H, W i m H →
      ((Itl K a).stop i H ∧ Qd H) ∨ ((Itl K a).go i H ∧ ∃ Nx : Hp → Prop, (∀ H', Nx H' → ∃ m', m' < m ∧ W (i + 1) m' H') ∧ ∀ x H', (Itl K a).yld i H x H' → g x (wipe σ vs) H' fun σ2 H2 => wipe σ2 vs = wipe σ vs ∧ tYes σ2 H2 fun b H3 =>
        if b = true then te σ2 H3 fun y H4 => ∃ acc, H4 D = some (.lst acc) ∧ acc.length < sizeLine ∧ Nx (upd H4 D (.lst (acc ++ [y]))) else Nx H3) := by
  refine lc_list (K := K) (xs := xs) (fun i H => Same H1 H ∧ H D = some (.lst (ys.take i))) ⟨same_new hD _, upd_same⟩ (fun i H _ p => p.1.seq ha) (fun i x H hx p => ?_) fun H p => hd H p.1 (by rw [p.2, hxy, List.take_length])
  have hi : i < ys.length := by
    rw [← hxy]
    exact (List.getElem?_eq_some_iff.mp hx).1
  have hy : ys[i]? = some ys[i] := List.getElem?_eq_getElem hi
  refine hs i x ys[i] H (fun y H4 => ∃ acc, H4 D = some (.lst acc) ∧ acc.length < sizeLine ∧ Same H1 (upd H4 D (.lst (acc ++ [y]))) ∧ upd H4 D (.lst (acc ++ [y])) D = some (.lst (ys.take (i + 1)))) hx hy p.1 ⟨_, p.2, ?_, p.1.wr7 hD _, by rw [upd_same, take_get hy]⟩
  rw [List.length_take]
  exact sizeLine_big (by omega)
end W7
end
section
set_option Elab.async false
set_option linter.all false
set_option maxRecDepth 100000
/-! other_end, is_cost, home_cost, are_costs -/
namespace W7
open PySem PySem.Spec PyProof.Rows L2
section
variable {P : Program} {w : World} {K : PySem.W.Frag} {mg : Str → Option Value} {base : Heap} {f : Addr} {fd : FuncData}
theorem scOther : FnScope ["end"] ["end"] (defScope sOther) := ⟨rfl, rfl, rfl, by decide +kernel, rfl, by decide +kernel, by decide +kernel⟩
theorem ok_other {k : Nat} (F : Fun K "other_end" "other_end" sOther f fd) : FnOk P w K mg base CX0 (k + 1) f fd ["end"] spOther := by
  refine F.ok scOther (fun vs H Q E h => ?_) (fun cdv A outer s H vs Q E hr h => ?_)
  · obtain ⟨e, rfl, _⟩ := h
    rfl
  · obtain ⟨e, rfl, q⟩ := h
    refine ⟨_, pss_one (ps_ret (pe_ifExp (pt_cmpR op_eq (pe_op op_mod (pv 0) pe_int) pe_int (nomark _)) (pe_op op_add (pv 0) pe_int) (pe_op op_sub (pv 0) pe_int))), ?_⟩
    refine ⟨_, rfl, _, _, rfl, rfl, (by show (0 : Int) < 2; decide), rfl, _, rfl, ?_⟩
    unfold WO.other at q
    by_cases he : e % 2 = 0
    · rw [if_pos he] at q
      rw [decide_eq_true (show V.int (e % 2) = V.int 0 by rw [he])]
      exact iteT ⟨_, rfl, _, _, rfl, rfl, q⟩
    · rw [if_neg he] at q
      rw [decide_eq_false (show ¬ V.int (e % 2) = V.int 0 from fun z => he (by injection z))]
      exact iteF ⟨_, rfl, _, _, rfl, rfl, q⟩
theorem scIsCost : FnScope ["thing"] ["thing"] (defScope sIsCost) := ⟨rfl, rfl, rfl, by decide +kernel, rfl, by decide +kernel, by decide +kernel⟩
theorem ok_iscost {k : Nat} (F : Fun K "is_cost" "is_cost" sIsCost f fd) (T : Txt mg) : FnOk P w K mg base CX0 (k + 1) f fd ["thing"] spIsCost := by
  refine F.ok scIsCost (fun vs H Q E h => ?_) (fun cdv A outer s H vs Q E hr h => ?_)
  · obtain ⟨x, rfl, _⟩ := h
    rfl
  · obtain ⟨x, rfl, hx, q⟩ := h
    refine ⟨_, pss_one (ps_ret (pe_or (pe_cmp (pc_isN (pv 0)) rfl) (pe_one (pe_and (pe_callB call_isi (by rfl) T.isi bt_isinstance (pa_cons (pv 0) (pa_cons (pe_bltn (v := .ty "int") (by rfl) T.int bt_int rfl) pa_nil)))
      (pe_and (pe_not (pe_callB call_isi (by rfl) T.isi bt_isinstance (pa_cons (pv 0) (pa_cons (pe_bltn (v := .ty "bool") (by rfl) T.bool bt_bool rfl) pa_nil)))) (pe_one (pe_cmp (pc_ge (pv 0) pe_int) rfl))))))), ?_⟩
    refine ⟨_, rfl, _, rfl, ?_⟩
    cases x with
    | none => exact iteT q
    | some c =>
      have hc := hx c rfl
      refine iteF ⟨.int c, rfl, _, _, _, _, true, rfl, .ty _, .base (.int _), kit_ty (a := "int") (b := "int") (by decide +kernel), _, rfl, iteT ?_⟩
      refine ⟨.int c, rfl, _, _, _, _, false, rfl, .ty _, .base (.int _), kit_ty (a := "int") (b := "bool") (by decide +kernel), _, rfl, _, rfl, iteT ?_⟩
      refine ⟨.int c, rfl, c, 0, rfl, rfl, ?_⟩
      show Q (.bl (decide ((0 : Int) ≤ c))) H
      rw [decide_eq_true hc]
      exact q
theorem scHome : FnScope ["costs", "state", "done", "end"] ["costs", "state"] (defScope sHome) := ⟨rfl, rfl, rfl, by decide +kernel, rfl, by decide +kernel, by decide +kernel⟩
theorem ok_home {k : Nat} (F : Fun K "home_cost" "home_cost" sHome f fd) (T : Txt mg) : FnOk P w K mg base CX0 (k + 1) f fd ["costs", "state"] spHome := by
  refine F.ok scHome (fun vs H Q E h => ?_) (fun cdv A outer s H vs Q E hr h => ?_)
  · obtain ⟨_, _, _, _, rfl, _⟩ := h
    rfl
  · obtain ⟨c, C, a, st, rfl, hc, ok, ha, g, q⟩ := h
    refine ⟨_, pss_cons (ps_asg (pv 1) (pg_tup (by rfl) (pgs_cons (pg_name (i := 2) scHome.nd rfl (.inl rfl)) (pgs_cons (pg_name (i := 3) scHome.nd rfl (.inl rfl)) pgs_nil))))
      (pss_cons (ps_if (pt_cmpR op_lt (pe_op op_mul pe_int (pe_callB call_len_seq (by rfl) T.len boot_len (pa_cons (pv 2) pa_nil))) (pe_callB call_len_seq (by rfl) T.len boot_len (pa_cons (pe_ix ix_tup (pv 0) pe_int (fun _ _ => rfl)) pa_nil)) (nomark _)) (pss_one (ps_ret pe_non)) pss_nil)
      (pss_one (ps_ret (pe_ifExp (pt_cmpR op_lt (pv 3) pe_int (nomark _)) pe_int (pe_ix ix_tup (pe_ix ix_tup (pv 0) pe_int (fun _ _ => rfl)) (pv 3) (fun _ _ => rfl)))))), ?_⟩
    obtain ⟨fa, ba, la, rs, h1, h2, h3, h4, h5⟩ := hc
    obtain ⟨qa, g1, g2⟩ := ha
    refine ⟨_, rfl, a, _, rfl, SqT.of g1, rfl, _, _, rfl, _, _, rfl, rfl, ?_⟩
    have hl1 : (st.1.map V.int).length = st.1.length := List.length_map _
    have hl2 : (C.first.map oV).length = C.first.length := List.length_map _
    unfold WO.home at q
    -- if 2 * len(done) < len(costs[0])
    refine ⟨_, rfl, qa, _, rfl, .inr (SqT.of g2), _, _, rfl, rfl, .inl ⟨by decide, by decide⟩, _, rfl, c, _, 0, _, rfl, rfl, SqT.of h1, rfl, fa, _, rfl, .inr (SqT.of h2), _, _, rfl, rfl, _, rfl, ifd (fun z => ?_) (fun z => ?_)⟩
    · rw [if_pos (by omega)] at q
      exact q
    · rw [if_neg (by omega)] at q
      refine ⟨_, rfl, _, _, rfl, rfl, _, rfl, ifd (fun z2 => ?_) (fun z2 => ?_)⟩
      · rw [if_pos z2] at q
        exact q
      · rw [if_neg z2] at q
        have he := g.ends z2
        have hlast : (C.last.length : Int) = 2 * (C.n : Int) := by rw [ok.l]; omega
        exact ⟨_, rfl, c, _, 2, _, rfl, rfl, SqT.of h1, rfl, _, rfl, la, _, st.2, _, rfl, rfl, SqT.of h3, at_oV he.1 (by omega), q⟩
end
end W7
end
section
set_option Elab.async false
set_option linter.all false
set_option maxRecDepth 100000
/-! are_costs -/
namespace W7
open PySem PySem.Spec PyProof.Rows L2
theorem all_true (n : Nat) : (List.replicate n true).all id = true := by
  rw [List.all_eq_true]
  intro x hx
  rw [(List.mem_replicate.mp hx).2]
  rfl
theorem rep_get {n i : Nat} {y : V} (h : (List.map V.bl (List.replicate n true))[i]? = some y) : y = .bl true := by
  rw [List.getElem?_map] at h
  obtain ⟨b, hb, rfl⟩ := Option.map_eq_some_iff.mp h
  rw [(List.mem_replicate.mp (List.mem_of_getElem? hb)).2]
theorem paired_at {α β : Type} {R : α → β → Prop} : ∀ {l : List α} {m : List β} {i : Nat} {a : α}, Paired R l m → l[i]? = some a → ∃ b, m[i]? = some b ∧ R a b
  | _, _, i, a, .nil, h => by simp at h
  | _, _, 0, a, .cons r t, h => by
    cases h
    exact ⟨_, rfl, r⟩
  | _, _, i + 1, a, .cons r t, h => paired_at (i := i) t h
section
variable {P : Program} {w : World} {K : PySem.W.Frag} {mg : Str → Option Value} {base : Heap} {f fC : Addr} {fd fdC : FuncData}
theorem scAre : FnScope ["thing", "first", "between", "last", "many", "one", "row"] ["thing"] (defScope sAre) := ⟨rfl, rfl, rfl, by decide +kernel, rfl, by decide +kernel, by decide +kernel⟩
theorem ok_are {k : Nat} {tk : Tok} (F : Fun K "are_costs" "are_costs" sAre f fd) (T : Txt mg) (mM : mg "MOST_STROKES" = some (.int 6 tk)) (G : FnOk P w K mg base CX0 k fC fdC ["thing"] spIsCost) (gC : mg "is_cost" = some (.ref fC)) (kC : PySem.W.keepIn K (.ref fC) = true) (bC : Binds K fdC ["thing"] []) :
    FnOk P w K mg base CX0 (k + 1) f fd ["thing"] spAre := by
  refine F.ok scAre (fun vs H Q E h => ?_) (fun cdv A outer s H vs Q E hr h => ?_)
  · obtain ⟨c, _, rfl, _⟩ := h
    rfl
  · obtain ⟨c, C, rfl, hc, ok, q⟩ := h
    refine ⟨_, pss_cons (ps_if (PW.pt (pw_or (pt_not (pt_val (pe_callB (isi7 (K := K) rfl) (by rfl) T.isi bt_isinstance (pa_cons (pv 0) (pa_cons (pe_bltn (v := .ty "tuple") (by rfl) T.tuple bt_tuple rfl) pa_nil)))))
        (pw_or (pt_cmpR op_ne (pe_callB (len7 (K := K) rfl) (by rfl) T.len boot_len (pa_cons (pv 0) pa_nil)) pe_int (nomark _))
        (pw_or1 (pt_not (pt_val (pe_callB (cr_all rfl) (by rfl) T.all bt_all (pa_cons (pe_lc (own := [("one", 5)]) (g := gName 5) (tt := tYes) rfl scAre.nd (pi_tup (pv 0)) (blkOk_by (own := [("one", 5)]) (N := ["thing", "first", "between", "last", "many", "one", "row"]) (sc := defScope sAre) (by decide +kernel))
          (fun _ _ _ _ _ => pg_name (i := 5) scAre.nd rfl (Or.inl rfl)) (fun _ _ _ _ _ => pts_nil) (fun _ _ _ _ _ => pe_callB (isi7 (K := K) rfl) (by rfl) T.isi bt_isinstance (pa_cons (pv 5) (pa_cons (pe_bltn (v := .ty "tuple") (by rfl) T.tuple bt_tuple rfl) pa_nil)))) pa_nil))))))))
        (pss_one (ps_ret pe_bl)) pss_nil)
      (pss_cons (ps_asg (pv 0) (pg_tup (by rfl) (pgs_cons (pg_name (i := 1) scAre.nd rfl (.inl rfl)) (pgs_cons (pg_name (i := 2) scAre.nd rfl (.inl rfl)) (pgs_cons (pg_name (i := 3) scAre.nd rfl (.inl rfl)) pgs_nil)))))
      (pss_cons (ps_set (i := 4) scAre.nd rfl (.inr rfl) (pe_callB (len7 (K := K) rfl) (by rfl) T.len boot_len (pa_cons (pv 1) pa_nil)))
      (pss_cons (ps_if (PW.pt (pw_or (pt_cmpR op_eq (pe_op op_mod (pv 4) pe_int) pe_int (nomark _))
        (pw_or (pt_cmpR op_gt (pv 4) (pe_op op_mul pe_int (pe_glob (v := .int 6) rfl mM ⟨_, rfl⟩)) (nomark _))
        (pw_or (pt_cmpR op_ne (pe_callB (len7 (K := K) rfl) (by rfl) T.len boot_len (pa_cons (pv 2) pa_nil)) (pv 4) (nomark _))
        (pw_or1 (pt_cmpR op_ne (pe_callB (len7 (K := K) rfl) (by rfl) T.len boot_len (pa_cons (pv 3) pa_nil)) (pv 4) (nomark _))))))) (pss_one (ps_ret pe_bl)) pss_nil)
      (pss_cons (ps_if (pt_not (pt_val (pe_callB (cr_all rfl) (by rfl) T.all bt_all (pa_cons (pe_lc (own := [("row", 6)]) (g := gName 6) (tt := tYes) rfl scAre.nd (pi_tup (pv 2)) (blkOk_by (own := [("row", 6)]) (N := ["thing", "first", "between", "last", "many", "one", "row"]) (sc := defScope sAre) (by decide +kernel))
          (fun _ _ _ _ _ => pg_name (i := 6) scAre.nd rfl (Or.inl rfl)) (fun _ _ _ _ _ => pts_nil) (fun _ _ _ _ _ => pe_and (pe_callB (isi7 (K := K) rfl) (by rfl) T.isi bt_isinstance (pa_cons (pv 6) (pa_cons (pe_bltn (v := .ty "tuple") (by rfl) T.tuple bt_tuple rfl) pa_nil)))
            (pe_one (pe_cmpR op_eq (pe_callB (len7 (K := K) rfl) (by rfl) T.len boot_len (pa_cons (pv 6) pa_nil)) (pv 4) (nomark _))))) pa_nil)))) (pss_one (ps_ret pe_bl)) pss_nil)
      (pss_one (ps_ret (pe_callB (cr_all rfl) (by rfl) T.all bt_all (pa_cons (pe_lc2 (wi1 := iTup K (tVar 6)) (own := [("row", 6), ("one", 5)]) (vs1 := [5]) (g := gName 6) (tt := tYes) (g1 := gName 5) (tt1 := tYes) rfl scAre.nd
          (pi_tup (pe_tup (pa_cons (pv 1) (pa_cons (pv 3) (StX.pa_star (pv 2) pa_nil))))) (blkOk_by (own := [("row", 6), ("one", 5)]) (N := ["thing", "first", "between", "last", "many", "one", "row"]) (sc := defScope sAre) (by decide +kernel)) (by decide)
          (fun _ _ _ _ _ => pg_name (i := 6) scAre.nd rfl (Or.inl rfl)) (fun _ _ _ _ _ => pts_nil) (fun _ _ _ _ _ => pi_tup (pv 6)) (fun _ _ _ _ _ => pg_name (i := 5) scAre.nd rfl (Or.inl rfl)) (fun _ _ _ _ _ => pts_nil)
          (fun _ _ _ _ _ => pe_call G hr (by rfl) gC kC bC .nil pass0 (pa_cons (pv 5) pa_nil))) pa_nil)))))))), ?_⟩
    obtain ⟨fa, ba, la, rs, h1, h2, h3, h4, h5⟩ := id hc
    have lf : (C.first.map oV).length = 2 * C.n := by rw [List.length_map, ok.f]
    have ll : (C.last.map oV).length = 2 * C.n := by rw [List.length_map, ok.l]
    have lb : (rs.map V.ref).length = 2 * C.n := by rw [List.length_map, paired_len h5, ok.b]
    have n3 := ok.n3
    have tyT : ∀ {H' : Hp} {a : Addr} {xs : List V}, H' a = some (.tup xs) → TyX K H' (.ref a) (.type "tuple") := fun e => .base (.tup e)
    have kt : PySem.W.kitOne K (.type "tuple") (.type "tuple") = some true := kit_ty (by decide +kernel)
    -- if not isinstance(thing, tuple)
    refine ⟨.ref c, rfl, _, _, _, _, true, rfl, .ty _, tyT h1, kt, _, rfl, iteF ?_⟩
    -- or len(thing) != 3
    refine ⟨.ref c, rfl, c, _, rfl, .inr (SqT.of h1), rfl, _, rfl, iteF ?_⟩
    -- or not all([isinstance(one, tuple) for one in thing])
    refine ⟨.ref c, rfl, c, rfl, ⟨_, SqT.of h1⟩, fun D hD => lcT_map ((List.replicate 3 true).map V.bl) hD (SqT.of h1) rfl (by simp) (fun i x y H2 R hx hy sm r => ⟨rfl, ?_⟩) (fun H2 sm hD2 => ?_)⟩
    · have e := rep_get hy
      subst e
      have tx : TyX K H2 x (.type "tuple") := by
        match i, hx with
        | 0, hx => cases hx; exact tyT (sm _ _ h2)
        | 1, hx => cases hx; exact tyT (sm _ _ h4)
        | 2, hx => cases hx; exact tyT (sm _ _ h3)
        | i + 3, hx => simp at hx
      exact ⟨x, rfl, _, _, _, _, true, rfl, .ty _, tx, kt, r⟩
    refine ⟨D, _, rfl, SqL.of hD2, _, rfl, iteF ?_⟩
    -- first, between, last = thing; many = len(first)
    refine ⟨_, rfl, c, _, rfl, SqT.of (sm _ _ h1), rfl, _, _, rfl, _, _, rfl, _, _, rfl, rfl, ?_⟩
    refine ⟨_, rfl, fa, _, rfl, .inr (SqT.of (sm _ _ h2)), ?_⟩
    -- if many % 2 == 1 or many > 2 * MOST_STROKES or len(between) != many or len(last) != many
    refine ⟨_, rfl, _, _, rfl, rfl, (by show (0 : Int) < 2; decide), rfl, _, rfl, ifv (fun e => absurd e (by rw [lf]; omega)) fun _ => ?_⟩
    refine ⟨_, rfl, _, _, rfl, rfl, .inl ⟨by decide, by decide⟩, _, _, rfl, rfl, _, rfl, ifd (fun e => absurd e (by rw [lf]; omega)) fun _ => ?_⟩
    refine ⟨_, rfl, ba, _, rfl, .inr (SqT.of (sm _ _ h4)), _, rfl, rfl, _, rfl, ifnv (fun e => absurd (by rw [lb, lf]) e) fun _ => ?_⟩
    refine ⟨_, rfl, la, _, rfl, .inr (SqT.of (sm _ _ h3)), _, rfl, rfl, _, rfl, ifnv (fun e => absurd (by rw [ll, lf]) e) fun _ => ?_⟩
    -- if not all([isinstance(row, tuple) and len(row) == many for row in between])
    have rowAt : ∀ (i : Nat) (x : V), (rs.map V.ref)[i]? = some x → ∃ r row, x = .ref r ∧ H r = some (.tup (row.map oV)) ∧ row ∈ C.btw := fun i x hx => by
      rw [List.getElem?_map] at hx
      obtain ⟨r, hr', rfl⟩ := Option.map_eq_some_iff.mp hx
      obtain ⟨row, hrow, e⟩ := paired_at h5 hr'
      exact ⟨r, row, rfl, e, List.mem_of_getElem? hrow⟩
    refine ⟨_, rfl, ba, rfl, ⟨_, SqT.of (sm _ _ h4)⟩, fun D2 hD2' => lcT_map ((List.replicate (rs.map V.ref).length true).map V.bl) hD2' (SqT.of (sm _ _ h4)) (by simp) (by rw [lb]; omega) (fun i x y H3 R hx hy sm3 r => ⟨rfl, ?_⟩) (fun H3 sm3 hD3 => ?_)⟩
    · have e := rep_get hy
      subst e
      obtain ⟨r1, row, rfl, e1, e2⟩ := rowAt i x hx
      have e3 := sm3 _ _ (sm _ _ e1)
      refine ⟨_, rfl, _, _, _, _, true, rfl, .ty _, tyT e3, kt, _, rfl, iteT ?_⟩
      refine ⟨_, rfl, r1, _, rfl, .inr (SqT.of e3), _, rfl, rfl, ?_⟩
      show R (.bl (decide (V.int ((row.map oV).length : Int) = V.int ((C.first.map oV).length : Int)))) H3
      rw [decide_eq_true (by rw [lf, List.length_map, ok.br _ e2])]
      exact r
    refine ⟨D2, _, rfl, SqL.of hD3, _, rfl, ?_⟩
    rw [all_true]
    refine iteF ?_
    -- return all([is_cost(one) for row in (first, last, *between) for one in row])
    have sm4 := sm.trans sm3
    refine ⟨_, rfl, _, rfl, _, rfl, ba, _, rfl, .inl (SqT.of (sm4 _ _ h4)), ?_, fun t ht => ⟨t, rfl, ⟨_, SqT.of upd_same⟩, fun D4 hD4 => ?_⟩⟩
    · show (rs.map V.ref ++ []).length + 1 + 1 ≤ sizeLine
      rw [List.append_nil, lb]
      exact Nat.le_of_lt (sizeLine_big (by omega))
    have sm5 := sm4.new7 ht (.tup (V.ref fa :: V.ref la :: (rs.map V.ref ++ [])))
    have lx : (V.ref fa :: V.ref la :: (rs.map V.ref ++ [])).length ≤ 8 := by
      rw [List.append_nil, List.length_cons, List.length_cons, lb]
      omega
    have rowAll : ∀ (i : Nat) (x : V), (V.ref fa :: V.ref la :: (rs.map V.ref ++ []))[i]? = some x → ∃ (r : Addr) (row : List (Option Int)), x = .ref r ∧ H r = some (.tup (row.map oV)) ∧ row.length = 2 * C.n ∧ ∀ c, some c ∈ row → 0 ≤ c := fun i x hx => by
      match i, hx with
      | 0, hx => cases hx; exact ⟨fa, C.first, rfl, h2, ok.f, ok.fp⟩
      | 1, hx => cases hx; exact ⟨la, C.last, rfl, h3, ok.l, ok.lp⟩
      | i + 2, hx =>
        have hx' : (rs.map V.ref ++ [])[i]? = some x := hx
        rw [List.append_nil] at hx'
        obtain ⟨r, row, e1, e2, e3⟩ := rowAt i x hx'
        exact ⟨r, row, e1, e2, ok.br _ e3, ok.bp _ e3⟩
    generalize hHb : upd H3 t (.tup (V.ref fa :: V.ref la :: (rs.map V.ref ++ []))) = Hb at sm5 hD4 ⊢
    have htb : Hb t = some (.tup (V.ref fa :: V.ref la :: (rs.map V.ref ++ []))) := by rw [← hHb, upd_same]
    generalize hxs : V.ref fa :: V.ref la :: (rs.map V.ref ++ []) = xs at lx rowAll htb
    refine ⟨fun i m H' => m = xs.length - i ∧ i ≤ xs.length ∧ Same Hb H' ∧ ∃ z, z ≤ 6 * i ∧ H' D4 = some (.lst ((List.replicate z true).map V.bl)), ⟨_, rfl, Nat.zero_le _, same_new hD4 _, 0, Nat.zero_le _, upd_same⟩, ?_⟩
    rintro i m H' ⟨rfl, hi, s5, z, hz, hz2⟩
    by_cases hlt : i < xs.length
    · refine .inr ⟨⟨xs, xs[i], SqT.of (s5 _ _ htb), List.getElem?_eq_getElem hlt⟩, fun H'' => Same Hb H'' ∧ ∃ z, z ≤ 6 * (i + 1) ∧ H'' D4 = some (.lst ((List.replicate z true).map V.bl)), fun H'' p => ⟨_, by omega, rfl, hlt, p⟩, fun x H6 y => ?_⟩
      obtain ⟨eH, ex⟩ := y
      subst eH
      have hx := ex xs (SqT.of (s5 _ _ htb))
      obtain ⟨r1, row, rfl, g1, g2, g3⟩ := rowAll i x hx
      have gr : ∀ {H7}, Same Hb H7 → H7 r1 = some (.tup (row.map oV)) := fun s7 => s7 _ _ (sm5 _ _ g1)
      have lrow : (row.map oV).length = 2 * C.n := by rw [List.length_map, g2]
      refine ⟨rfl, ?_⟩
      refine ⟨_, rfl, r1, rfl, ⟨_, SqT.of (gr s5)⟩, ?_⟩
      refine ⟨fun j k H7 => k = (row.map oV).length - j ∧ j ≤ (row.map oV).length ∧ Same Hb H7 ∧ ∃ z, z ≤ 6 * i + j ∧ H7 D4 = some (.lst ((List.replicate z true).map V.bl)), ⟨_, rfl, Nat.zero_le _, s5, z, by omega, hz2⟩, ?_⟩
      rintro j k H7 ⟨rfl, hj, s7, z7, hz7, hz72⟩
      by_cases hlj : j < (row.map oV).length
      · refine .inr ⟨⟨row.map oV, (row.map oV)[j], SqT.of (gr s7), List.getElem?_eq_getElem hlj⟩, fun H'' => Same Hb H'' ∧ ∃ z, z ≤ 6 * i + (j + 1) ∧ H'' D4 = some (.lst ((List.replicate z true).map V.bl)), fun H'' p => ⟨_, by omega, rfl, hlj, p⟩, fun x H8 y => ?_⟩
        obtain ⟨eH, ex⟩ := y
        subst eH
        have hx := ex (row.map oV) (SqT.of (gr s7))
        rw [List.getElem?_map] at hx
        obtain ⟨cx, hcx, rfl⟩ := Option.map_eq_some_iff.mp hx
        refine ⟨rfl, ?_⟩
        refine ⟨_, rfl, cx, rfl, fun c e => g3 c (e ▸ List.mem_of_getElem? hcx), _, hz72, ?_, s7.wr7 hD4 _, z7 + 1, by omega, ?_⟩
        · rw [List.length_map, List.length_replicate]
          exact sizeLine_big (by omega)
        · rw [upd_same, List.replicate_succ', List.map_append]
          rfl
      · refine .inl ⟨⟨row.map oV, SqT.of (gr s7), by omega⟩, s7, z7, by omega, hz72⟩
    · refine .inl ⟨⟨xs, SqT.of (s5 _ _ htb), by omega⟩, D4, _, rfl, SqL.of hz2, ?_⟩
      rw [all_true]
      exact q _ (sm5.trans s5)
end
end W7
end
section
set_option Elab.async false
set_option linter.all false
set_option maxRecDepth 100000
/-! steps_from -/
namespace W7
open PySem PySem.Spec PyProof.Rows L2
theorem ite_both {c : Bool} {ta tb : TE} {σ : L2.St} {H : Hp} {Q : VK} {x : V} (h1 : c = true → ∀ Q' : VK, Q' x H → ta σ H Q') (h2 : c = false → ∀ Q' : VK, Q' x H → tb σ H Q') (h : Q x H) : if c = true then ta σ H Q else tb σ H Q := by
  cases c with
  | true => exact iteT (h1 rfl Q h)
  | false => exact iteF (h2 rfl Q h)
theorem tups_wr {H : Hp} {p : Addr} {xs : List V} {o : HO} (h : H p = some (.lst xs)) : ∀ b ys, H b = some (.tup ys) → (upd H p o) b = some (.tup ys) := fun b ys e => by
  rw [upd_ne (ne_of e h (by intro z; cases z))]
  exact e
theorem StepAt.tups {H H' : Hp} {p : Addr} {st : WO.Sta × Int} (x : StepAt H p st) (k : ∀ b ys, H b = some (.tup ys) → H' b = some (.tup ys)) : StepAt H' p st := by
  obtain ⟨a, h1, h2⟩ := x
  exact ⟨a, k _ _ h1, h2.keep k⟩
theorem inV_int {i : Int} {l : List Int} : inV (V.int i) (l.map V.int) = decide (i ∈ l) := by
  have e : ∀ j : Int, eqV (V.int j) (V.int i) = (j == i) := fun j => rfl
  induction l with
  | nil => rfl
  | cons x l ih =>
    have ih' : ((l.map V.int).any fun y => eqV y (V.int i)) = decide (i ∈ l) := ih
    show (eqV (V.int x) (V.int i) || (l.map V.int).any fun y => eqV y (V.int i)) = _
    rw [ih', e]
    by_cases h : x = i
    · subst h
      simp
    · have h2 : ¬ i = x := fun z => h z.symm
      simp [h, h2]
theorem flat_ints : ∀ l : List Int, (l.map V.int).all flatV = true
  | [] => rfl
  | _ :: l => by
    rw [List.map_cons, List.all_cons, flat_ints l]
    rfl
theorem btw_at {H : Hp} {C : WO.Costs} {rs : List Addr} {e : Int} (ok : C.Ok) (p : Paired (fun r (row : List (Option Int)) => H r = some (.tup (row.map oV))) rs C.btw) (h0 : 0 ≤ e) (h1 : e < 2 * (C.n : Int)) :
    ∃ r, atI (rs.map V.ref) e = some (.ref r) ∧ H r = some (.tup ((C.btw.getD e.toNat []).map oV)) ∧ (C.btw.getD e.toNat []).length = 2 * C.n := by
  have lb := ok.b
  have lr := paired_len p
  have hi : e.toNat < rs.length := by omega
  have hr : rs[e.toNat]? = some rs[e.toNat] := List.getElem?_eq_getElem hi
  obtain ⟨row, hrow, hh⟩ := paired_at p hr
  have eg : C.btw.getD e.toNat [] = row := by
    rw [List.getD_eq_getElem?_getD, hrow]
    rfl
  refine ⟨rs[e.toNat], ?_, by rw [eg]; exact hh, by rw [eg]; exact ok.br _ (List.mem_of_getElem? hrow)⟩
  have h := atI_nat (get_map (f := V.ref) hr)
  rwa [show ((e.toNat : Nat) : Int) = e by omega] at h
section
variable {P : Program} {w : World} {K : PySem.W.Frag} {mg : Str → Option Value} {base : Heap} {f fO : Addr} {fd fdO : FuncData}
theorem scSteps : FnScope ["costs", "state", "done", "end", "first", "between", "last", "found", "late", "cost"] ["costs", "state"] (defScope sSteps) := ⟨rfl, rfl, rfl, by decide +kernel, rfl, by decide +kernel, by decide +kernel⟩
theorem ok_steps {k : Nat} (F : Fun K "steps_from" "steps_from" sSteps f fd) (T : Txt mg) (G : FnOk P w K mg base CX0 k fO fdO ["end"] spOther) (gO : mg "other_end" = some (.ref fO)) (kO : PySem.W.keepIn K (.ref fO) = true) (bO : Binds K fdO ["end"] []) :
    FnOk P w K mg base CX0 (k + 1) f fd ["costs", "state"] spSteps := by
  refine F.ok scSteps (fun vs H Q E h => ?_) (fun cdv A outer s H vs Q E hr h => ?_)
  · obtain ⟨_, _, _, _, rfl, _⟩ := h
    rfl
  · obtain ⟨c, C, a, st, rfl, hc, ok, ha, g, q⟩ := h
    refine ⟨_, pss_cons (ps_asg (pv 1) (pg_tup (by rfl) (pgs_cons (pg_name (i := 2) scSteps.nd rfl (.inl rfl)) (pgs_cons (pg_name (i := 3) scSteps.nd rfl (.inl rfl)) pgs_nil))))
      (pss_cons (ps_asg (pv 0) (pg_tup (by rfl) (pgs_cons (pg_name (i := 4) scSteps.nd rfl (.inl rfl)) (pgs_cons (pg_name (i := 5) scSteps.nd rfl (.inl rfl)) (pgs_cons (pg_name (i := 6) scSteps.nd rfl (.inl rfl)) pgs_nil)))))
      (pss_cons (ps_set (i := 7) scSteps.nd rfl (.inl rfl) (pe_lst pa_nil))
      (pss_cons (ps_for PassesOwn.never rfl (pi_range1 (by rfl) T.range (pa_cons (pe_callB call_len_seq (by rfl) T.len boot_len (pa_cons (pv 4) pa_nil)) pa_nil)) (pg_name (i := 8) scSteps.nd rfl (.inl rfl))
        (pss_cons (ps_set (i := 9) scSteps.nd rfl (.inl rfl) (pe_ifExp (pt_cmpR op_lt (pv 3) pe_int (nomark _)) (pe_ix ix_tup (pv 4) (pv 8) (fun _ _ => rfl)) (pe_ix ix_tup (pe_ix ix_tup (pv 5) (pv 3) (fun _ _ => rfl)) (pv 8) (fun _ _ => rfl))))
        (pss_one (ps_if (PW.pt (pw_and (pt_cmpR op_notIn_seq (pe_op op_fdiv (pv 8) pe_int) (pv 2) (by rfl)) (pw_and1 (pt_cmp (pc_notN (pv 9))))))
          (pss_one (ps_expr (pe_bm PySem.F.plainAttrs_list PySem.F.slot_list_append PySem.F.type_list_append mt_append (pv 7) (pa_cons (pe_tup (pa_cons (pe_tup (pa_cons
            (pe_callTy call_tuple_of (by rfl) T.tuple bt_tuple (pa_cons (pe_callB cr_sorted (by rfl) T.sorted bt_sorted (pa_cons (pe_lst (StX.pa_star (pv 2) (pa_cons (pe_op op_fdiv (pv 8) pe_int) pa_nil))) pa_nil)) pa_nil))
            (pa_cons (pe_call G hr (by rfl) gO kO bO .nil pass0 (pa_cons (pv 8) pa_nil)) pa_nil))) (pa_cons (pv 9) pa_nil))) pa_nil)))) pss_nil))))
      (pss_one (ps_ret (pv 7)))))), ?_⟩
    obtain ⟨fa, ba, la, rs, h1, h2, h3, h4, h5⟩ := id hc
    obtain ⟨qa, g1, g2⟩ := id ha
    have lf : (C.first.map oV).length = 2 * C.n := by rw [List.length_map, ok.f]
    have n3 := ok.n3
    refine ⟨_, rfl, a, _, rfl, SqT.of g1, rfl, _, _, rfl, _, _, rfl, rfl, ?_⟩
    refine ⟨_, rfl, c, _, rfl, SqT.of h1, rfl, _, _, rfl, _, _, rfl, _, _, rfl, rfl, ?_⟩
    refine ⟨Nat.zero_le _, fun fo nfo => ?_⟩
    have s0 : Same H (upd H fo (.lst [])) := same_new nfo _
    refine ⟨_, rfl, fa, _, rfl, .inr (SqT.of (s0 _ _ h2)), _, rfl, by omega, by omega, ?_⟩
    rw [show (((C.first.map oV).length : Nat) : Int).toNat = 2 * C.n by omega]
    refine for_range (fun i σ H' => ∃ lv cv ps, σ = [some (.ref c), some (.ref a), some (.ref qa), some (.int st.2), some (.ref fa), some (.ref ba), some (.ref la), some (.ref fo), lv, cv] ∧ Same H H' ∧ H' fo = some (.lst (ps.map V.ref)) ∧ Paired (StepAt H') ps (WO.stepsTo C st i))
      ⟨none, none, [], rfl, s0, upd_same, .nil⟩ ?_ ?_
    · rintro i σ H1 hi ⟨lv, cv, ps, rfl, s1, e1, p1⟩
      have hi2 : (0 : Int) + (i : Int) = (i : Int) := Int.zero_add _
      -- cost = first[late] if end < 0 else between[end][late]
      refine ⟨_, rfl, _, _, rfl, rfl, _, rfl, ite_both (x := oV (WO.way C st.2 i)) (fun z Q' hQ => ?_) (fun z Q' hQ => ?_) ?_⟩
      · have z := of_decide_eq_true z
        unfold WO.way at hQ
        rw [if_pos z] at hQ
        refine ⟨_, rfl, _, rfl, fa, _, _, _, rfl, rfl, SqT.of (s1 _ _ h2), ?_, hQ⟩
        rw [hi2]
        have := at_oV (l := C.first) (e := (i : Int)) (by omega) (by rw [ok.f]; omega)
        rwa [Int.toNat_natCast] at this
      · have z := of_decide_eq_false z
        have he := g.ends z
        unfold WO.way at hQ
        rw [if_neg z] at hQ
        obtain ⟨r, e2, e3, e4⟩ := btw_at ok h5 he.1 he.2.1
        refine ⟨_, rfl, _, rfl, ba, _, _, _, rfl, rfl, SqT.of (s1 _ _ h4), e2, _, rfl, r, _, _, _, rfl, rfl, SqT.of (s1 _ _ e3), ?_, hQ⟩
        rw [hi2]
        have := at_oV (l := C.btw.getD st.2.toNat []) (e := (i : Int)) (by omega) (by rw [e4]; omega)
        rwa [Int.toNat_natCast] at this
      -- if late // 2 not in done and cost is not None
      refine ⟨_, rfl, _, _, rfl, rfl, ⟨by decide, by decide⟩, _, rfl, qa, _, rfl, .inr (SqT.of (s1 _ _ g2)), rfl, flat_ints _, _, rfl, ?_⟩
      rw [hi2]
      show if (!inV (V.int ((i : Int) / 2)) (st.1.map V.int)) = true then _ else _
      rw [inV_int]
      by_cases hin : ((i : Int) / 2) ∈ st.1
      · rw [decide_eq_true hin]
        refine iteF (iteF ⟨_, _, ps, rfl, s1, e1, ?_⟩)
        rw [WO.stepsTo_succ, show WO.stepAt C st i = none by unfold WO.stepAt; rw [if_pos hin], Option.toList_none, List.append_nil]
        exact p1
      · rw [decide_eq_false hin]
        refine iteT ⟨_, rfl, _, rfl, ?_⟩
        refine ifNN (fun cst hcst => ?_) (fun hnone => ?_)
        · have hlen := g.len
          refine ⟨_, rfl, .inl ⟨rfl, _, SqL.of e1⟩, _, rfl, qa, _, rfl, .inl (SqT.of (s1 _ _ g2)), _, rfl, _, _, rfl, rfl, ⟨by decide, by decide⟩, ?_, fun l hl => ?_⟩
          · rw [List.length_append, List.length_map]
            exact Nat.le_of_lt (sizeLine_big (by simp; omega))
          have el : upd H1 l (.lst (st.1.map V.int ++ [V.int ((i : Int) / 2)])) l = some (.lst ((st.1 ++ [(i : Int) / 2]).map V.int)) := by
            rw [upd_same, List.map_append]
            rfl
          refine ⟨l, st.1 ++ [(i : Int) / 2], rfl, SqL.of el, by simp; omega, fun ns p pm ps' np => ?_⟩
          have ens := WO.sorted_ins g.rise hin pm ps'
          refine ⟨p, _, rfl, .inl ⟨SqL.of upd_same, fun t nt => ?_⟩⟩
          refine ⟨_, rfl, (i : Int), rfl, (by show 2 ≤ sizeLine; decide), fun u nu => ⟨_, rfl, (by show 2 ≤ sizeLine; decide), fun w nw => ?_⟩⟩
          have t0 : Same H1 (upd H1 l (.lst (st.1.map V.int ++ [V.int ((i : Int) / 2)]))) := same_new hl _
          have t1 := t0.new7 np (.lst (ns.map V.int))
          have t2 := t1.new7 nt (.tup (ns.map V.int))
          have t3 := t2.new7 nu (.tup [V.ref t, V.int (WO.other (i : Int))])
          have t4 := t3.new7 nw (.tup [V.ref u, oV (WO.way C st.2 i)])
          have eo := t4 _ _ e1
          refine ⟨fo, _, _, rfl, rfl, eo, ?_, _, _, ps ++ [w], rfl, (s1.trans t4).wr7 nfo _, ?_, ?_⟩
          · rw [List.length_map, paired_len p1]
            have := WO.stepsTo_len C st i
            exact sizeLine_big (by omega)
          · rw [upd_same, List.map_append]
            rfl
          · have kt := tups_wr (o := .lst (ps.map V.ref ++ [V.ref w])) eo
            rw [WO.stepsTo_succ]
            have hst : WO.stepAt C st i = some ((WO.ins ((i : Int) / 2) st.1, WO.other (i : Int)), cst) := WO.stepAt_some.mpr ⟨hin, hcst, rfl⟩
            rw [hst, Option.toList_some]
            refine paired_app (pmap (fun _ _ x => (x.same t4).tups kt) p1) (.cons ⟨u, kt _ _ ?_, t, kt _ _ ?_, kt _ _ ?_⟩ .nil)
            · rw [upd_same, hcst]
              rfl
            · rw [upd_ne (ne_of_none upd_same nw), upd_same]
            · rw [upd_ne (ne_of_none (by rw [upd_ne (ne_of_none upd_same nu)]; exact upd_same) nw), upd_ne (ne_of_none upd_same nu), upd_same, ens]
        · refine ⟨_, _, ps, rfl, s1, e1, ?_⟩
          rw [WO.stepsTo_succ, show WO.stepAt C st i = none by unfold WO.stepAt; rw [if_neg hin, hnone]; rfl, Option.toList_none, List.append_nil]
          exact p1
    · rintro σ H1 ⟨lv, cv, ps, rfl, s1, e1, p1⟩
      exact ⟨_, rfl, q H1 fo ps s1 nfo e1 p1⟩
end
end W7
end
section
set_option Elab.async false
set_option linter.all false
set_option maxRecDepth 100000
/-! heights_of -/
namespace W7
open PySem PySem.Spec PyProof.Rows L2
theorem use_read {T : TT} {σ : L2.St} {H : Hp} {Q : Bool → Hp → Prop} {b : Bool} (h : ∀ Q' : Bool → Hp → Prop, Q' b H → T σ H Q') (hq : Q b H) : T σ H Q := h Q hq
theorem ndo_tup {P : Program} {w : World} {d : Addr} {es : List Ent} {xs : List V} : NDo P w d es ≠ .tup xs := by
  intro z
  cases z
theorem ndo_lst {P : Program} {w : World} {d : Addr} {es : List Ent} {xs : List V} : NDo P w d es ≠ .lst xs := by
  intro z
  cases z
/-- a dict alone has changed: the tuples stand -/
theorem But.tups {P : Program} {w : World} {H H' : Hp} {d d' : Addr} {es : List Ent} (x : But H H' d) (h : H d = some (NDo P w d' es)) : ∀ b xs, H b = some (.tup xs) → H' b = some (.tup xs) := fun b xs e => x b _ (fun z => by
  rw [z, h] at e
  exact ndo_tup (Option.some.inj e)) e
theorem tabs_app (a b : List Ent) : tab (a ++ b) = tab a ++ tab b := by simp [tab]
theorem tab_length (es : List Ent) : (tab es).length = es.length := by simp [tab]
theorem tab_mem {es : List Ent} {e : Ent} (h : e ∈ es) : (e.1, e.2.2) ∈ tab es := List.mem_map.mpr ⟨e, h, rfl⟩
theorem get_some_tab {es : List Ent} (nd : (WO.keys (tab es)).Nodup) {e : Ent} (h : e ∈ es) : WO.get (tab es) e.1 = some e.2.2 := (WO.get_some nd).mpr (tab_mem h)
theorem keys_tab (es : List Ent) : WO.keys (tab es) = es.map (·.1) := by simp [WO.keys, tab, Function.comp_def]
theorem CAt.tups {H H' : Hp} {c : Addr} {C : WO.Costs} (x : CAt H c C) (s : ∀ b xs, H b = some (.tup xs) → H' b = some (.tup xs)) : CAt H' c C := by
  obtain ⟨f, b, l, rs, h1, h2, h3, h4, h5⟩ := x
  exact ⟨f, b, l, rs, s _ _ h1, s _ _ h2, s _ _ h3, s _ _ h4, pmap (fun _ _ q => s _ _ q) h5⟩
def WI (P : Program) (w : World) (H : Hp) (C : WO.Costs) (c : Addr) (m : Nat) (σ : L2.St) (H1 : Hp) : Prop := ∃ (k : Nat) (lA hA : Addr) (esL esH : List Ent) (v3 v4 v5 v6 : Option V),
  σ = [some (.ref c), some (.ref lA), some (.ref hA), v3, v4, v5, v6] ∧ m = C.n + 2 - k ∧ Same H H1 ∧ H lA = none ∧ H hA = none ∧ lA ≠ hA ∧ H1 lA = some (NDo P w lA esL) ∧ H1 hA = some (NDo P w hA esH) ∧
  (∀ e ∈ esL, StaAt H1 e.2.1 e.1) ∧ (∀ e ∈ esH, StaAt H1 e.2.1 e.1) ∧ WO.Lay C k (tab esH) (tab esL)
section
variable {P : Program} {w : World} {K : PySem.W.Frag} {mg : Str → Option Value} {base : Heap} {f fS : Addr} {fd fdS : FuncData}
theorem scHeights : FnScope ["costs", "layer", "heights", "late", "state", "one", "cost"] ["costs"] (defScope sHeights) := ⟨rfl, rfl, rfl, by decide +kernel, rfl, by decide +kernel, by decide +kernel⟩
theorem ok_heights {k : Nat} (F : Fun K "heights_of" "heights_of" sHeights f fd) (T : Txt mg) (G : FnOk P w K mg base CX0 k fS fdS ["costs", "state"] spSteps) (gS : mg "steps_from" = some (.ref fS)) (kS : PySem.W.keepIn K (.ref fS) = true) (bS : Binds K fdS ["costs", "state"] []) :
    FnOk P w K mg base CX0 (k + 1) f fd ["costs"] (spHeights P w) := by
  refine F.ok scHeights (fun vs H Q E h => ?_) (fun cdv A outer s H vs Q E hr h => ?_)
  · obtain ⟨_, _, rfl, _⟩ := h
    rfl
  · obtain ⟨c, C, rfl, hc, ok, q⟩ := h
    have hu := hr.units
    refine ⟨_, pss_cons (ps_par (i := 1) (j := 2) rfl scHeights.nd rfl rfl (by decide) rfl rfl (pa_cons (done7 (P := P) (w := w) rfl rfl hu (pe_tup (pa_cons (pe_tup pa_nil) (pa_cons (pe_un un_neg pe_int) pa_nil))) pe_int) (pa_cons (dnew7 (P := P) (w := w) rfl rfl) pa_nil)) (by rfl))
      (pss_cons (ps_while PassesOwn.never (pt_cmpR (ne7 (P := P) (w := w) rfl rfl hr.units0) (pv 1) (dnew7 (P := P) (w := w) rfl rfl) (nomark _))
        (pss_cons (ps_expr (upd7 (P := P) (w := w) rfl rfl hu (pv 2) (pv 1) ⟨rfl, rfl, rfl, rfl⟩))
        (pss_cons (ps_set (i := 3) scHeights.nd rfl (.inl rfl) (dnew7 (P := P) (w := w) rfl rfl))
        (pss_cons (ps_for PassesOwn.never rfl (pi_list (pe_callB (sort7 (P := P) (w := w) rfl rfl rfl hu) (by rfl) T.sorted bt_sorted (pa_cons (pv 1) pa_nil))) (pg_name (i := 4) scHeights.nd rfl (.inl rfl))
          (pss_one (ps_for PassesOwn.never rfl (pi_list (pe_call G hr (by rfl) gS kS bS .nil pass0 (pa_cons (pv 0) (pa_cons (pv 4) pa_nil)))) (pg_tup (by rfl) (pgs_cons (pg_name (i := 5) scHeights.nd rfl (.inl rfl)) (pgs_cons (pg_name (i := 6) scHeights.nd rfl (.inl rfl)) pgs_nil)))
            (pss_one (ps_if (PW.pt (pw_or (pt_cmpR (nin7 (P := P) (w := w) rfl rfl hu) (pv 5) (pv 3) (by rfl)) (pw_or1 (pt_cmpR op_gt (pe_ix (ix7 (P := P) (w := w) rfl rfl hu) (pv 3) (pv 5) (fun _ _ => rfl)) (pe_op op_add (pe_ix (ix7 (P := P) (w := w) rfl rfl hu) (pv 1) (pv 4) (fun _ _ => rfl)) (pv 6)) (nomark _)))))
              (pss_one (ps_asg (pe_op op_add (pe_ix (ix7 (P := P) (w := w) rfl rfl hu) (pv 1) (pv 4) (fun _ _ => rfl)) (pv 6)) (pg_sub (pv 3) (pv 5) (set7 (P := P) (w := w) rfl rfl hu)))) pss_nil)))))
        (pss_one (ps_set (i := 1) scHeights.nd rfl (.inl rfl) (pv 3)))))))
      (pss_one (ps_ret (pv 2)))), ?_⟩
    refine fun lA nlA => ⟨(by show 0 ≤ sizeLine; decide), fun eA neA => ⟨1, rfl, (by show 2 ≤ sizeLine; decide), fun kA nkA => ?_⟩⟩
    have a0 : Same H (upd H lA (NDo P w lA [])) := same_new nlA _
    have a1 := a0.new7 neA (.tup [])
    have a2 := a1.new7 nkA (.tup [V.ref eA, V.int (-1)])
    have elA : upd (upd (upd H lA (NDo P w lA [])) eA (.tup [])) kA (.tup [V.ref eA, V.int (-1)]) lA = some (NDo P w lA []) := by
      rw [upd_ne (ne_of_none (by rw [upd_ne (ne_of_none upd_same neA)]; exact upd_same) nkA), upd_ne (ne_of_none upd_same neA), upd_same]
    have eSt : StaAt (upd (upd (upd H lA (NDo P w lA [])) eA (.tup [])) kA (.tup [V.ref eA, V.int (-1)])) kA WO.start := by
      refine ⟨eA, upd_same, ?_⟩
      rw [upd_ne (ne_of_none upd_same nkA), upd_same]
      rfl
    refine ⟨kA, WO.start, 0, rfl, rfl, eSt, elA, fun hA nhA => ⟨_, _, rfl, ?_⟩⟩
    have nlH := nlA
    have a3 := (a2.wr7 nlA (NDo P w lA [(WO.start, kA, 0)])).new7 nhA (NDo P w hA [])
    have nhH : H hA = none := (a2.wr7 nlA (NDo P w lA [(WO.start, kA, 0)])).free nhA
    have hne0 : lA ≠ hA := ne_of_none upd_same nhA
    have kt : ∀ b xs, (upd (upd (upd H lA (NDo P w lA [])) eA (.tup [])) kA (.tup [V.ref eA, V.int (-1)])) b = some (.tup xs) → (upd (upd (upd (upd (upd H lA (NDo P w lA [])) eA (.tup [])) kA (.tup [V.ref eA, V.int (-1)])) lA (NDo P w lA [(WO.start, kA, 0)])) hA (NDo P w hA [])) b = some (.tup xs) := fun b xs e => by
      have n1 : b ≠ lA := fun z => by
        rw [z, elA] at e
        exact ndo_tup (Option.some.inj e)
      rw [upd_ne (ne_of_none (by rw [upd_ne n1]; exact e) nhA), upd_ne n1]
      exact e
    refine ⟨WI P w H C c, ⟨_, 0, lA, hA, [(WO.start, kA, 0)], [], none, none, none, none, rfl, rfl, a3, nlA, nhH, hne0, ?_, upd_same, ?_, (fun _ h => nomatch h), .first C⟩, ?_⟩
    · rw [upd_ne hne0, upd_same]
    · intro e he
      rw [List.mem_singleton.mp he]
      exact eSt.keep kt
    rintro m σ H1 ⟨k, lA, hA, esL, esH, v3, v4, v5, v6, rfl, rfl, s1, nl, nh, hne, el, eh, tl, th, L⟩
    have ndl : ND P w H1 lA esL := ⟨.inl el, tl⟩
    have ndh : ND P w H1 hA esH := ⟨.inl eh, th⟩
    have sm := L.small ok
    rw [List.length_append, tab_length, tab_length] at sm
    -- while layer != {}
    refine ⟨_, rfl, fun zA nzA => ⟨lA, zA, esL, rfl, rfl, ndl.same (same_new nzA _), ⟨.inl upd_same, (fun _ h => nomatch h)⟩, _, rfl, ?_⟩⟩
    cases hL : esL with
    | nil =>
      subst hL
      refine iteF ⟨_, rfl, q _ hA esH (s1.new7 nzA _) nh ?_ (ndh.same (same_new nzA _)) L.done (by omega)⟩
      exact same_new nzA _ _ _ eh
    | cons e0 er =>
      refine iteT ⟨fun σ' H' => ∃ m', m' < C.n + 2 - k ∧ WI P w H C c m' σ' H', fun σ' H' h => h, ?_⟩
      have hk : k ≤ C.n := L.short (by rw [hL]; simp [tab])
      have z1 : Same H1 (upd H1 zA (NDo P w zA [])) := same_new nzA _
      have b1 := s1.trans z1
      -- heights.update(layer)
      have ndh1 := ndh.same z1
      have ndl1 := ndl.same z1
      refine ⟨_, rfl, hA, esH, rfl, ndh1, _, rfl, lA, esL, rfl, z1 _ _ eh, ndh1, ndl1, hne.symm, by omega, ?_, ?_, ?_⟩
      · rw [← tabs_app]
        have := L.nd
        rwa [← tabs_app] at this
      · cases esH with
        | nil =>
          have := WO.Lay.one (C := C) (k := k) (ly := tab esL) L
          rw [tab_length] at this
          exact .inr this
        | cons _ _ => exact .inl (by simp)
      have b2 := b1.wr7 nh (NDo P w hA (esH ++ esL))
      have kt2 : ∀ b xs, (upd H1 zA (NDo P w zA [])) b = some (.tup xs) → (upd (upd H1 zA (NDo P w zA [])) hA (NDo P w hA (esH ++ esL))) b = some (.tup xs) := fun b xs e => by
        rw [upd_ne (fun z => by rw [z, z1 _ _ eh] at e; exact ndo_tup (Option.some.inj e))]
        exact e
      have el2 : (upd (upd H1 zA (NDo P w zA [])) hA (NDo P w hA (esH ++ esL))) lA = some (NDo P w lA esL) := by rw [upd_ne hne]; exact z1 _ _ el
      -- late = {}
      refine fun tA ntA => ?_
      have b3 := b2.new7 ntA (NDo P w tA [])
      have c3 := same_new ntA (NDo P w tA [])
      have ntH : H tA = none := b2.free ntA
      have ndl3 : ND P w (upd (upd (upd H1 zA (NDo P w zA [])) hA (NDo P w hA (esH ++ esL))) tA (NDo P w tA [])) lA esL := ⟨.inl (c3 _ _ el2), fun e he => ((ndl1.st e he).keep kt2).same c3⟩
      -- for state in sorted(layer)
      refine ⟨_, rfl, lA, esL, rfl, ndl3, by omega, fun fs sA pm nsA => ?_⟩
      refine ⟨sA, rfl, ⟨_, SqL.of upd_same⟩, ?_⟩
      have b4 := b3.new7 nsA (.lst (fs.map fun e => V.ref e.2.1))
      have c4 := c3.new7 nsA (.lst (fs.map fun e => V.ref e.2.1))
      have ntS : tA ≠ sA := ne_of_none upd_same nsA
      have etS : (upd (upd (upd (upd H1 zA (NDo P w zA [])) hA (NDo P w hA (esH ++ esL))) tA (NDo P w tA [])) sA (.lst (fs.map fun e => V.ref e.2.1))) tA = some (NDo P w tA []) := by rw [upd_ne ntS, upd_same]
      have esS : (upd (upd (upd (upd H1 zA (NDo P w zA [])) hA (NDo P w hA (esH ++ esL))) tA (NDo P w tA [])) sA (.lst (fs.map fun e => V.ref e.2.1))) sA = some (.lst (fs.map fun e => V.ref e.2.1)) := upd_same
      have ndlS : ND P w (upd (upd (upd (upd H1 zA (NDo P w zA [])) hA (NDo P w hA (esH ++ esL))) tA (NDo P w tA [])) sA (.lst (fs.map fun e => V.ref e.2.1))) lA esL := ⟨.inl (c4 _ _ el2), fun e he => ((ndl1.st e he).keep kt2).same c4⟩
      have ndhS : ND P w (upd (upd (upd (upd H1 zA (NDo P w zA [])) hA (NDo P w hA (esH ++ esL))) tA (NDo P w tA [])) sA (.lst (fs.map fun e => V.ref e.2.1))) hA (esH ++ esL) := ⟨.inl (c4 _ _ upd_same), fun e he => by
        rcases List.mem_append.mp he with z | z
        · exact ((ndh1.st e z).keep kt2).same c4
        · exact ((ndl1.st e z).keep kt2).same c4⟩
      have elS := c4 _ _ el2
      have ehS := c4 hA _ upd_same
      have htA : hA ≠ tA := ne_of_none (show (upd (upd H1 zA (NDo P w zA [])) hA (NDo P w hA (esH ++ esL))) hA = some _ from upd_same) ntA
      have ltA : lA ≠ tA := ne_of_none el2 ntA
      have cS := hc.keep b4
      show ∃ W : Nat → Nat → L2.St → Hp → Prop, _
      generalize (upd (upd (upd (upd H1 zA (NDo P w zA [])) hA (NDo P w hA (esH ++ esL))) tA (NDo P w tA [])) sA (.lst (fs.map fun e => V.ref e.2.1))) = Hs at b4 etS esS ndlS ndhS elS ehS cS ⊢
      have gd : ∀ e ∈ esL, WO.Good C.n e.1 := fun e he => (L.now e.1 e.2.2 (tab_mem he)).1
      have ndK : (WO.keys (tab esL)).Nodup := by
        have := L.nd
        unfold WO.keys at this ⊢
        rw [List.map_append, List.nodup_append] at this
        exact this.2.1
      have fsL : ∀ e ∈ fs, e ∈ esL := fun e he => pm.mem_iff.mp he
      refine for_list (K := K) (a := sA) (xs := fs.map fun e => V.ref e.2.1) (fun i σ H2 => ∃ v4 v5 v6 esT, σ = [some (.ref c), some (.ref lA), some (.ref hA), some (.ref tA), v4, v5, v6] ∧ But Hs H2 tA ∧ H2 tA = some (NDo P w tA esT) ∧
        (∀ e ∈ esT, StaAt H2 e.2.1 e.1) ∧ WO.MinMap (WO.told C (tab esL) ((fs.take i).map (·.1))) (tab esT)) ⟨v4, v5, v6, [], rfl, .refl _ _, etS, (fun _ h => nomatch h), .nil⟩
        (fun i σ H2 _ ⟨_, _, _, _, _, b, _⟩ => b.seq ntS.symm (SqL.of esS)) ?_ ?_
      · rintro i x σ H2 hx ⟨v4, v5, v6, esT, rfl, bt, et, tt, M⟩
        rw [List.getElem?_map] at hx
        obtain ⟨e, he, rfl⟩ := Option.map_eq_some_iff.mp hx
        have heL := fsL e (List.mem_of_getElem? he)
        have kt3 := bt.tups etS
        have ga := gd e heL
        have get0 := get_some_tab ndK heL
        -- for one, cost in steps_from(costs, state)
        refine ⟨_, rfl, _, rfl, c, C, e.2.1, e.1, rfl, cS.tups kt3, ok, (ndlS.st e heL).keep kt3, ga, fun H3 l ps s3 nl3 el3 pp => ?_⟩
        have nlt : l ≠ tA := fun z => by rw [z, et] at nl3; cases nl3
        have etl := s3 _ _ et
        refine ⟨l, rfl, ⟨_, SqL.of el3⟩, ?_⟩
        refine for_list (K := K) (a := l) (xs := ps.map V.ref) (fun j σ H4 => ∃ v5 v6 esT', σ = [some (.ref c), some (.ref lA), some (.ref hA), some (.ref tA), some (.ref e.2.1), v5, v6] ∧ But H3 H4 tA ∧ H4 tA = some (NDo P w tA esT') ∧
          (∀ e ∈ esT', StaAt H4 e.2.1 e.1) ∧ WO.MinMap (WO.told C (tab esL) ((fs.take i).map (·.1)) ++ ((WO.steps C e.1).take j).map fun p => (p.1, e.2.2 + p.2)) (tab esT'))
          ⟨v5, v6, esT, rfl, .refl _ _, etl, (fun e he => (tt e he).same s3), by rw [List.take_zero, List.map_nil, List.append_nil]; exact M⟩ (fun j σ H4 _ ⟨_, _, _, _, b, _⟩ => b.seq nlt (SqL.of el3)) ?_ ?_
        · rintro j x σ H4 hx ⟨v5, v6, esT', rfl, b4t, et4, tt4, M4⟩
          rw [List.getElem?_map] at hx
          obtain ⟨p, hp, rfl⟩ := Option.map_eq_some_iff.mp hx
          obtain ⟨⟨t, cst⟩, hst, a1, g1, g2⟩ := paired_at pp hp
          have kt4 := b4t.tups etl
          have bA := (bt.trans (.of s3)).trans b4t
          have kt5 := bA.tups etS
          have sta1 := g2.keep kt4
          have staE := (ndlS.st e heL).keep kt5
          have ndl4 : ND P w H4 lA esL := ⟨.inl (bA _ _ ltA elS), fun e he => (ndlS.st e he).keep kt5⟩
          have ndt4 : ND P w H4 tA esT' := ⟨.inl et4, tt4⟩
          -- one, cost
          refine ⟨p, _, rfl, SqT.of (kt4 _ _ g1), rfl, _, _, rfl, _, _, rfl, rfl, ?_⟩
          have hmem : (t, cst) ∈ WO.steps C e.1 := List.mem_of_getElem? hst
          have tk : (WO.steps C e.1).take (j + 1) = (WO.steps C e.1).take j ++ [(t, cst)] := by
            rw [List.take_add_one, hst]
            rfl
          have small : esT'.length ≤ 25 := by
            have := WO.tab_len ok.n3 M4.nd fun s v h => by
              rcases List.mem_append.mp (M4.sub s v h) with z | z
              · refine WO.told_good (fun s hs => ?_) z
                obtain ⟨e', he', rfl⟩ := List.mem_map.mp hs
                exact gd e' (fsL e' (List.mem_of_mem_take he'))
              · obtain ⟨p', hp', ep⟩ := List.mem_map.mp z
                cases ep
                exact (WO.good_step ga (List.mem_of_mem_take hp')).1
            rwa [tab_length] at this
          -- if one not in late or late[one] > layer[state] + cost
          change tOr _ _ _ _ _
          refine use_read (b := match WO.get (tab esT') t with | none => true | some v => decide (e.2.2 + cst < v)) (fun Q' hQ => ?_) ?_
          · refine ⟨_, rfl, _, rfl, a1, tA, t, esT', rfl, rfl, sta1, ndt4, _, rfl, ?_⟩
            cases hg : WO.get (tab esT') t with
            | none =>
              rw [hg] at hQ
              exact iteT hQ
            | some v =>
              rw [hg] at hQ
              exact iteF ⟨_, rfl, _, rfl, tA, a1, t, esT', v, rfl, rfl, sta1, ndt4, hg, _, rfl, _, rfl, lA, e.2.1, e.1, esL, e.2.2, rfl, rfl, staE, ndl4, get0, _, rfl, _, _, rfl, rfl, _, _, rfl, rfl, _, rfl, hQ⟩
          · by_cases hb : (match WO.get (tab esT') t with | none => true | some v => decide (e.2.2 + cst < v)) = true
            · rw [if_pos hb]
              have hlow : ∀ v, WO.get (tab esT') t = some v → e.2.2 + cst ≤ v := fun v hv => by
                rw [hv] at hb
                have := of_decide_eq_true hb
                omega
              have kt6 : ∀ b xs, H4 b = some (.tup xs) → (upd H4 tA (NDo P w tA (putE esT' t a1 (e.2.2 + cst)))) b = some (.tup xs) := fun b xs e => by
                rw [upd_ne (fun z => by rw [z, et4] at e; exact ndo_tup (Option.some.inj e))]
                exact e
              refine ⟨_, rfl, _, rfl, lA, e.2.1, e.1, esL, e.2.2, rfl, rfl, staE, ndl4, get0, _, rfl, _, _, rfl, rfl, _, rfl, _, rfl, tA, a1, t, esT', _, rfl, rfl, rfl, sta1, et4, tt4, by omega, ?_⟩
              refine ⟨_, _, putE esT' t a1 (e.2.2 + cst), rfl, fun b o n h => ?_, upd_same, fun e' he' => ?_, ?_⟩
              · rw [upd_ne n]
                exact b4t b o n h
              · rcases putE_mem he' with ⟨z1, z2⟩ | ⟨e2, he2, z1, z2⟩
                · rw [z1, z2]
                  exact sta1.keep kt6
                · rw [z1, z2]
                  exact (tt4 e2 he2).keep kt6
              · rw [tk, List.map_append, ← List.append_assoc, tab_put]
                exact M4.put hlow
            · rw [if_neg hb]
              refine ⟨_, _, esT', rfl, b4t, et4, tt4, ?_⟩
              cases hg : WO.get (tab esT') t with
              | none =>
                rw [hg] at hb
                exact absurd rfl hb
              | some v =>
                rw [hg] at hb
                have : ¬ e.2.2 + cst < v := fun z => hb (decide_eq_true z)
                rw [tk, List.map_append, ← List.append_assoc]
                exact M4.keep hg (by omega)
        · rintro σ H4 ⟨v5, v6, esT', rfl, b4t, et4, tt4, M4⟩
          refine ⟨_, v5, v6, esT', rfl, (bt.trans (.of s3)).trans b4t, et4, tt4, ?_⟩
          have tk : fs.take (i + 1) = fs.take i ++ [e] := by
            rw [List.take_add_one, he]
            rfl
          have ln : (ps.map V.ref).length = (WO.steps C e.1).length := by rw [List.length_map, paired_len pp]
          rw [ln, List.take_length] at M4
          rw [tk, List.map_append, WO.told_app]
          show WO.MinMap (_ ++ WO.told C (tab esL) [e.1]) _
          rw [WO.told_one, get0]
          exact M4
      · rintro σ H2 ⟨v4, v5, v6, esT, rfl, bt, et, tt, M⟩
        rw [List.length_map, List.take_length] at M
        have sHH : Same H H2 := fun b o h => bt b o (ne_of_none h ntH) (b4 b o h)
        have kt3 := bt.tups etS
        refine ⟨_, rfl, C.n + 2 - (k + 1), by omega, k + 1, tA, hA, esT, esH ++ esL, _, _, _, _, rfl, rfl, sHH, ntH, nh, htA.symm, et, bt _ _ htA ehS, tt, fun e he => (ndhS.st e he).keep kt3, ?_⟩
        rw [tabs_app]
        refine L.next ?_ M
        rw [keys_tab]
        exact pm.map _
end
end W7
end
section
set_option Elab.async false
set_option linter.all false
set_option maxRecDepth 100000
/-! == of what we meet. -/
namespace W7
open PySem PySem.Spec PyProof.Rows L2
def dT (l : List Int) : PyData := .tuple (l.map .int)
def dL (l : List Int) : PyData := .list (l.map .int)
def dS (s : WO.Sta) : PyData := .tuple [dT s.1, .int s.2]
theorem dp_all {K : PySem.W.Frag} {H : Hp} : ∀ l : List Int, DpAll K H (l.map V.int) (l.map .int)
  | [] => .nil
  | x :: l => .cons (.int x) (dp_all l)
theorem dp_T {K : PySem.W.Frag} {H : Hp} {q : Addr} {l : List Int} (h : H q = some (.tup (l.map V.int))) : Dp K H (.ref q) (dT l) := .tup (SqT.of h) (dp_all l)
theorem dp_L {K : PySem.W.Frag} {H : Hp} {q : Addr} {l : List Int} (h : H q = some (.lst (l.map V.int))) : Dp K H (.ref q) (dL l) := .lst (SqL.of h) (dp_all l)
theorem dp_S {K : PySem.W.Frag} {H : Hp} {a : Addr} {s : WO.Sta} (h : StaAt H a s) : Dp K H (.ref a) (dS s) := by
  obtain ⟨q, h1, h2⟩ := h
  exact .tup (SqT.of h1) (.cons (dp_T h2) (.cons (.int _) .nil))
theorem depth_i : ∀ l : List Int, PyData.depthAll (l.map .int) = 0
  | [] => rfl
  | x :: l => by
    rw [List.map_cons]
    simp only [PyData.depthAll, PyData.depth, depth_i l]
    decide
theorem lay_i : ∀ l : List Int, PyData.canLayAll0 (l.map .int) = true
  | [] => by simp [PyData.canLayAll0]
  | x :: l => by
    rw [List.map_cons]
    simp [PyData.canLayAll0, PyData.canLay0, lay_i l]
theorem sh_T (l : List Int) : SeqAt.shaped (dT l) = true := by
  unfold SeqAt.shaped dT
  simp [PyData.canLay0, lay_i, PyData.depth, depth_i]
theorem sh_L (l : List Int) : SeqAt.shaped (dL l) = true := by
  unfold SeqAt.shaped dL
  simp [PyData.canLay0, lay_i, PyData.depth, depth_i]
theorem sh_S (s : WO.Sta) : SeqAt.shaped (dS s) = true := by
  unfold SeqAt.shaped dS dT
  simp [PyData.canLay0, PyData.canLayAll0, lay_i, PyData.depth, PyData.depthAll, depth_i]
theorem eqv_i : ∀ a b : List Int, PyData.eqvAll (a.map .int) (b.map .int) = decide (a = b)
  | [], [] => rfl
  | [], _ :: _ => by simp [PyData.eqvAll]
  | _ :: _, [] => by simp [PyData.eqvAll]
  | x :: a, y :: b => by
    rw [List.map_cons, List.map_cons]
    simp only [PyData.eqvAll, PyData.eqv, eqv_i a b]
    by_cases h : x = y
    · subst h
      simp
    · simp [h]
theorem eqv_T (a b : List Int) : PyData.eqv (dT a) (dT b) = decide (a = b) := by
  unfold dT
  simp only [PyData.eqv]
  exact eqv_i a b
theorem eqv_L (a b : List Int) : PyData.eqv (dL a) (dL b) = decide (a = b) := by
  unfold dL
  simp only [PyData.eqv]
  exact eqv_i a b
theorem eqv_S (a b : WO.Sta) : PyData.eqv (dS a) (dS b) = decide (a = b) := by
  unfold dS
  simp only [PyData.eqv, PyData.eqvAll, eqv_T, Bool.and_true]
  by_cases h1 : a.1 = b.1
  · by_cases h2 : a.2 = b.2
    · simp [h1, h2, Prod.ext_iff]
    · simp [h1, h2, Prod.ext_iff]
  · simp [h1, Prod.ext_iff]
end W7
end
section
set_option Elab.async false
set_option linter.all false
set_option maxRecDepth 100000
/-! ahead_of -/
namespace W7
open PySem PySem.Spec PyProof.Rows L2
section
variable {P : Program} {w : World} {K : PySem.W.Frag} {mg : Str → Option Value} {base : Heap} {f fS : Addr} {fd fdS : FuncData}
theorem scAhead : FnScope ["costs", "heights", "state", "done", "end", "one", "before", "late", "cost"] ["costs", "heights", "state"] (defScope sAhead) := ⟨rfl, rfl, rfl, by decide +kernel, rfl, by decide +kernel, by decide +kernel⟩
theorem ok_ahead {k : Nat} (F : Fun K "ahead_of" "ahead_of" sAhead f fd) (T : Txt mg) (G : FnOk P w K mg base CX0 k fS fdS ["costs", "state"] spSteps) (gS : mg "steps_from" = some (.ref fS)) (kS : PySem.W.keepIn K (.ref fS) = true) (bS : Binds K fdS ["costs", "state"] []) :
    FnOk P w K mg base CX0 (k + 1) f fd ["costs", "heights", "state"] (spAhead P w) := by
  refine F.ok scAhead (fun vs H Q E h => ?_) (fun cdv A outer s H vs Q E hr h => ?_)
  · obtain ⟨_, _, _, _, _, _, _, rfl, _⟩ := h
    rfl
  · obtain ⟨c, C, d, es, a, st, v, rfl, hc, ok, nd, Ht, hlen, ha, hv, h0, q⟩ := h
    have hu := hr.units
    refine ⟨_, pss_cons (ps_asg (pv 2) (pg_tup (by rfl) (pgs_cons (pg_name (i := 3) scAhead.nd rfl (.inl rfl)) (pgs_cons (pg_name (i := 4) scAhead.nd rfl (.inr rfl)) pgs_nil))))
      (pss_cons (ps_set (i := 6) scAhead.nd rfl (.inl rfl) (pe_callTy call_tuple_of (by rfl) T.tuple bt_tuple (pa_cons (pe_lc (own := [("one", 5)]) (g := gName 5) rfl scAhead.nd (pi_tup (pv 3)) (blkOk_by (own := [("one", 5)]) (N := ["costs", "heights", "state", "done", "end", "one", "before", "late", "cost"]) (sc := defScope sAhead) (by decide +kernel))
        (fun _ _ _ _ _ => pg_name (i := 5) scAhead.nd rfl (Or.inl rfl)) (fun _ _ _ _ _ => pts_one (pt_cmpR op_ne (pv 5) (pe_op op_fdiv (pv 4) pe_int) (nomark _))) (fun _ _ _ _ _ => pv 5)) pa_nil)))
      (pss_cons (ps_for PassesOwn.never rfl (pi_list (pe_callB (sort7 (P := P) (w := w) rfl rfl rfl hu) (by rfl) T.sorted bt_sorted (pa_cons (pv 1) pa_nil))) (pg_name (i := 7) scAhead.nd rfl (.inl rfl))
        (pss_one (ps_if (pt_cmpR (op_eqD hu) (pe_ix ix_tup (pv 7) pe_int (fun _ _ => rfl)) (pv 6) (nomark _))
          (pss_one (ps_for PassesOwn.never rfl (pi_list (pe_call G hr (by rfl) gS kS bS .nil pass0 (pa_cons (pv 0) (pa_cons (pv 7) pa_nil)))) (pg_tup (by rfl) (pgs_cons (pg_name (i := 5) scAhead.nd rfl (.inl rfl)) (pgs_cons (pg_name (i := 8) scAhead.nd rfl (.inl rfl)) pgs_nil)))
            (pss_one (ps_if (PW.pt (pw_and (pt_cmpR (op_eqD hu) (pv 5) (pv 2) (nomark _)) (pw_and1 (pt_cmpR op_eq (pe_op op_add (pe_ix (ix7 (P := P) (w := w) rfl rfl hu) (pv 1) (pv 7) (fun _ _ => rfl)) (pv 8)) (pe_ix (ix7 (P := P) (w := w) rfl rfl hu) (pv 1) (pv 2) (fun _ _ => rfl)) (nomark _)))))
              (pss_one (ps_ret (pv 7))) pss_nil)))) pss_nil)))
      (pss_one (ps_ret pe_non)))), ?_⟩
    obtain ⟨qa, g1, g2⟩ := id ha
    have ndK := Ht.nd
    have gst := Ht.good st v hv
    refine ⟨_, rfl, a, _, rfl, SqT.of g1, rfl, _, _, rfl, _, _, rfl, rfl, ?_⟩
    -- before = tuple([one for one in done if one != end // 2])
    refine ⟨_, rfl, qa, rfl, ⟨_, SqT.of g2⟩, fun D hD => ?_⟩
    refine lc_tup (K := K) (xs := st.1.map V.int) (fun i H1 => Same H H1 ∧ H1 D = some (.lst (((st.1.take i).filter fun y => decide (y ≠ st.2 / 2)).map V.int))) ⟨same_new hD _, upd_same⟩ (fun i H1 _ p => SqT.of (p.1 _ _ g2)) ?_ ?_
    · rintro i x H1 hx ⟨s1, e1⟩
      rw [List.getElem?_map] at hx
      obtain ⟨y, hy, rfl⟩ := Option.map_eq_some_iff.mp hx
      refine ⟨rfl, _, rfl, _, rfl, _, _, rfl, rfl, ⟨by decide, by decide⟩, rfl, _, rfl, ?_⟩
      have tk : st.1.take (i + 1) = st.1.take i ++ [y] := by
        rw [List.take_add_one, hy]
        rfl
      refine ifnv (fun z => ?_) (fun z => ?_)
      · refine ⟨_, rfl, _, e1, ?_, s1.wr7 hD _, ?_⟩
        · rw [List.length_map]
          have l1 := List.length_filter_le (fun y => decide (y ≠ st.2 / 2)) (st.1.take i)
          have l2 : (st.1.take i).length ≤ st.1.length := by rw [List.length_take]; exact Nat.min_le_right _ _
          have l3 := gst.len
          have l4 := ok.n3
          exact sizeLine_big (by omega)
        · rw [upd_same, tk, List.filter_append, List.map_append, List.filter_cons_of_pos (by simpa using z)]
          rfl
      · refine ⟨s1, ?_⟩
        rw [tk, List.filter_append, List.filter_cons_of_neg (by simp [z])]
        simpa using e1
    rintro H1 ⟨s1, e1⟩
    rw [List.length_map, List.take_length] at e1
    refine ⟨D, _, rfl, .inl ⟨SqL.of e1, fun bA nbA => ?_⟩⟩
    have s2 := s1.new7 nbA (.tup ((st.1.filter fun y => decide (y ≠ st.2 / 2)).map V.int))
    have eb : (upd H1 bA (.tup ((st.1.filter fun y => decide (y ≠ st.2 / 2)).map V.int))) bA = some (.tup ((st.1.filter fun y => decide (y ≠ st.2 / 2)).map V.int)) := upd_same
    -- for late in sorted(heights)
    refine ⟨_, rfl, d, es, rfl, nd.same s2, by omega, fun fs sA pm nsA => ⟨sA, rfl, ⟨_, SqL.of upd_same⟩, ?_⟩⟩
    have s3 := s2.new7 nsA (.lst (fs.map fun e => V.ref e.2.1))
    have c3 := same_new nsA (.lst (fs.map fun e => V.ref e.2.1))
    have eb3 := c3 _ _ eb
    have es3 : (upd (upd H1 bA (.tup ((st.1.filter fun y => decide (y ≠ st.2 / 2)).map V.int))) sA (.lst (fs.map fun e => V.ref e.2.1))) sA = some (.lst (fs.map fun e => V.ref e.2.1)) := upd_same
    generalize (upd (upd H1 bA (.tup ((st.1.filter fun y => decide (y ≠ st.2 / 2)).map V.int))) sA (.lst (fs.map fun e => V.ref e.2.1))) = Hs at s3 c3 eb3 es3 ⊢
    have fsL : ∀ e ∈ fs, e ∈ es := fun e he => pm.mem_iff.mp he
    refine for_list (K := K) (a := sA) (xs := fs.map fun e => V.ref e.2.1) (fun i σ H2 => ∃ v5 v7 v8, σ = [some (.ref c), some (.ref d), some (.ref a), some (.ref qa), some (.int st.2), v5, some (.ref bA), v7, v8] ∧ Same Hs H2 ∧
      ∀ j e, j < i → fs[j]? = some e → ¬ (e.1.1 = (st.1.filter fun y => decide (y ≠ st.2 / 2)) ∧ ∃ z, (st, z) ∈ WO.steps C e.1 ∧ e.2.2 + z = v)) ⟨_, _, _, rfl, .refl _, fun j e h => absurd h (Nat.not_lt_zero _)⟩ (fun i σ H2 _ ⟨_, _, _, _, b, _⟩ => b.seq (SqL.of es3)) ?_ ?_
    · rintro i x σ H2 hx ⟨v5, v7, v8, rfl, b2, hno⟩
      rw [List.getElem?_map] at hx
      obtain ⟨e, he, rfl⟩ := Option.map_eq_some_iff.mp hx
      have heL := fsL e (List.mem_of_getElem? he)
      have sH := s3.trans b2
      have staE := (nd.st e heL).same sH
      obtain ⟨qe, k1, k2⟩ := id staE
      have ge := Ht.good e.1 e.2.2 (tab_mem heL)
      have nd2 := nd.same sH
      have next : ∀ {H3}, Same H2 H3 → (¬ (e.1.1 = (st.1.filter fun y => decide (y ≠ st.2 / 2)) ∧ ∃ z, (st, z) ∈ WO.steps C e.1 ∧ e.2.2 + z = v)) → ∀ j e', j < i + 1 → fs[j]? = some e' → ¬ (e'.1.1 = (st.1.filter fun y => decide (y ≠ st.2 / 2)) ∧ ∃ z, (st, z) ∈ WO.steps C e'.1 ∧ e'.2.2 + z = v) := fun {H3} _ hn j e' hj he' => by
        by_cases hji : j = i
        · subst hji
          rw [he] at he'
          cases he'
          exact hn
        · exact hno j e' (by omega) he'
      -- if late[0] == before
      refine ⟨_, rfl, e.2.1, _, 0, _, rfl, rfl, SqT.of k1, rfl, _, rfl, dT e.1.1, dT (st.1.filter fun y => decide (y ≠ st.2 / 2)), dp_T k2, dp_T (b2 _ _ eb3), sh_T _, sh_T _, _, rfl, ?_⟩
      rw [eqv_T]
      refine ifd (fun hb => ?_) (fun hb => ⟨_, _, _, rfl, b2, next (.refl H2) fun z => hb z.1⟩)
      -- for one, cost in steps_from(costs, late)
      refine ⟨_, rfl, _, rfl, c, C, e.2.1, e.1, rfl, hc.keep sH, ok, staE, ge, fun H3 l ps s4 nl el pp => ⟨l, rfl, ⟨_, SqL.of el⟩, ?_⟩⟩
      refine for_list (K := K) (a := l) (xs := ps.map V.ref) (fun j σ H4 => ∃ v5 v8, σ = [some (.ref c), some (.ref d), some (.ref a), some (.ref qa), some (.int st.2), v5, some (.ref bA), some (.ref e.2.1), v8] ∧ Same H3 H4 ∧
        ∀ j' t z, j' < j → (WO.steps C e.1)[j']? = some (t, z) → ¬ (t = st ∧ e.2.2 + z = v)) ⟨_, _, rfl, .refl _, fun j e _ h => absurd h (Nat.not_lt_zero _)⟩ (fun j σ H4 _ ⟨_, _, _, b, _⟩ => b.seq (SqL.of el)) ?_ ?_
      · rintro j x σ H4 hx ⟨v5, v8, rfl, b4, hno4⟩
        rw [List.getElem?_map] at hx
        obtain ⟨p, hp, rfl⟩ := Option.map_eq_some_iff.mp hx
        obtain ⟨⟨t, z⟩, hst, a1, m1, m2⟩ := paired_at pp hp
        have sH4 := (sH.trans s4).trans b4
        have sta4 := ha.same sH4
        have staE4 := (nd.st e heL).same sH4
        have nd4 := nd.same sH4
        have next4 : ¬ (t = st ∧ e.2.2 + z = v) → ∀ j' t' z', j' < j + 1 → (WO.steps C e.1)[j']? = some (t', z') → ¬ (t' = st ∧ e.2.2 + z' = v) := fun hn j' t' z' hj hs' => by
          by_cases hji : j' = j
          · subst hji
            rw [hst] at hs'
            cases hs'
            exact hn
          · exact hno4 j' t' z' (by omega) hs'
        refine ⟨p, _, rfl, SqT.of (b4 _ _ m1), rfl, _, _, rfl, _, _, rfl, rfl, ?_⟩
        -- if one == state and heights[late] + cost == heights[state]
        refine ⟨_, rfl, _, rfl, dS t, dS st, dp_S (m2.same b4), dp_S sta4, sh_S _, sh_S _, _, rfl, ?_⟩
        rw [eqv_S]
        refine ifd (fun ht => ?_) (fun ht => iteF ⟨_, _, rfl, b4, next4 fun z => ht z.1⟩)
        refine ⟨_, rfl, _, rfl, d, e.2.1, e.1, es, e.2.2, rfl, rfl, staE4, nd4, get_some_tab ndK heL, _, rfl, _, _, rfl, rfl, _, rfl, _, rfl, d, a, st, es, v, rfl, rfl, sta4, nd4, (WO.get_some ndK).mpr hv, rfl, _, rfl, ?_⟩
        refine ifv (fun hz => ?_) (fun hz => ⟨_, _, rfl, b4, next4 fun z => hz z.2⟩)
        exact ⟨_, rfl, q H4 e.2.1 e.1 e.2.2 z sH4 staE4 (tab_mem heL) (ht ▸ List.mem_of_getElem? hst) hz⟩
      · rintro σ H4 ⟨v5, v8, rfl, b4, hno4⟩
        refine ⟨_, _, _, rfl, b2.trans (s4.trans b4), next (.refl H2) ?_⟩
        rintro ⟨_, z, hz, hv2⟩
        obtain ⟨j, hj⟩ := List.mem_iff_getElem?.mp hz
        refine hno4 j st z ?_ hj ⟨rfl, hv2⟩
        rw [List.length_map, paired_len pp]
        exact (List.getElem?_eq_some_iff.mp hj).1
    · rintro σ H2 ⟨v5, v7, v8, rfl, b2, hno⟩
      exfalso
      obtain ⟨t, u, z, m1, m2, m3, m4⟩ := WO.ahead Ht hv h0
      obtain ⟨e, he, ee⟩ := List.mem_map.mp m1
      cases ee
      obtain ⟨j, hj⟩ := List.mem_iff_getElem?.mp (pm.mem_iff.mpr he)
      refine hno j e ?_ hj ⟨m4, z, m2, m3⟩
      rw [List.length_map]
      exact (List.getElem?_eq_some_iff.mp hj).1
end
end W7
end
section
set_option Elab.async false
set_option linter.all false
set_option maxRecDepth 100000
/-! least_order -/
namespace W7
open PySem PySem.Spec PyProof.Rows L2
def BestAt (H : Hp) (x : V) : Option (Int × WO.Sta) → Prop
  | none => x = .non
  | some (c, s) => ∃ p a, x = .ref p ∧ H p = some (.tup [.int c, .ref a]) ∧ StaAt H a s
theorem BestAt.same {H H' : Hp} {x : V} {b : Option (Int × WO.Sta)} (h : BestAt H x b) (k : Same H H') : BestAt H' x b := by
  cases b with
  | none => exact h
  | some p =>
    obtain ⟨c, s⟩ := p
    obtain ⟨p, a, e, h1, h2⟩ := h
    exact ⟨p, a, e, k _ _ h1, h2.same k⟩
def newBest (h : Option Int) (b : Option (Int × WO.Sta)) (v : Int) : Bool := match h with
  | none => false
  | some m => match b with
    | none => true
    | some (c, _) => decide (v + m < c)
theorem newBest_yes {C : WO.Costs} {t : WO.Tab} {s : WO.Sta} {b : Option (Int × WO.Sta)} {v : Int} (h : newBest (WO.home C s) b v = true) (g : WO.get t s = some v) : ∃ m, WO.home C s = some m ∧ WO.better C t b s = some (v + m, s) := by
  unfold WO.better
  rw [g, Option.getD_some]
  cases hh : WO.home C s with
  | none =>
    rw [hh] at h
    cases h
  | some m =>
    rw [hh] at h
    refine ⟨m, rfl, ?_⟩
    cases b with
    | none => rfl
    | some p => exact if_pos (of_decide_eq_true h)
theorem newBest_no {C : WO.Costs} {t : WO.Tab} {s : WO.Sta} {b : Option (Int × WO.Sta)} {v : Int} (h : ¬ newBest (WO.home C s) b v = true) (g : WO.get t s = some v) : WO.better C t b s = b := by
  unfold WO.better
  rw [g, Option.getD_some]
  cases hh : WO.home C s with
  | none => rfl
  | some m =>
    rw [hh] at h
    cases b with
    | none => exact absurd rfl h
    | some p => exact if_neg fun z => h (decide_eq_true z)
section
variable {P : Program} {w : World} {K : PySem.W.Frag} {mg : Str → Option Value} {base : Heap} {f fH fA fM fO : Addr} {fd fdH fdA fdM fdO : FuncData}
theorem scLeast : FnScope ["costs", "heights", "best", "state", "more", "order"] ["costs"] (defScope sLeast) := ⟨rfl, rfl, rfl, by decide +kernel, rfl, by decide +kernel, by decide +kernel⟩
theorem ok_least {k : Nat} (F : Fun K "least_order" "least_order" sLeast f fd) (T : Txt mg)
    (GH : FnOk P w K mg base CX0 k fH fdH ["costs"] (spHeights P w)) (gH : mg "heights_of" = some (.ref fH)) (kH : PySem.W.keepIn K (.ref fH) = true) (bH : Binds K fdH ["costs"] [])
    (GM : FnOk P w K mg base CX0 k fM fdM ["costs", "state"] spHome) (gM : mg "home_cost" = some (.ref fM)) (kM : PySem.W.keepIn K (.ref fM) = true) (bM : Binds K fdM ["costs", "state"] [])
    (GO : FnOk P w K mg base CX0 k fO fdO ["end"] spOther) (gO : mg "other_end" = some (.ref fO)) (kO : PySem.W.keepIn K (.ref fO) = true) (bO : Binds K fdO ["end"] [])
    (GA : FnOk P w K mg base CX0 k fA fdA ["costs", "heights", "state"] (spAhead P w)) (gA : mg "ahead_of" = some (.ref fA)) (kA : PySem.W.keepIn K (.ref fA) = true) (bA : Binds K fdA ["costs", "heights", "state"] []) :
    FnOk P w K mg base CX0 (k + 1) f fd ["costs"] spLeast := by
  refine F.ok scLeast (fun vs H Q E h => ?_) (fun cdv A outer s H vs Q E hr h => ?_)
  · obtain ⟨_, _, rfl, _⟩ := h
    rfl
  · obtain ⟨c, C, rfl, hc, ok, qN, qS⟩ := h
    have hu := hr.units
    refine ⟨_, pss_cons (ps_par (i := 1) (j := 2) rfl scLeast.nd rfl rfl (by decide) rfl rfl (pa_cons (pe_call GH hr (by rfl) gH kH bH .nil pass0 (pa_cons (pv 0) pa_nil)) (pa_cons pe_non pa_nil)) (by rfl))
      (pss_cons (ps_for PassesOwn.never rfl (pi_list (pe_callB (sort7 (P := P) (w := w) rfl rfl rfl hu) (by rfl) T.sorted bt_sorted (pa_cons (pv 1) pa_nil))) (pg_name (i := 3) scLeast.nd rfl (.inl rfl))
        (pss_cons (ps_set (i := 4) scLeast.nd rfl (.inl rfl) (pe_call GM hr (by rfl) gM kM bM .nil pass0 (pa_cons (pv 0) (pa_cons (pv 3) pa_nil))))
        (pss_one (ps_if (PW.pt (pw_and (pt_cmp (pc_notN (pv 4))) (pw_and1 (PW.pt (pw_or (pt_cmp (pc_isN (pv 2))) (pw_or1 (pt_cmpR op_lt (pe_op op_add (pe_ix (ix7 (P := P) (w := w) rfl rfl hu) (pv 1) (pv 3) (fun _ _ => rfl)) (pv 4)) (pe_ix ix_tup (pv 2) pe_int (fun _ _ => rfl)) (nomark _))))))))
          (pss_one (ps_set (i := 2) scLeast.nd rfl (.inl rfl) (pe_tup (pa_cons (pe_op op_add (pe_ix (ix7 (P := P) (w := w) rfl rfl hu) (pv 1) (pv 3) (fun _ _ => rfl)) (pv 4)) (pa_cons (pv 3) pa_nil))))) pss_nil))))
      (pss_cons (ps_if (pt_cmp (pc_isN (pv 2))) (pss_one (ps_ret pe_non)) pss_nil)
      (pss_cons (ps_par (i := 5) (j := 3) rfl scLeast.nd rfl rfl (by decide) rfl rfl (pa_cons (pe_lst pa_nil) (pa_cons (pe_ix ix_tup (pv 2) pe_int (fun _ _ => rfl)) pa_nil)) (by rfl))
      (pss_cons (ps_while PassesOwn.never (pt_cmpR op_ge (pe_ix ix_tup (pv 3) pe_int (fun _ _ => rfl)) pe_int (nomark _))
        (pss_cons (ps_expr (pe_bm PySem.F.plainAttrs_list PySem.F.slot_list_append PySem.F.type_list_append mt_append (pv 5) (pa_cons (pe_call GO hr (by rfl) gO kO bO .nil pass0 (pa_cons (pe_ix ix_tup (pv 3) pe_int (fun _ _ => rfl)) pa_nil)) pa_nil)))
        (pss_one (ps_set (i := 3) scLeast.nd rfl (.inl rfl) (pe_call GA hr (by rfl) gA kA bA .nil pass0 (pa_cons (pv 0) (pa_cons (pv 1) (pa_cons (pv 3) pa_nil))))))))
      (pss_one (ps_ret (pe_tup (pa_cons (pe_ix ix_tup (pv 2) pe_int (fun _ _ => rfl)) (pa_cons (pe_callTy call_tuple_of (by rfl) T.tuple bt_tuple (pa_cons (pe_revL (pv 5)) pa_nil)) pa_nil))))))))), ?_⟩
    have n3 := ok.n3
    -- heights, best = heights_of(costs), None
    refine ⟨_, rfl, c, C, rfl, hc, ok, fun H1 d es s1 nd0 ed nd Ht hlen => ⟨_, _, rfl, ?_⟩⟩
    have ndK := Ht.nd
    -- for state in sorted(heights)
    refine ⟨_, rfl, d, es, rfl, nd, by omega, fun fs sA pm nsA => ⟨sA, rfl, ⟨_, SqL.of upd_same⟩, ?_⟩⟩
    have s2 := s1.new7 nsA (.lst (fs.map fun e => V.ref e.2.1))
    have c2 := same_new nsA (.lst (fs.map fun e => V.ref e.2.1))
    have es2 : (upd H1 sA (.lst (fs.map fun e => V.ref e.2.1))) sA = some (.lst (fs.map fun e => V.ref e.2.1)) := upd_same
    have nd2 := nd.same c2
    generalize (upd H1 sA (.lst (fs.map fun e => V.ref e.2.1))) = Hs at s2 c2 es2 nd2 ⊢
    have fsL : ∀ e ∈ fs, e ∈ es := fun e he => pm.mem_iff.mp he
    refine for_list (K := K) (a := sA) (xs := fs.map fun e => V.ref e.2.1) (fun i σ H2 => ∃ bv v3 v4 b, σ = [some (.ref c), some (.ref d), some bv, v3, v4, none] ∧ Same Hs H2 ∧ BestAt H2 bv b ∧ WO.Best C (tab es) ((fs.take i).map (·.1)) b)
      ⟨.non, none, none, none, rfl, .refl _, rfl, .nil _ _⟩ (fun i σ H2 _ ⟨_, _, _, _, _, b, _⟩ => b.seq (SqL.of es2)) ?_ ?_
    · rintro i x σ H2 hx ⟨bv, v3, v4, b, rfl, b2, hb, B⟩
      rw [List.getElem?_map] at hx
      obtain ⟨e, he, rfl⟩ := Option.map_eq_some_iff.mp hx
      have heL := fsL e (List.mem_of_getElem? he)
      have sH := s2.trans b2
      have staE := (nd2.st e heL).same b2
      have ge := Ht.good e.1 e.2.2 (tab_mem heL)
      have nd3 := nd2.same b2
      have get0 := get_some_tab ndK heL
      have tk : (fs.take (i + 1)).map (·.1) = (fs.take i).map (·.1) ++ [e.1] := by
        rw [List.take_add_one, he, List.map_append]
        rfl
      have Bn := B.next ndK (s := e.1) (WO.mem_keys.mpr ⟨_, tab_mem heL⟩)
      rw [← tk] at Bn
      -- more = home_cost(costs, state)
      refine ⟨_, rfl, _, rfl, c, C, e.2.1, e.1, rfl, hc.keep sH, ok, staE, ge, ?_⟩
      -- if more is not None and ...
      dsimp only [gName]
      change tAnd _ _ _ _ _
      refine use_read (b := newBest (WO.home C e.1) b e.2.2) (fun Q' hQ => ?_) ?_
      · refine ⟨_, rfl, _, rfl, ifNN (fun m hm => ?_) (fun hm => ?_)⟩
        · rw [hm] at hQ ⊢
          refine ⟨_, rfl, _, rfl, ?_⟩
          cases b with
          | none =>
            have e0 : bv = .non := hb
            subst e0
            exact iteT hQ
          | some p =>
            obtain ⟨c0, t0⟩ := p
            obtain ⟨p, a0, rfl, h1, h2⟩ := id hb
            exact iteF ⟨_, rfl, _, rfl, d, e.2.1, e.1, es, e.2.2, rfl, rfl, staE, nd3, get0, _, rfl, _, _, rfl, rfl, _, rfl, p, _, 0, _, rfl, rfl, SqT.of h1, rfl, _, _, rfl, rfl, _, rfl, hQ⟩
        · rw [hm] at hQ
          exact hQ
      · by_cases hb2 : newBest (WO.home C e.1) b e.2.2 = true
        · rw [if_pos hb2]
          obtain ⟨m, hm, en⟩ := newBest_yes hb2 get0
          rw [hm]
          refine ⟨_, rfl, _, rfl, d, e.2.1, e.1, es, e.2.2, rfl, rfl, staE, nd3, get0, _, rfl, _, _, rfl, rfl, _, rfl, (by show 2 ≤ sizeLine; decide), fun p np => ?_⟩
          rw [en] at Bn
          exact ⟨.ref p, _, _, some (e.2.2 + m, e.1), rfl, b2.new7 np _, ⟨p, e.2.1, rfl, upd_same, staE.same (same_new np _)⟩, Bn⟩
        · rw [if_neg hb2]
          rw [newBest_no hb2 get0] at Bn
          exact ⟨bv, _, _, b, rfl, b2, hb, Bn⟩
    · rintro σ H2 ⟨bv, v3, v4, b, rfl, b2, hb, B⟩
      rw [List.length_map, List.take_length] at B
      have pk : (fs.map (·.1)).Perm (WO.keys (tab es)) := by
        rw [keys_tab]
        exact pm.map _
      have sH := s2.trans b2
      have nd3 := nd2.same b2
      refine ⟨_, rfl, _, rfl, ?_⟩
      cases b with
      | none =>
        have e0 : bv = .non := hb
        subst e0
        exact iteT (qN H2 sH (WO.none_cost Ht pk B))
      | some p =>
        obtain ⟨c0, t0⟩ := p
        obtain ⟨p, a0, rfl, h1, h2⟩ := id hb
        refine iteF ?_
        obtain ⟨v, m, hv, hm, ec⟩ := B.bso c0 t0 rfl
        obtain ⟨low, low2⟩ := WO.hts_cost Ht pk B
        -- order, state = [], best[1]
        refine ⟨Nat.zero_le _, fun oA noA => ⟨_, rfl, p, _, 1, _, rfl, rfl, SqT.of (same_new noA (.lst []) _ _ h1), rfl, _, _, rfl, ?_⟩⟩
        have so := sH.new7 noA (.lst [])
        have noH : H oA = none := sH.free noA
        have so2 := same_new noA (.lst [])
        -- while state[1] >= 0
        have T0 : WO.Trail C (tab es) c0 t0 [] := by rw [ec]; exact .first hv hm
        refine ⟨fun m' σ H4 => ∃ s a v3 acc, σ = [some (.ref c), some (.ref d), some (.ref p), some (.ref a), v3, some (.ref oA)] ∧ m' = s.1.length ∧ But H2 H4 oA ∧ H4 oA = some (.lst (acc.map V.int)) ∧ StaAt H4 a s ∧ WO.Trail C (tab es) c0 s acc ∧ acc.length + s.1.length ≤ 3, ⟨_, t0, a0, _, [], rfl, rfl, .of so2, upd_same, h2.same so2, T0, ?_⟩, ?_⟩
        · have := (Ht.good t0 v hv).len
          simp
          omega
        rintro m' σ H4 ⟨s, a, v3', acc, rfl, rfl, b4, eo, sa, Tr, hl⟩
        have ts4 : ∀ b xs, H2 b = some (.tup xs) → H4 b = some (.tup xs) := fun b xs e => b4 b _ (fun z => by rw [z, noA] at e; cases e) e
        obtain ⟨qa, g1, g2⟩ := id sa
        refine ⟨_, rfl, a, _, 1, _, rfl, rfl, SqT.of g1, rfl, _, _, rfl, rfl, _, rfl, ?_⟩
        refine ifd (fun hpos => ?_) (fun hneg => ?_)
        · have hpos : 0 ≤ s.2 := hpos
          refine ⟨fun σ' H' => ∃ m', m' < s.1.length ∧ _, fun σ' H' h => h, ?_⟩
          obtain ⟨vs, hvs, hcs⟩ := Tr.here
          -- order.append(other_end(state[1]))
          refine ⟨_, rfl, .inl ⟨rfl, _, SqL.of eo⟩, _, rfl, a, _, 1, _, rfl, rfl, SqT.of g1, rfl, s.2, rfl, oA, _, _, rfl, rfl, eo, ?_, ?_⟩
          · rw [List.length_map]
            exact sizeLine_big (by omega)
          have ts5 : ∀ b xs, H4 b = some (.tup xs) → (upd H4 oA (.lst (acc.map V.int ++ [V.int (WO.other s.2)]))) b = some (.tup xs) := tups_wr eo
          have b5 : But H2 (upd H4 oA (.lst (acc.map V.int ++ [V.int (WO.other s.2)]))) oA := b4.trans fun b o n h => by rw [upd_ne n]; exact h
          have nd5 : ND P w (upd H4 oA (.lst (acc.map V.int ++ [V.int (WO.other s.2)]))) d es := by
            have nd0 : d ≠ oA := by
              rcases nd3.1 with z | ⟨_, z⟩
              · exact ne_of_none z noA
              · exact ne_of_none z noA
            exact nd3.keep (fun u hu => b5 _ _ nd0 hu) fun b xs e => ts5 _ _ (ts4 _ _ e)
          have eo5 : (upd H4 oA (.lst (acc.map V.int ++ [V.int (WO.other s.2)]))) oA = some (.lst ((acc ++ [WO.other s.2]).map V.int)) := by
            rw [upd_same, List.map_append]
            rfl
          generalize (upd H4 oA (.lst (acc.map V.int ++ [V.int (WO.other s.2)]))) = H5 at ts5 b5 nd5 eo5 ⊢
          -- state = ahead_of(costs, heights, state)
          refine ⟨_, rfl, _, rfl, _, rfl, c, C, d, es, a, s, vs, rfl, (hc.keep sH).tups fun b xs e => ts5 _ _ (ts4 _ _ e), ok, nd5, Ht, hlen, sa.keep ts5, hvs, hpos, fun H6 b t u z s6 tb tm st ez => ?_⟩
          have hls := (WO.good_step (Ht.good t u tm) st).2.1
          refine ⟨t.1.length, by omega, t, b, _, acc ++ [WO.other s.2], rfl, rfl, b5.trans (.of s6), s6 _ _ eo5, tb, Tr.next ndK hvs tm st ez, ?_⟩
          simp
          omega
        · have hneg : s.2 < 0 := by
            have : ¬ (0 ≤ s.2) := hneg
            omega
          have IL := Tr.least ok Ht hneg low2
          refine ⟨_, rfl, p, _, 0, _, rfl, rfl, SqT.of (ts4 _ _ h1), rfl, _, rfl, oA, _, rfl, SqL.of eo, fun r nr => ⟨r, _, rfl, .inl ⟨SqL.of upd_same, fun t nt => ⟨(by show 2 ≤ sizeLine; decide), fun y ny => ?_⟩⟩⟩⟩
          have s7 : Same H H4 := fun b o h => b4 b o (ne_of_none h noH) (sH b o h)
          refine qS _ y t c0 acc.reverse (((s7.new7 nr _).new7 nt _).new7 ny _) upd_same ?_ IL
          show upd _ y _ t = _
          rw [upd_ne (ne_of_none upd_same ny), upd_same, List.map_reverse]
end
end W7
end
section
set_option Elab.async false
set_option linter.all false
set_option maxRecDepth 100000
/-! cost_of -/
namespace W7
open PySem PySem.Spec PyProof.Rows L2
def dP (p : WO.Sta × Int) : PyData := .tuple [dS p.1, .int p.2]
theorem dp_P {K : PySem.W.Frag} {H : Hp} {a : Addr} {p : WO.Sta × Int} (h : StepAt H a p) : Dp K H (.ref a) (dP p) := by
  obtain ⟨q, h1, h2⟩ := h
  exact .tup (SqT.of h1) (.cons (dp_S h2) (.cons (.int _) .nil))
theorem sh_N0 : SeqAt.shaped (.list []) = true := by decide +kernel
theorem sh_N1 (p : WO.Sta × Int) : SeqAt.shaped (.list [dP p]) = true := by
  unfold SeqAt.shaped dP dS dT
  simp [PyData.canLay0, PyData.canLayAll0, lay_i, PyData.depth, PyData.depthAll, depth_i]
theorem cost_none {C : WO.Costs} {s : WO.Sta} {f e : Int} {r : List Int} (h : WO.near C s e = []) : WO.costFrom C s f (e :: r) = none := by
  unfold WO.costFrom
  rw [h]
  rfl
theorem cost_some {C : WO.Costs} {s t : WO.Sta} {f e c : Int} {r : List Int} (h : WO.near C s e = [(t, c)]) : WO.costFrom C s f (e :: r) = WO.costFrom C t (f + c) r := by
  conv => lhs; unfold WO.costFrom
  rw [h]
  rfl
section
variable {P : Program} {w : World} {K : PySem.W.Frag} {mg : Str → Option Value} {base : Heap} {f fS fM fO : Addr} {fd fdS fdM fdO : FuncData}
theorem scCostOf : FnScope ["costs", "order", "state", "found", "end", "near", "more", "one", "cost"] ["costs", "order"] (defScope sCostOf) := ⟨rfl, rfl, rfl, by decide +kernel, rfl, by decide +kernel, by decide +kernel⟩
theorem ok_costof {k : Nat} (F : Fun K "cost_of" "cost_of" sCostOf f fd) (T : Txt mg)
    (GS : FnOk P w K mg base CX0 k fS fdS ["costs", "state"] spSteps) (gS : mg "steps_from" = some (.ref fS)) (kS : PySem.W.keepIn K (.ref fS) = true) (bS : Binds K fdS ["costs", "state"] [])
    (GM : FnOk P w K mg base CX0 k fM fdM ["costs", "state"] spHome) (gM : mg "home_cost" = some (.ref fM)) (kM : PySem.W.keepIn K (.ref fM) = true) (bM : Binds K fdM ["costs", "state"] [])
    (GO : FnOk P w K mg base CX0 k fO fdO ["end"] spOther) (gO : mg "other_end" = some (.ref fO)) (kO : PySem.W.keepIn K (.ref fO) = true) (bO : Binds K fdO ["end"] []) :
    FnOk P w K mg base CX0 (k + 1) f fd ["costs", "order"] spCostOf := by
  refine F.ok scCostOf (fun vs H Q E h => ?_) (fun cdv A outer s H vs Q E hr h => ?_)
  · obtain ⟨_, _, _, _, rfl, _⟩ := h
    rfl
  · obtain ⟨c, C, oa, os, rfl, hc, ok, ho, hrng, q⟩ := h
    have hu := hr.units
    refine ⟨_, pss_cons (ps_asg (pe_tup (pa_cons (pe_tup (pa_cons (pe_tup pa_nil) (pa_cons (pe_un un_neg pe_int) pa_nil))) (pa_cons pe_int pa_nil))) (pg_tup (by rfl) (pgs_cons (pg_name (i := 2) scCostOf.nd rfl (.inl rfl)) (pgs_cons (pg_name (i := 3) scCostOf.nd rfl (.inl rfl)) pgs_nil))))
      (pss_cons (ps_for PassesOwn.never rfl (pi_tup (pv 1)) (pg_name (i := 4) scCostOf.nd rfl (.inr rfl))
        (pss_cons (ps_setLc (i := 5) (own := [("one", 7), ("cost", 8)]) (g := gTup K 2 (gCons (gName 7) (gCons (gName 8) gNil))) rfl scCostOf.nd rfl rfl (sw_true rfl rfl rfl (by decide +kernel)) (pi_list (pe_call GS hr (by rfl) gS kS bS .nil pass0 (pa_cons (pv 0) (pa_cons (pv 2) pa_nil))))
          (blkOk_by (own := [("one", 7), ("cost", 8)]) (N := ["costs", "order", "state", "found", "end", "near", "more", "one", "cost"]) (sc := defScope sCostOf) (by decide +kernel))
          (fun _ _ _ _ _ => pg_tup (by rfl) (pgs_cons (pg_name (i := 7) scCostOf.nd rfl (Or.inl rfl)) (pgs_cons (pg_name (i := 8) scCostOf.nd rfl (Or.inl rfl)) pgs_nil)))
          (fun _ _ _ _ _ => pts_one (pt_cmpR op_eq (pe_ix (tup7 (K := K) rfl) (pv 7) pe_int (fun _ _ => rfl)) (pe_call GO hr (by rfl) gO kO bO .nil pass0 (pa_cons (pv 4) pa_nil)) (nomark _)))
          (fun _ _ _ _ _ => pe_tup (pa_cons (pv 7) (pa_cons (pv 8) pa_nil))))
        (pss_cons (ps_if (pt_cmpR (op_eqD hu) (pv 5) (pe_lst pa_nil) (nomark _)) (pss_one (ps_ret pe_non)) pss_nil)
        (pss_one (ps_par (i := 2) (j := 3) rfl scCostOf.nd rfl rfl (by decide) rfl rfl (pa_cons (pe_ix ix_tup (pe_ix ix_list (pv 5) pe_int (fun _ _ => rfl)) pe_int (fun _ _ => rfl)) (pa_cons (pe_op op_add (pv 3) (pe_ix ix_tup (pe_ix ix_list (pv 5) pe_int (fun _ _ => rfl)) pe_int (fun _ _ => rfl))) pa_nil)) (by rfl))))))
      (pss_cons (ps_set (i := 6) scCostOf.nd rfl (.inl rfl) (pe_call GM hr (by rfl) gM kM bM .nil pass0 (pa_cons (pv 0) (pa_cons (pv 2) pa_nil))))
      (pss_one (ps_ret (pe_ifExp (pt_cmp (pc_isN (pv 6))) pe_non (pe_op op_add (pv 3) (pv 6))))))), ?_⟩
    have n3 := ok.n3
    -- state, found = ((), -1), 0
    refine ⟨(by show 0 ≤ sizeLine; decide), fun eA neA => ⟨1, rfl, (by show 2 ≤ sizeLine; decide), fun kA nkA => ⟨(by show 2 ≤ sizeLine; decide), fun pA npA => ⟨_, _, rfl, SqT.of upd_same, rfl, _, _, rfl, _, _, rfl, rfl, ?_⟩⟩⟩⟩
    have a0 := (same_new neA (.tup [])).new7 nkA (.tup [V.ref eA, V.int (-1)])
    have eSt : StaAt (upd (upd H eA (.tup [])) kA (.tup [V.ref eA, V.int (-1)])) kA WO.start := by
      refine ⟨eA, upd_same, ?_⟩
      rw [upd_ne (ne_of_none upd_same nkA), upd_same]
      rfl
    have a1 := a0.new7 npA (.tup [V.ref kA, V.int 0])
    have eSt := eSt.same (same_new npA (.tup [V.ref kA, V.int 0]))
    -- for end in order
    refine ⟨_, rfl, oa, rfl, ⟨_, SqT.of (a1 _ _ ho)⟩, ?_⟩
    generalize (upd (upd (upd H eA (.tup [])) kA (.tup [V.ref eA, V.int (-1)])) pA (.tup [V.ref kA, V.int 0])) = Hs at a1 eSt ⊢
    refine for_tup (K := K) (a := oa) (xs := os.map V.int) (fun i σ H2 => ∃ a s fnd v4 v5, σ = [some (.ref c), some (.ref oa), some (.ref a), some (.int fnd), v4, v5, none, none, none] ∧ Same H H2 ∧ StaAt H2 a s ∧ WO.Good C.n s ∧ WO.costOf C os = WO.costFrom C s fnd (os.drop i))
      ⟨kA, WO.start, 0, _, _, rfl, a1, eSt, WO.good_start _, rfl⟩ (fun i σ H2 _ ⟨_, _, _, _, _, _, b, _⟩ => SqT.of (b _ _ ho)) ?_ ?_
    · rintro i x σ H2 hx ⟨a, s, fnd, v4, v5, rfl, b2, sa, g, ec⟩
      rw [List.getElem?_map] at hx
      obtain ⟨e, he, rfl⟩ := Option.map_eq_some_iff.mp hx
      have her := hrng e (List.mem_of_getElem? he)
      have edr : os.drop i = e :: os.drop (i + 1) := by
        obtain ⟨h1, h2⟩ := List.getElem?_eq_some_iff.mp he
        rw [List.drop_eq_getElem_cons h1, h2]
      rw [edr] at ec
      -- near = [...]
      refine ⟨_, rfl, _, rfl, c, C, a, s, rfl, hc.keep b2, ok, sa, g, fun H3 l ps s3 nl3 el3 pp => ⟨l, rfl, ⟨_, SqL.of el3⟩, fun D hD => ?_⟩⟩
      refine lc_list (K := K) (xs := ps.map V.ref) (fun j H4 => ∃ rs, Same H3 H4 ∧ H4 D = some (.lst (rs.map V.ref)) ∧ rs.length ≤ j ∧ Paired (StepAt H4) rs (((WO.steps C s).take j).filter fun p => decide (p.1.2 = WO.other e))) ⟨[], same_new hD _, upd_same, Nat.le_refl _, .nil⟩ (fun j H4 _ ⟨_, b, _⟩ => b.seq (SqL.of el3)) ?_ ?_
      · rintro j x H4 hx ⟨rs, s4, e4, l4, p4⟩
        rw [List.getElem?_map] at hx
        obtain ⟨p, hp, rfl⟩ := Option.map_eq_some_iff.mp hx
        obtain ⟨⟨t, cst⟩, hst, a1, m1, m2⟩ := paired_at pp hp
        obtain ⟨qt, t1, t2⟩ := id (m2.same s4)
        have tk : (WO.steps C s).take (j + 1) = (WO.steps C s).take j ++ [(t, cst)] := by
          rw [List.take_add_one, hst]
          rfl
        refine ⟨p, _, rfl, SqT.of (s4 _ _ m1), rfl, _, _, rfl, _, _, rfl, rfl, rfl, ?_⟩
        refine ⟨_, rfl, a1, _, 1, _, rfl, rfl, SqT.of t1, rfl, _, rfl, e, rfl, rfl, _, rfl, ?_⟩
        refine ifv (fun z => ?_) (fun z => ?_)
        · refine ⟨_, rfl, _, rfl, (by show 2 ≤ sizeLine; decide), fun r nr => ⟨rs.map V.ref, same_new nr _ _ _ e4, ?_, rs ++ [r], ?_⟩⟩
          · rw [List.length_map]
            have hj := (List.getElem?_eq_some_iff.mp hst).1
            have := WO.stepsTo_len C s (2 * C.n)
            have hj : j < (WO.stepsTo C s (2 * C.n)).length := hj
            exact sizeLine_big (by omega)
          · have c4 := same_new nr (.tup [V.ref a1, V.int cst])
            have e5 := c4 _ _ e4
            have kt := tups_wr (o := .lst (rs.map V.ref ++ [V.ref r])) e5
            refine ⟨(s4.trans c4).wr7 hD _, by rw [upd_same, List.map_append]; rfl, by simp; omega, ?_⟩
            rw [tk, List.filter_append, List.filter_cons_of_pos (by simpa using z)]
            refine paired_app (pmap (fun _ _ x => (x.same c4).tups kt) p4) (.cons ⟨a1, kt _ _ upd_same, ((m2.same s4).same c4).keep kt⟩ .nil)
        · refine ⟨rs, s4, e4, by omega, ?_⟩
          rw [tk, List.filter_append, List.filter_cons_of_neg (by simp [z]), List.filter_nil, List.append_nil]
          exact p4
      rintro H4 ⟨rs, s4, e4, _, p4⟩
      have ln : (ps.map V.ref).length = (WO.steps C s).length := by rw [List.length_map, paired_len pp]
      rw [ln, List.take_length] at p4
      have p4 : Paired (StepAt H4) rs (WO.near C s e) := p4
      have en := WO.near_eq (C := C) (s := s) her.1 her.2
      have sH := (b2.trans s3).trans s4
      -- if near == []
      refine ⟨_, rfl, Nat.zero_le _, fun zA nzA => ?_⟩
      have c5 := same_new nzA (.lst [])
      cases hst : WO.stepAt C s e.toNat with
      | none =>
        rw [hst, Option.toList_none] at en
        rw [en] at p4
        cases p4
        refine ⟨.list [], .list [], .lst (SqL.of (c5 _ _ e4)) .nil, .lst (SqL.of upd_same) .nil, sh_N0, sh_N0, _, rfl, iteT ?_⟩
        have q := q _ (sH.trans c5)
        rw [ec, cost_none en] at q
        exact q
      | some p =>
        obtain ⟨t, cst⟩ := p
        rw [hst, Option.toList_some] at en
        rw [en] at p4
        cases p4 with
        | @cons r _ _ _ pr ptl =>
          cases ptl
          have pr5 := pr.same c5
          have e5 := c5 _ _ e4
          refine ⟨.list [dP (t, cst)], .list [], .lst (SqL.of e5) (.cons (dp_P pr5) .nil), .lst (SqL.of upd_same) .nil, sh_N1 _, sh_N0, _, rfl, iteF ?_⟩
          obtain ⟨ta, u1, u2⟩ := pr5
          refine ⟨_, rfl, D, _, 0, _, rfl, rfl, SqL.of e5, rfl, r, _, 0, _, rfl, rfl, SqT.of u1, rfl, _, rfl, _, rfl, D, _, 0, _, rfl, rfl, SqL.of e5, rfl, r, _, 1, _, rfl, rfl, SqT.of u1, rfl, _, _, rfl, rfl, _, _, rfl, ?_⟩
          have hmem : (t, cst) ∈ WO.steps C s := WO.mem_steps.mpr ⟨e.toNat, by omega, hst⟩
          refine ⟨ta, t, fnd + cst, _, _, rfl, sH.trans c5, u2, (WO.good_step g hmem).1, ?_⟩
          rw [ec, cost_some en]
    · rintro σ H2 ⟨a, s, fnd, v4, v5, rfl, b2, sa, g, ec⟩
      rw [List.length_map, List.drop_length] at ec
      refine ⟨_, rfl, _, rfl, c, C, a, s, rfl, hc.keep b2, ok, sa, g, ?_⟩
      refine ⟨_, rfl, _, rfl, ifN (fun hn => ?_) (fun m hm => ?_)⟩
      · have q := q _ b2
        rw [ec] at q
        unfold WO.costFrom at q
        rw [hn] at q
        exact q
      · have q := q _ b2
        rw [ec] at q
        unfold WO.costFrom at q
        rw [hm] at q ⊢
        exact ⟨_, rfl, _, rfl, _, _, rfl, rfl, q⟩
end
end W7
end
section
set_option Elab.async false
set_option linter.all false
set_option maxRecDepth 100000
/-! is_least_order -/
namespace W7
open PySem PySem.Spec PyProof.Rows L2
theorem least_none {C : WO.Costs} {os : List Int} {h : WO.Tab} (e : WO.costOf C os = none) : WO.isLeast C os h = false := by
  unfold WO.isLeast
  rw [e]
theorem least_start {C : WO.Costs} {os : List Int} {h : WO.Tab} {c : Int} (e : WO.costOf C os = some c) (g : WO.get h WO.start ≠ some 0) : WO.isLeast C os h = false := by
  unfold WO.isLeast
  rw [e]
  simp [g]
theorem least_bad {C : WO.Costs} {os : List Int} {h : WO.Tab} {c : Int} {s : WO.Sta} {v : Int} (e : WO.costOf C os = some c) (m : (s, v) ∈ h) (b : WO.okAt C h c s v = false) : WO.isLeast C os h = false := by
  unfold WO.isLeast
  rw [e]
  have : (h.all fun p => WO.okAt C h c p.1 p.2) = false := by
    rw [Bool.eq_false_iff, Ne, List.all_eq_true]
    intro z
    have := z (s, v) m
    rw [b] at this
    cases this
  simp [this]
theorem least_good {C : WO.Costs} {os : List Int} {h : WO.Tab} {c : Int} (e : WO.costOf C os = some c) (g : WO.get h WO.start = some 0) (b : ∀ s v, (s, v) ∈ h → WO.okAt C h c s v = true) : WO.isLeast C os h = true := by
  unfold WO.isLeast
  rw [e]
  have : (h.all fun p => WO.okAt C h c p.1 p.2) = true := by
    rw [List.all_eq_true]
    exact fun p hp => b p.1 p.2 hp
  simp [this, g]
def worse (x : Option Int) (v : Int) : Bool := match x with
  | none => true
  | some w => decide (v < w)
theorem ok_false1 {C : WO.Costs} {h : WO.Tab} {c : Int} {s : WO.Sta} {v m : Int} (e : WO.home C s = some m) (l : v + m < c) : WO.okAt C h c s v = false := by
  unfold WO.okAt
  rw [e]
  have : decide (c ≤ v + m) = false := decide_eq_false (by omega)
  simp only [this, Bool.false_and]
theorem ok_false2 {C : WO.Costs} {h : WO.Tab} {c : Int} {s t : WO.Sta} {v z : Int} (m : (t, z) ∈ WO.steps C s) (l : worse (WO.get h t) (v + z) = true) : WO.okAt C h c s v = false := by
  unfold WO.okAt
  rw [Bool.and_eq_false_iff]
  right
  rw [Bool.eq_false_iff, Ne, List.all_eq_true]
  intro q
  have q := q (t, z) m
  dsimp only at q
  cases hg : WO.get h t with
  | none =>
    rw [hg] at q
    cases q
  | some w =>
    rw [hg] at q l
    have a := of_decide_eq_true q
    have b := of_decide_eq_true l
    omega
theorem ok_true {C : WO.Costs} {h : WO.Tab} {c : Int} {s : WO.Sta} {v : Int} (a : ∀ m, WO.home C s = some m → c ≤ v + m) (b : ∀ t z, (t, z) ∈ WO.steps C s → worse (WO.get h t) (v + z) = false) : WO.okAt C h c s v = true := by
  unfold WO.okAt
  rw [Bool.and_eq_true, List.all_eq_true]
  constructor
  · cases hh : WO.home C s with
    | none => rfl
    | some m => exact decide_eq_true (a m hh)
  · rintro ⟨t, z⟩ hm
    have q := b t z hm
    dsimp only
    cases hg : WO.get h t with
    | none =>
      rw [hg] at q
      cases q
    | some w =>
      rw [hg] at q
      have q := of_decide_eq_false q
      exact decide_eq_true (by omega)
theorem unlock {H H' : Hp} {d : Addr} {u o : HO} (h : H d = some u) (s : Same (upd H d o) H') : Same H (upd H' d u) := fun b x e => by
  by_cases hb : b = d
  · subst hb
    rw [h] at e
    rw [upd_same]
    exact e
  · rw [upd_ne hb]
    exact s _ _ (by rw [upd_ne hb]; exact e)
def newBig (x : Option Int) (v c : Int) : Bool := match x with
  | none => false
  | some m => decide (v + m < c)
section
variable {P : Program} {w : World} {K : PySem.W.Frag} {mg : Str → Option Value} {base : Heap} {f fS fM fC : Addr} {fd fdS fdM fdC : FuncData}
theorem scIsLeast : FnScope ["costs", "order", "heights", "cost", "state", "more", "one", "step"] ["costs", "order", "heights"] (defScope sIsLeast) := ⟨rfl, rfl, rfl, by decide +kernel, rfl, by decide +kernel, by decide +kernel⟩
theorem ok_isleast {k : Nat} (F : Fun K "is_least_order" "is_least_order" sIsLeast f fd) (T : Txt mg)
    (GC : FnOk P w K mg base CX0 k fC fdC ["costs", "order"] spCostOf) (gC : mg "cost_of" = some (.ref fC)) (kC : PySem.W.keepIn K (.ref fC) = true) (bC : Binds K fdC ["costs", "order"] [])
    (GS : FnOk P w K mg base CX0 k fS fdS ["costs", "state"] spSteps) (gS : mg "steps_from" = some (.ref fS)) (kS : PySem.W.keepIn K (.ref fS) = true) (bS : Binds K fdS ["costs", "state"] [])
    (GM : FnOk P w K mg base CX0 k fM fdM ["costs", "state"] spHome) (gM : mg "home_cost" = some (.ref fM)) (kM : PySem.W.keepIn K (.ref fM) = true) (bM : Binds K fdM ["costs", "state"] []) :
    FnOk P w K mg base CX0 (k + 1) f fd ["costs", "order", "heights"] (spIsLeast P w) := by
  refine F.ok scIsLeast (fun vs H Q E h => ?_) (fun cdv A outer s H vs Q E hr h => ?_)
  · obtain ⟨_, _, _, _, _, _, rfl, _⟩ := h
    rfl
  · obtain ⟨c, C, oa, os, d, es, rfl, hc, ok, ho, hrng, hd, nd, ndK, gd, q⟩ := h
    have hu := hr.units
    refine ⟨_, pss_cons (ps_set (i := 3) scIsLeast.nd rfl (.inl rfl) (pe_call GC hr (by rfl) gC kC bC .nil pass0 (pa_cons (pv 0) (pa_cons (pv 1) pa_nil))))
      (pss_cons (ps_if (PW.pt (pw_or (pt_cmp (pc_isN (pv 3))) (pw_or1 (pt_cmpR op_ne (get7 (P := P) (w := w) rfl rfl hu (pv 2) (pe_tup (pa_cons (pe_tup pa_nil) (pa_cons (pe_un un_neg pe_int) pa_nil))) ⟨rfl, rfl, rfl, rfl⟩) pe_int (nomark _))))) (pss_one (ps_ret pe_bl)) pss_nil)
      (pss_cons (ps_lock (ps_for PassesOwn.never rfl (keys7 (P := P) (w := w) rfl rfl (pv 2)) (pg_name (i := 4) scIsLeast.nd rfl (.inl rfl))
        (pss_cons (ps_set (i := 5) scIsLeast.nd rfl (.inl rfl) (pe_call GM hr (by rfl) gM kM bM .nil pass0 (pa_cons (pv 0) (pa_cons (pv 4) pa_nil))))
        (pss_cons (ps_if (PW.pt (pw_and (pt_cmp (pc_notN (pv 5))) (pw_and1 (pt_cmpR op_lt (pe_op op_add (pe_ix (ix7 (P := P) (w := w) rfl rfl hu) (pv 2) (pv 4) (fun _ _ => rfl)) (pv 5)) (pv 3) (nomark _))))) (pss_one (ps_ret pe_bl)) pss_nil)
        (pss_one (ps_for PassesOwn.never rfl (pi_list (pe_call GS hr (by rfl) gS kS bS .nil pass0 (pa_cons (pv 0) (pa_cons (pv 4) pa_nil)))) (pg_tup (by rfl) (pgs_cons (pg_name (i := 6) scIsLeast.nd rfl (.inl rfl)) (pgs_cons (pg_name (i := 7) scIsLeast.nd rfl (.inl rfl)) pgs_nil)))
          (pss_one (ps_if (PW.pt (pw_or (pt_cmpR (nin7 (P := P) (w := w) rfl rfl hu) (pv 6) (pv 2) (by rfl)) (pw_or1 (pt_cmpR op_gt (pe_ix (ix7 (P := P) (w := w) rfl rfl hu) (pv 2) (pv 6) (fun _ _ => rfl)) (pe_op op_add (pe_ix (ix7 (P := P) (w := w) rfl rfl hu) (pv 2) (pv 4) (fun _ _ => rfl)) (pv 7)) (nomark _)))))
            (pss_one (ps_ret pe_bl)) pss_nil)))))))) 
      (pss_one (ps_ret pe_bl)))), ?_⟩
    have n3 := ok.n3
    -- cost = cost_of(costs, order)
    refine ⟨_, rfl, _, rfl, c, C, oa, os, rfl, hc, ok, ho, hrng, fun H1 s1 => ?_⟩
    refine ⟨_, rfl, _, rfl, ifN (fun hn => ?_) (fun cst hcst => ?_)⟩
    · have q := q _ s1
      rw [least_none hn] at q
      exact iteT q
    rw [hcst]
    -- heights.get(((), -1)) != 0
    have nd1 := nd.same s1
    refine ⟨_, rfl, d, es, rfl, nd1, (by show 0 ≤ sizeLine; decide), fun eA neA => ⟨1, rfl, (by show 2 ≤ sizeLine; decide), fun kA nkA => ?_⟩⟩
    have a1 := (same_new neA (.tup [])).new7 nkA (.tup [V.ref eA, V.int (-1)])
    have eSt : StaAt (upd (upd H1 eA (.tup [])) kA (.tup [V.ref eA, V.int (-1)])) kA WO.start := by
      refine ⟨eA, upd_same, ?_⟩
      rw [upd_ne (ne_of_none upd_same nkA), upd_same]
      rfl
    have s2 := s1.trans a1
    generalize (upd (upd H1 eA (.tup [])) kA (.tup [V.ref eA, V.int (-1)])) = H2 at a1 eSt s2 ⊢
    have nd2 := nd.same s2
    refine ⟨kA, WO.start, rfl, eSt, nd2, ?_⟩
    have st : WO.get (tab es) WO.start = some 0 ∨ WO.get (tab es) WO.start ≠ some 0 := Decidable.em _
    rcases st with hg | hg
    case inr =>
      have q := q _ s2
      rw [least_start hcst hg] at q
      cases hv : WO.get (tab es) WO.start with
      | none => exact ⟨rfl, _, rfl, q⟩
      | some v => exact ⟨rfl, _, rfl, ifnv (fun _ => q) (fun z => absurd (by rw [hv, z]) hg)⟩
    rw [hg]
    refine ⟨rfl, _, rfl, ifnv (fun z => absurd rfl z) fun _ => ?_⟩
    -- for state in heights
    refine ⟨d, _, s2 _ _ hd, trivial, fun od => ⟨_, rfl, d, od, es, rfl, upd_same, ?_⟩⟩
    have hd2 := s2 _ _ hd
    have un : ∀ {H3}, Same (upd H2 d (.frz od (NDo P w d es))) H3 → Same H (upd H3 d (NDo P w d es)) := fun s3 => s2.trans (unlock hd2 s3)
    have kt : ∀ b xs, H2 b = some (.tup xs) → (upd H2 d (.frz od (NDo P w d es))) b = some (.tup xs) := fun b xs e => by
      rw [upd_ne (fun z => by rw [z, hd2] at e; exact ndo_tup (Option.some.inj e))]
      exact e
    have ndF : ND P w (upd H2 d (.frz od (NDo P w d es))) d es := ⟨.inr ⟨od, upd_same⟩, fun e he => (nd2.st e he).keep kt⟩
    have cF := (hc.keep s2).tups kt
    have hF : (upd H2 d (.frz od (NDo P w d es))) d = some (.frz od (NDo P w d es)) := upd_same
    generalize (upd H2 d (.frz od (NDo P w d es))) = HF at un ndF cF hF ⊢
    refine for_nd (P := P) (w := w) (d := d) (o := od) (es := es) (fun i σ H3 => ∃ v4 v5 v6 v7, σ = [some (.ref c), some (.ref oa), some (.ref d), some (.int cst), v4, v5, v6, v7] ∧ Same HF H3 ∧ ∀ j e, j < i → es[j]? = some e → WO.okAt C (tab es) cst e.1 e.2.2 = true) ⟨_, _, _, _, rfl, .refl _, fun _ _ h => absurd h (Nat.not_lt_zero _)⟩
      (fun i σ H3 _ ⟨_, _, _, _, _, b, _⟩ => b _ _ hF) ?_ ?_
    · rintro i e σ H3 he ⟨v4, v5, v6, v7, rfl, b3, hok⟩
      have heL := List.mem_of_getElem? he
      have staE := (ndF.st e heL).same b3
      have ge := gd e.1 e.2.2 (tab_mem heL)
      have get0 := get_some_tab ndK heL
      have nd3 := ndF.same b3
      -- more = home_cost(costs, state)
      refine ⟨_, rfl, _, rfl, c, C, e.2.1, e.1, rfl, cF.keep b3, ok, staE, ge, ?_⟩
      dsimp only [gName]
      have big : ∀ {m}, WO.home C e.1 = some m → e.2.2 + m < cst → Q (.bl false) (upd H3 d (NDo P w d es)) := fun hm hl => by
        have q := q _ (un b3)
        rw [least_bad hcst (tab_mem heL) (ok_false1 hm hl)] at q
        exact q
      change tIfS _ _ _ _ _ _
      change tAnd _ _ _ _ _
      refine use_read (b := newBig (WO.home C e.1) e.2.2 cst) (fun Q' hQ => ?_) ?_
      · refine ⟨_, rfl, _, rfl, ifNN (fun m hm => ?_) (fun hm => ?_)⟩
        · rw [hm] at hQ ⊢
          exact ⟨_, rfl, _, rfl, d, e.2.1, e.1, es, e.2.2, rfl, rfl, staE, nd3, get0, _, rfl, _, _, rfl, rfl, _, rfl, _, _, rfl, rfl, _, rfl, hQ⟩
        · rw [hm] at hQ
          exact hQ
      · by_cases hb : newBig (WO.home C e.1) e.2.2 cst = true
        · rw [if_pos hb]
          cases hm : WO.home C e.1 with
          | none =>
            rw [hm] at hb
            cases hb
          | some m =>
            rw [hm] at hb
            exact ⟨b3 _ _ hF, big hm (of_decide_eq_true hb)⟩
        · rw [if_neg hb]
          have good1 : ∀ m, WO.home C e.1 = some m → cst ≤ e.2.2 + m := fun m hm => by
            rw [hm] at hb
            have : ¬ e.2.2 + m < cst := fun z => hb (decide_eq_true z)
            omega
          -- for one, step in steps_from(costs, state)
          refine ⟨_, rfl, _, rfl, c, C, e.2.1, e.1, rfl, cF.keep b3, ok, staE, ge, fun H4 l ps s4 nl4 el4 pp => ⟨l, rfl, ⟨_, SqL.of el4⟩, ?_⟩⟩
          refine for_list (K := K) (a := l) (xs := ps.map V.ref) (fun j σ H5 => ∃ v6 v7, σ = [some (.ref c), some (.ref oa), some (.ref d), some (.int cst), some (.ref e.2.1), some (oV (WO.home C e.1)), v6, v7] ∧ Same H4 H5 ∧ ∀ j' t z, j' < j → (WO.steps C e.1)[j']? = some (t, z) → worse (WO.get (tab es) t) (e.2.2 + z) = false)
            ⟨_, _, rfl, .refl _, fun _ _ _ h => absurd h (Nat.not_lt_zero _)⟩ (fun j σ H5 _ ⟨_, _, _, b, _⟩ => b.seq (SqL.of el4)) ?_ ?_
          · rintro j x σ H5 hx ⟨v6, v7, rfl, b5, hok5⟩
            rw [List.getElem?_map] at hx
            obtain ⟨p, hp, rfl⟩ := Option.map_eq_some_iff.mp hx
            obtain ⟨⟨t, z⟩, hst, a1, m1, m2⟩ := paired_at pp hp
            have sH5 := (b3.trans s4).trans b5
            have nd5 := ndF.same sH5
            have staE5 := (ndF.st e heL).same sH5
            have hmem : (t, z) ∈ WO.steps C e.1 := List.mem_of_getElem? hst
            refine ⟨p, _, rfl, SqT.of (b5 _ _ m1), rfl, _, _, rfl, _, _, rfl, rfl, ?_⟩
            change tIfS _ _ _ _ _ _
            change tOr _ _ _ _ _
            refine use_read (b := worse (WO.get (tab es) t) (e.2.2 + z)) (fun Q' hQ => ?_) ?_
            · refine ⟨_, rfl, _, rfl, a1, d, t, es, rfl, rfl, m2.same b5, nd5, _, rfl, ?_⟩
              cases hg : WO.get (tab es) t with
              | none =>
                rw [hg] at hQ
                exact iteT hQ
              | some v =>
                rw [hg] at hQ
                exact iteF ⟨_, rfl, _, rfl, d, a1, t, es, v, rfl, rfl, m2.same b5, nd5, hg, _, rfl, _, rfl, d, e.2.1, e.1, es, e.2.2, rfl, rfl, staE5, nd5, get0, _, rfl, _, _, rfl, rfl, _, _, rfl, rfl, _, rfl, hQ⟩
            · by_cases hb2 : worse (WO.get (tab es) t) (e.2.2 + z) = true
              · rw [if_pos hb2]
                have q := q _ (un sH5)
                rw [least_bad hcst (tab_mem heL) (ok_false2 hmem hb2)] at q
                exact ⟨sH5 _ _ hF, q⟩
              · rw [if_neg hb2]
                refine ⟨_, _, rfl, b5, fun j' t' z' hj hs' => ?_⟩
                by_cases hji : j' = j
                · subst hji
                  rw [hst] at hs'
                  cases hs'
                  exact Bool.eq_false_iff.mpr hb2
                · exact hok5 j' t' z' (by omega) hs'
          · rintro σ H5 ⟨v6, v7, rfl, b5, hok5⟩
            refine ⟨_, _, _, _, rfl, (b3.trans s4).trans b5, fun j e' hj he' => ?_⟩
            by_cases hji : j = i
            · subst hji
              rw [he] at he'
              cases he'
              refine ok_true good1 fun t z hm => ?_
              obtain ⟨j, hj⟩ := List.mem_iff_getElem?.mp hm
              refine hok5 j t z ?_ hj
              rw [List.length_map, paired_len pp]
              exact (List.getElem?_eq_some_iff.mp hj).1
            · exact hok j e' (by omega) he'
    · rintro σ H3 ⟨v4, v5, v6, v7, rfl, b3, hok⟩
      have q := q _ (un b3)
      rw [least_good hcst hg fun s v hm => ?_] at q
      · exact ⟨b3 _ _ hF, q⟩
      · obtain ⟨e, he, ee⟩ := List.mem_map.mp hm
        cases ee
        obtain ⟨j, hj⟩ := List.mem_iff_getElem?.mp he
        exact hok j e (List.getElem?_eq_some_iff.mp hj).1 hj
end
end W7
end
section
set_option Elab.async false
set_option linter.all false
set_option maxRecDepth 100000
/-! costs_between -/
namespace W7
open PySem PySem.Spec PyProof.Rows L2
theorem EndAt.same {H H' : Hp} {p : Addr} {e : Int} (x : EndAt H p e) (k : Same H H') : EndAt H' p e := k _ _ x
theorem paired_app_get {α β : Type} {R : α → β → Prop} {l : List α} {m : List β} {i : Nat} {a : α} (p : Paired R l m) (h : l[i]? = some a) : ∃ b, m[i]? = some b ∧ R a b := paired_at p h
theorem oV_map {es : List Int} {g : Int → Nat} {i : Nat} {y : V} {e : Int} (h : ((es.map fun e => some ((g e : Nat) : Int)).map oV)[i]? = some y) (he : es[i]? = some e) : y = .int (g e : Nat) := by
  rw [List.getElem?_map, List.getElem?_map, he] at h
  cases h
  rfl
section
variable {P : Program} {w : World} {K : PySem.W.Frag} {mg : Str → Option Value} {base : Heap} {f : Addr} {fd : FuncData} {L : LamT}
theorem scBetween : FnScope ["ends", "home", "distance", "first", "between", "end", "one", "other"] ["ends", "home", "distance"] (defScope sBetween) := ⟨rfl, rfl, rfl, by decide +kernel, rfl, by decide +kernel, by decide +kernel⟩
theorem ok_between {k : Nat} (F : Fun K "costs_between" "costs_between" sBetween f fd) (T : Txt mg) (G : LamOk P w K mg base L k 2 spDist) :
    FnOk P w K mg base CX0 (k + 1) f fd ["ends", "home", "distance"] (spBetween L) := by
  refine F.ok scBetween (fun vs H Q E h => ?_) (fun cdv A outer s H vs Q E hr h => ?_)
  · obtain ⟨_, _, _, _, _, rfl, _⟩ := h
    rfl
  · obtain ⟨l, ps, es, hm, lf, rfl, el, pe, hlen, eh, il, q⟩ := h
    have h2 : ∀ vs H Q E, spDist vs H Q E → vs.length = 2 := fun vs H Q E h => by
      obtain ⟨_, _, _, _, rfl, _⟩ := h
      rfl
    refine ⟨_, pss_cons (ps_set (i := 3) scBetween.nd rfl (.inl rfl) (pe_callTy (tupof7 (K := K) rfl) (by rfl) T.tuple bt_tuple (pa_cons (pe_lc (own := [("end", 5)]) (g := gName 5) (tt := tYes) rfl scBetween.nd (pi_list (pv 0)) (blkOk_by (own := [("end", 5)]) (N := ["ends", "home", "distance", "first", "between", "end", "one", "other"]) (sc := defScope sBetween) (by decide +kernel))
          (fun _ _ _ _ _ => pg_name (i := 5) scBetween.nd rfl (Or.inl rfl)) (fun _ _ _ _ _ => pts_nil) (fun _ _ _ _ _ => pe_callLam (i := 2) G hr rfl (by first | exact Or.inl rfl | exact Or.inr (Or.inl rfl) | exact Or.inr (Or.inr rfl)) (pa_cons (pv 1) (pa_cons (pv 5) pa_nil)) h2)) pa_nil)))
      (pss_cons (ps_set (i := 4) scBetween.nd rfl (.inl rfl) (pe_callTy (tupof7 (K := K) rfl) (by rfl) T.tuple bt_tuple (pa_cons (pe_lc (own := [("one", 6)]) (g := gName 6) (tt := tYes) rfl scBetween.nd (pi_list (pv 0)) (blkOk_by (own := [("one", 6)]) (N := ["ends", "home", "distance", "first", "between", "end", "one", "other"]) (sc := defScope sBetween) (by decide +kernel))
          (fun _ _ _ _ _ => pg_name (i := 6) scBetween.nd rfl (Or.inr rfl)) (fun _ _ _ _ _ => pts_nil) (fun _ _ _ _ _ => pe_callTy (tupof7 (K := K) rfl) (by rfl) T.tuple bt_tuple (pa_cons (pe_lc (wi := iList K (tVar 0)) (own := [("other", 7)]) (g := gName 7) (tt := tYes) (te := tCallLam 2 L spDist (tCons (tVar 6) (tCons (tVar 7) tNil))) rfl scBetween.nd (pi_list (pv 0)) (blkOk_by (own := [("other", 7)]) (N := ["ends", "home", "distance", "first", "between", "end", "one", "other"]) (sc := relS _ (defScope sBetween)) (by decide +kernel))
            (fun _ _ _ _ _ => pg_name (i := 7) scBetween.nd rfl (Or.inl rfl)) (fun _ _ _ _ _ => pts_nil) (fun _ _ _ _ _ => pe_callLam (i := 2) G hr rfl (by first | exact Or.inl rfl | exact Or.inr (Or.inl rfl) | exact Or.inr (Or.inr rfl)) (pa_cons (pv 6) (pa_cons (pv 7) pa_nil)) h2)) pa_nil))) pa_nil)))
      (pss_one (ps_ret (pe_tup (pa_cons (pv 3) (pa_cons (pv 4) (pa_cons (pe_callTy (tupof7 (K := K) rfl) (by rfl) T.tuple bt_tuple (pa_cons (pe_lc (own := [("end", 5)]) (g := gName 5) (tt := tYes) rfl scBetween.nd (pi_list (pv 0)) (blkOk_by (own := [("end", 5)]) (N := ["ends", "home", "distance", "first", "between", "end", "one", "other"]) (sc := defScope sBetween) (by decide +kernel))
          (fun _ _ _ _ _ => pg_name (i := 5) scBetween.nd rfl (Or.inl rfl)) (fun _ _ _ _ _ => pts_nil) (fun _ _ _ _ _ => pe_callLam (i := 2) G hr rfl (by first | exact Or.inl rfl | exact Or.inr (Or.inl rfl) | exact Or.inr (Or.inr rfl)) (pa_cons (pv 5) (pa_cons (pv 1) pa_nil)) h2)) pa_nil)) pa_nil))))))), ?_⟩
    have endOf : ∀ {i : Nat} {x : V}, (ps.map V.ref)[i]? = some x → ∃ p e, x = .ref p ∧ es[i]? = some e ∧ EndAt H p e := fun {i x} hx => by
      rw [List.getElem?_map] at hx
      obtain ⟨p, hp, rfl⟩ := Option.map_eq_some_iff.mp hx
      obtain ⟨e, he, h⟩ := paired_at pe hp
      exact ⟨p, e, rfl, he, h⟩
    have lp := paired_len pe
    -- first = tuple([distance(home, end) for end in ends])
    refine ⟨_, rfl, l, rfl, ⟨_, SqL.of el⟩, fun D1 nD1 => lcL_map ((es.map fun e => some (((3 - e).natAbs : Nat) : Int)).map oV) nD1 (SqL.of el) (by simp [lp]) (by simp; omega) (fun i x y H2 R hx hy sm r => ⟨rfl, ?_⟩) (fun H2 sm hD => ?_)⟩
    · obtain ⟨p, e, rfl, he, hp⟩ := endOf hx
      have ey := oV_map (g := fun e => (3 - e).natAbs) hy he
      subst ey
      exact ⟨lf, rfl, il.same sm, _, rfl, _, rfl, il.same sm, hm, p, 3, e, rfl, eh.same sm, hp.same sm, r⟩
    refine ⟨D1, _, rfl, .inl ⟨SqL.of hD, fun t1 nt1 => ?_⟩⟩
    have s3 := sm.new7 nt1 (.tup ((es.map fun e => some (((3 - e).natAbs : Nat) : Int)).map oV))
    have e3 : (upd H2 t1 (.tup ((es.map fun e => some (((3 - e).natAbs : Nat) : Int)).map oV))) t1 = some (.tup ((es.map fun e => some (((3 - e).natAbs : Nat) : Int)).map oV)) := upd_same
    generalize (upd H2 t1 (.tup ((es.map fun e => some (((3 - e).natAbs : Nat) : Int)).map oV))) = H3 at s3 e3 ⊢
    -- between
    refine ⟨_, rfl, l, rfl, ⟨_, SqL.of (s3 _ _ el)⟩, fun D2 nD2 => ?_⟩
    refine lc_list (K := K) (xs := ps.map V.ref) (fun i H4 => ∃ rs, Same H3 H4 ∧ H4 D2 = some (.lst (rs.map V.ref)) ∧ rs.length = i ∧ Paired (fun r (row : List (Option Int)) => H4 r = some (.tup (row.map oV))) rs ((es.take i).map fun a => es.map fun b => some (((a - b).natAbs : Nat) : Int)))
      ⟨[], same_new nD2 _, upd_same, rfl, .nil⟩ (fun i H4 _ ⟨_, b, _⟩ => b.seq (SqL.of (s3 _ _ el))) ?_ ?_
    · rintro i x H4 hx ⟨rs, b4, e4, l4, p4⟩
      obtain ⟨p, a, rfl, ha, hp⟩ := endOf hx
      have s4 := s3.trans b4
      have hi := (List.getElem?_eq_some_iff.mp ha).1
      refine ⟨rfl, ?_⟩
      refine ⟨_, rfl, l, rfl, ⟨_, SqL.of (s4 _ _ el)⟩, fun D3 nD3 => lcL_map ((es.map fun b => some (((a - b).natAbs : Nat) : Int)).map oV) nD3 (SqL.of (s4 _ _ el)) (by simp [lp]) (by simp; omega) (fun j x y H5 R hx hy sm r => ⟨rfl, ?_⟩) (fun H5 sm hD3 => ?_)⟩
      · obtain ⟨p', b, rfl, hb, hp'⟩ := endOf hx
        have ey := oV_map (g := fun b => (a - b).natAbs) hy hb
        subst ey
        have s5 := s4.trans sm
        exact ⟨lf, rfl, il.same s5, _, rfl, _, rfl, il.same s5, p, p', a, b, rfl, hp.same s5, hp'.same s5, r⟩
      refine ⟨D3, _, rfl, .inl ⟨SqL.of hD3, fun t2 nt2 => ?_⟩⟩
      have c5 := sm.new7 nt2 (.tup ((es.map fun b => some (((a - b).natAbs : Nat) : Int)).map oV))
      have e5 := c5 _ _ e4
      have kt := tups_wr (o := .lst (rs.map V.ref ++ [V.ref t2])) e5
      refine ⟨rs.map V.ref, e5, ?_, rs ++ [t2], (b4.trans c5).wr7 nD2 _, ?_, by simp [l4], ?_⟩
      · rw [List.length_map, l4]
        exact sizeLine_big (by omega)
      · rw [upd_same, List.map_append]
        rfl
      · rw [List.take_add_one, ha, List.map_append]
        exact paired_app (pmap (fun _ _ x => kt _ _ (c5 _ _ x)) p4) (.cons (kt _ _ upd_same) .nil)
    rintro H4 ⟨rs, b4, e4, l4, p4⟩
    rw [List.length_map, lp, List.take_length] at p4
    refine ⟨D2, _, rfl, .inl ⟨SqL.of e4, fun t2 nt2 => ?_⟩⟩
    have s5 := (s3.trans b4).new7 nt2 (.tup (rs.map V.ref))
    have c5 := b4.new7 nt2 (.tup (rs.map V.ref))
    have p5 := pmap (fun _ _ x => same_new nt2 (.tup (rs.map V.ref)) _ _ x) p4
    have e5 : (upd H4 t2 (.tup (rs.map V.ref))) t2 = some (.tup (rs.map V.ref)) := upd_same
    have f5 := c5 _ _ e3
    generalize (upd H4 t2 (.tup (rs.map V.ref))) = H5 at s5 p5 e5 f5 ⊢
    -- the last ones
    refine ⟨_, rfl, _, rfl, _, rfl, l, rfl, ⟨_, SqL.of (s5 _ _ el)⟩, fun D3 nD3 => lcL_map ((es.map fun e => some (((e - 3).natAbs : Nat) : Int)).map oV) nD3 (SqL.of (s5 _ _ el)) (by simp [lp]) (by simp; omega) (fun i x y H6 R hx hy sm r => ⟨rfl, ?_⟩) (fun H6 sm hD => ?_)⟩
    · obtain ⟨p, e, rfl, he, hp⟩ := endOf hx
      have ey := oV_map (g := fun e => (e - 3).natAbs) hy he
      subst ey
      have s6 := s5.trans sm
      exact ⟨lf, rfl, il.same s6, _, rfl, _, rfl, il.same s6, p, hm, e, 3, rfl, hp.same s6, eh.same s6, r⟩
    refine ⟨D3, _, rfl, .inl ⟨SqL.of hD, fun t3 nt3 => ⟨(by show 3 ≤ sizeLine; decide), fun t4 nt4 => ?_⟩⟩⟩
    have c6 := (sm.new7 nt3 (.tup ((es.map fun e => some (((e - 3).natAbs : Nat) : Int)).map oV))).new7 nt4 (.tup [V.ref t1, V.ref t2, V.ref t3])
    refine q _ t4 (s5.trans c6) ⟨t1, t2, t3, rs, upd_same, c6 _ _ f5, ?_, c6 _ _ e5, pmap (fun _ _ x => c6 _ _ x) p5⟩
    rw [upd_ne (ne_of_none upd_same nt4), upd_same]
    rfl
end
end W7
end
section
set_option Elab.async false
set_option linter.all false
set_option maxRecDepth 100000
/-! the law's own drawing -/
namespace W7
open PySem PySem.Spec PyProof.Rows L2
def primes : List Int := [1000003, 1000033, 1000037, 1000039, 1000081, 1000099, 1000117, 1000121, 1000133, 1000151, 1000159, 1000171, 1000183, 1000187, 1000193, 1000199]
theorem prime_at {i : Int} (h0 : 0 ≤ i) (h1 : i < 16) : ∃ p, atI (primes.map V.int) i = some (.int p) ∧ 0 < p := by
  have hl : i.toNat < primes.length := by
    show i.toNat < 16
    omega
  have h := atI_nat (get_map (f := V.int) (List.getElem?_eq_getElem hl))
  rw [show ((i.toNat : Nat) : Int) = i by omega] at h
  refine ⟨_, h, ?_⟩
  have al : ∀ p ∈ primes, 0 < p := by decide
  exact al _ (List.getElem_mem hl)
theorem pow_small {i : Nat} (h : i ≤ 12) : ((1009 : Int) ^ i).natAbs < 2 ^ 121 := by
  have e : ((1009 : Int) ^ i).natAbs = 1009 ^ i := by rw [Int.natAbs_pow]; rfl
  rw [e]
  exact Nat.lt_of_le_of_lt (Nat.pow_le_pow_right (by decide) h) (by decide)
theorem mix_small {a b : Int} (h0 : 0 ≤ a) (h1 : a ≤ 1020000) (h2 : 0 ≤ b) (h3 : b ≤ 1010000) : 0 ≤ a * b ∧ a * b ≤ 1030200000000 := by
  refine ⟨Int.mul_nonneg h0 h2, ?_⟩
  have := Int.mul_le_mul h1 h3 h2 (by decide : (0 : Int) ≤ 1020000)
  omega
section
variable {P : Program} {w : World} {K : PySem.W.Frag} {mg : Str → Option Value} {base : Heap} {f fA fB : Addr} {fd fdA fdB : FuncData}
theorem scCell : FnScope ["_law_script", "_law_k"] ["_law_script", "_law_k"] (defScope sCell) := ⟨rfl, rfl, rfl, by decide +kernel, rfl, by decide +kernel, by decide +kernel⟩
theorem ok_cell {k : Nat} (F : Fun K "_law_cell_at" "_law_cell_at" sCell f fd) (T : Txt mg) : FnOk P w K mg base CX0 (k + 1) f fd ["_law_script", "_law_k"] (spCellAt K) := by
  refine F.ok scCell (fun vs H Q E h => ?_) (fun cdv A outer s H vs Q E hr h => ?_)
  · obtain ⟨_, _, _, rfl, _⟩ := h
    rfl
  · obtain ⟨l, ns, i, rfl, hl, h0, q⟩ := h
    refine ⟨_, pss_cons (ps_if (pt_cmpR op_lt (pv 1) (pe_callB (len7 (K := K) rfl) (by rfl) T.len boot_len (pa_cons (pv 0) pa_nil)) (nomark _)) (pss_one (ps_ret (pe_ix (lst7 (K := K) rfl) (pv 0) (pv 1) (fun _ _ => rfl)))) pss_nil)
      (pss_one (ps_ret pe_int)), ?_⟩
    refine ⟨_, rfl, _, rfl, l, _, rfl, .inl hl, _, _, rfl, rfl, _, rfl, ifd (fun z => ?_) (fun z => q 0)⟩
    have hlt : i.toNat < ns.length := by
      rw [List.length_map] at z
      omega
    have h := atI_nat (get_map (f := V.int) (List.getElem?_eq_getElem hlt))
    rw [show ((i.toNat : Nat) : Int) = i by omega] at h
    exact ⟨_, rfl, _, rfl, l, _, i, _, rfl, rfl, hl, h, q _⟩
theorem scDraw : FnScope ["_law_cell", "_law_k", "_law_bound", "_law_primes"] ["_law_cell", "_law_k", "_law_bound"] (defScope sDraw) := ⟨rfl, rfl, rfl, by decide +kernel, rfl, by decide +kernel, by decide +kernel⟩
theorem ok_draw {k : Nat} (F : Fun K "_law_draw" "_law_draw" sDraw f fd) (T : Txt mg) : FnOk P w K mg base CX0 (k + 1) f fd ["_law_cell", "_law_k", "_law_bound"] spDraw := by
  refine F.ok scDraw (fun vs H Q E h => ?_) (fun cdv A outer s H vs Q E hr h => ?_)
  · obtain ⟨_, _, _, rfl, _⟩ := h
    rfl
  · obtain ⟨z, i, b, rfl, hz1, hz2, hi1, hi2, hb, q⟩ := h
    refine ⟨_, pss_cons (ps_set (i := 3) scDraw.nd rfl (.inl rfl) (pe_tup (pa_cons pe_int (pa_cons pe_int (pa_cons pe_int (pa_cons pe_int (pa_cons pe_int (pa_cons pe_int (pa_cons pe_int (pa_cons pe_int (pa_cons pe_int (pa_cons pe_int (pa_cons pe_int (pa_cons pe_int (pa_cons pe_int (pa_cons pe_int (pa_cons pe_int (pa_cons pe_int pa_nil))))))))))))))))))
      (pss_one (ps_ret (pe_op op_mod (pe_op op_mod (pe_callTy call_int1 (by rfl) T.int bt_int (pa_cons (pe_op op_add (pe_op op_mul (pv 0) pe_int) (pe_op op_mul (pv 1) pe_int)) pa_nil)) (pe_ix (tup7 (K := K) rfl) (pv 3) (pe_op op_mod (pe_callTy call_int1 (by rfl) T.int bt_int (pa_cons (pv 1) pa_nil)) pe_int) (fun _ _ => rfl))) (pv 2)))), ?_⟩
    refine ⟨(by show 16 ≤ sizeLine; decide), fun p np => ?_⟩
    obtain ⟨pr, hpr, hp0⟩ := prime_at (i := i % 16) (by omega) (by omega)
    refine ⟨_, rfl, _, _, rfl, rfl, .inl ⟨hz1, hz2⟩, _, rfl, _, _, rfl, rfl, .inr ⟨by decide, by decide⟩, _, _, rfl, rfl, .inl ⟨_, rfl, _, rfl, _, rfl, .inl ⟨_, rfl, _, _, rfl, rfl, (by show (0 : Int) < 16; decide), p, primes.map V.int, i % 16, _, rfl, rfl, SqT.of upd_same, hpr, _, _, rfl, rfl, hp0, _, rfl, _, _, rfl, rfl, hb, ?_⟩⟩⟩
    exact q _ _ (same_new np _) (Int.emod_nonneg _ (by omega)) (Int.emod_lt_of_pos _ hb)
theorem scNumber : FnScope ["_law_cell", "_law_k", "_law_bound", "_law_power", "_law_lap", "_law_remains", "_law_small"] ["_law_cell", "_law_k", "_law_bound"] (defScope sNumber) := ⟨rfl, rfl, rfl, by decide +kernel, rfl, by decide +kernel, by decide +kernel⟩
theorem ok_number {k : Nat} (F : Fun K "_law_number" "_law_number" sNumber f fd) (T : Txt mg) (G : FnOk P w K mg base CX0 k fA fdA ["_law_cell", "_law_k", "_law_bound"] spDraw) (gA : mg "_law_draw" = some (.ref fA)) (kA : PySem.W.keepIn K (.ref fA) = true) (bA : Binds K fdA ["_law_cell", "_law_k", "_law_bound"] []) :
    FnOk P w K mg base CX0 (k + 1) f fd ["_law_cell", "_law_k", "_law_bound"] spNumber := by
  refine F.ok scNumber (fun vs H Q E h => ?_) (fun cdv A outer s H vs Q E hr h => ?_)
  · obtain ⟨_, _, _, rfl, _⟩ := h
    rfl
  · obtain ⟨z, i, b, rfl, hi1, hi2, hb, q⟩ := h
    refine ⟨_, pss_cons (ps_set (i := 3) scNumber.nd rfl (.inl rfl) pe_int)
      (pss_cons (ps_for PassesOwn.never rfl (pi_range1 (by rfl) T.range (pa_cons (pe_op op_mod (pe_callTy call_int1 (by rfl) T.int bt_int (pa_cons (pv 1) pa_nil)) pe_int) pa_nil)) (pg_name (i := 4) scNumber.nd rfl (.inl rfl)) (pss_one (ps_set (i := 3) scNumber.nd rfl (.inl rfl) (pe_op op_mul (pv 3) pe_int))))
      (pss_cons (ps_set (i := 5) scNumber.nd rfl (.inl rfl) (pe_op op_fdivW (pe_op op_sub (pv 0) (pe_op op_pow pe_int pe_int)) (pv 3)))
      (pss_cons (ps_if (pt_cmpR op_gt (pv 5) pe_int (nomark _)) (pss_one (ps_ret (pe_op op_mod (pe_op op_mod (pe_callTy call_int1 (by rfl) T.int bt_int (pa_cons (pv 5) pa_nil)) pe_int) (pv 2)))) pss_nil)
      (pss_cons (ps_set (i := 6) scNumber.nd rfl (.inl rfl) (pe_op op_mod (pe_callTy call_int1 (by rfl) T.int bt_int (pa_cons (pv 0) pa_nil)) pe_int))
      (pss_one (ps_ret (pe_op op_mod (pe_call G hr (by rfl) gA kA bA .nil pass0 (pa_cons (pe_op op_mul (pe_op op_add (pv 6) (pe_op op_mul pe_int (pv 1))) (pe_op op_add (pe_op op_add (pv 6) (pe_op op_mul pe_int (pv 1))) pe_int)) (pa_cons (pe_op op_add (pe_op op_mod (pe_callTy call_int1 (by rfl) T.int bt_int (pa_cons (pv 1) pa_nil)) pe_int) pe_int) (pa_cons pe_int pa_nil)))) (pv 2)))))))), ?_⟩
    have hm24 : i % 24 = i := by omega
    refine ⟨_, rfl, .inl ⟨_, rfl, _, _, rfl, rfl, (by show (0 : Int) < 24; decide), _, rfl, (by show -(2 ^ 62) ≤ i % 24; omega), (by show i % 24 < 2 ^ 62; omega), ?_⟩⟩
    rw [hm24]
    refine for_range (fun j σ H' => ∃ v4, σ = [some (.int z), some (.int i), some (.int b), some (.int ((1009 : Int) ^ j)), v4, none, none] ∧ H' = H) ⟨none, rfl, rfl⟩ ?_ ?_
    · rintro j σ H' hj ⟨v4, rfl, rfl⟩
      refine ⟨_, rfl, _, _, rfl, rfl, .inr ⟨by decide, by decide⟩, some (.int (0 + (j : Int))), ?_, rfl⟩
      rw [Int.pow_succ]
      rfl
    · rintro σ H' ⟨v4, rfl, rfl⟩
      -- remains
      have hp : (0 : Int) < (1009 : Int) ^ i.toNat := Int.pow_pos (by decide)
      refine ⟨_, rfl, _, _, rfl, rfl, ⟨by decide, by decide, by decide⟩, _, _, rfl, rfl, _, rfl, _, _, rfl, rfl, wide_div hp (pow_small (by omega)) (by decide) (by decide), ?_⟩
      refine ⟨_, rfl, _, _, rfl, rfl, _, rfl, ifd (fun _ => ?_) (fun _ => ?_)⟩
      · refine ⟨_, rfl, .inl ⟨_, rfl, _, _, rfl, rfl, (by show (0 : Int) < 1009; decide), _, rfl, _, _, rfl, rfl, hb, ?_⟩⟩
        exact q _ _ (.refl _) (Int.emod_nonneg _ (by omega)) (Int.emod_lt_of_pos _ hb)
      · refine ⟨_, rfl, .inl ⟨_, rfl, _, _, rfl, rfl, (by show (0 : Int) < 1000003; decide), ?_⟩⟩
        have s0 : 0 ≤ z % 1000003 := Int.emod_nonneg _ (by decide)
        have s1 : z % 1000003 < 1000003 := Int.emod_lt_of_pos _ (by decide)
        have mx := mix_small (a := z % 1000003 + 977 * i) (b := z % 1000003 + 31 * i + 5) (by omega) (by omega) (by omega) (by omega)
        refine ⟨_, rfl, _, rfl, _, _, rfl, rfl, .inl ⟨by decide, by decide⟩, _, _, rfl, rfl, _, rfl, _, rfl, _, _, rfl, rfl, .inl ⟨by decide, by decide⟩, _, _, rfl, rfl, _, _, rfl, rfl, _, _, rfl, rfl, .inl ⟨by show -(2 ^ 64) < z % 1000003 + 977 * i; omega, by show z % 1000003 + 977 * i < 2 ^ 64; omega⟩, _, rfl, .inl ⟨_, rfl, _, _, rfl, rfl, (by show (0 : Int) < 9; decide), _, _, rfl, rfl, ?_⟩⟩
        refine ⟨_, _, _, rfl, by omega, by omega, by omega, by omega, by decide, fun H' r sH h0 h1 => ⟨_, rfl, _, _, rfl, rfl, hb, ?_⟩⟩
        exact q _ _ sH (Int.emod_nonneg _ (by omega)) (Int.emod_lt_of_pos _ hb)
theorem scNext : FnScope ["_law_draw_here", "_law_bound", "_law_at", "_law_cell"] ["_law_draw_here", "_law_bound"] (defScope sNext) := ⟨rfl, rfl, rfl, by decide +kernel, rfl, by decide +kernel, by decide +kernel⟩
theorem ok_next {k : Nat} (F : Fun K "_law_next" "_law_next" sNext f fd) (T : Txt mg)
    (GA : FnOk P w K mg base CX0 k fA fdA ["_law_script", "_law_k"] (spCellAt K)) (gA : mg "_law_cell_at" = some (.ref fA)) (kA : PySem.W.keepIn K (.ref fA) = true) (bA : Binds K fdA ["_law_script", "_law_k"] [])
    (GB : FnOk P w K mg base CX0 k fB fdB ["_law_cell", "_law_k", "_law_bound"] spNumber) (gB : mg "_law_number" = some (.ref fB)) (kB : PySem.W.keepIn K (.ref fB) = true) (bB : Binds K fdB ["_law_cell", "_law_k", "_law_bound"] []) :
    FnOk P w K mg base CX0 (k + 1) f fd ["_law_draw_here", "_law_bound"] (spNext K) := by
  refine F.ok scNext (fun vs H Q E h => ?_) (fun cdv A outer s H vs Q E hr h => ?_)
  · obtain ⟨_, _, _, rfl, _⟩ := h
    rfl
  · obtain ⟨d, sc, b, rfl, ⟨ns, z, m, hd, hs, hne, hz, hm⟩, hb, q⟩ := h
    refine ⟨_, pss_cons (ps_asg (pe_op op_add (pe_ix (lst7 (K := K) rfl) (pv 0) pe_int (fun _ _ => rfl)) pe_int) (pg_sub (pv 0) pe_int set_list))
      (pss_cons (ps_set (i := 2) scNext.nd rfl (.inl rfl) (pe_op op_fdiv (pe_ix (lst7 (K := K) rfl) (pv 0) pe_int (fun _ _ => rfl)) pe_int))
      (pss_cons (ps_set (i := 3) scNext.nd rfl (.inl rfl) (pe_op op_add (pe_call GA hr (by rfl) gA kA bA .nil pass0 (pa_cons (pe_ix (lst7 (K := K) rfl) (pv 0) pe_int (fun _ _ => rfl)) (pa_cons (pe_op op_add (pe_ix (lst7 (K := K) rfl) (pv 0) pe_int (fun _ _ => rfl)) (pv 2)) pa_nil))) (pe_op op_mul pe_int (pv 2))))
      (pss_one (ps_ret (pe_call GB hr (by rfl) gB kB bB .nil pass0 (pa_cons (pv 3) (pa_cons (pe_op op_add (pe_op op_mod (pe_callTy call_int1 (by rfl) T.int bt_int (pa_cons (pe_ix (lst7 (K := K) rfl) (pv 0) pe_int (fun _ _ => rfl)) pa_nil)) pe_int) pe_int) (pa_cons (pv 1) pa_nil)))))))), ?_⟩
    have e1 : (upd H d (.lst [.ref sc, .int z, .int (m + 1)])) d = some (.lst [.ref sc, .int z, .int (m + 1)]) := upd_same
    have b1 : But H (upd H d (.lst [.ref sc, .int z, .int (m + 1)])) d := fun b o n h => by rw [upd_ne n]; exact h
    refine ⟨_, rfl, d, _, 2, _, rfl, rfl, SqL.of hd, rfl, _, _, rfl, rfl, _, rfl, d, _, 2, 2, rfl, rfl, hd, rfl, ?_⟩
    rw [show ([.ref sc, .int z, .int m] : List V).set 2 (.int (m + 1)) = [.ref sc, .int z, .int (m + 1)] from rfl]
    have hs1 := b1.seq hne hs
    generalize (upd H d (.lst [.ref sc, .int z, .int (m + 1)])) = H1 at e1 b1 hs1 ⊢
    refine ⟨_, rfl, d, _, 2, _, rfl, rfl, SqL.of e1, rfl, _, _, rfl, rfl, ⟨by decide, by decide⟩, ?_⟩
    refine ⟨_, rfl, d, _, 0, _, rfl, rfl, SqL.of e1, rfl, _, rfl, d, _, 1, _, rfl, rfl, SqL.of e1, rfl, _, rfl, _, _, rfl, rfl, ?_⟩
    refine ⟨sc, ns, z + (m + 1) / 12, rfl, hs1, by omega, fun i => ⟨_, rfl, _, _, rfl, rfl, .inl ⟨by decide, by decide⟩, _, _, rfl, rfl, ?_⟩⟩
    refine ⟨_, rfl, _, rfl, d, _, 2, _, rfl, rfl, SqL.of e1, rfl, .inl ⟨_, rfl, _, _, rfl, rfl, (by show (0 : Int) < 12; decide), _, _, rfl, rfl, _, rfl, ?_⟩⟩
    refine ⟨_, _, b, rfl, by omega, by omega, hb, fun H' r sH h0 h1 => q H' r (b1.trans (.of sH)) ?_ h0 h1⟩
    exact DrawAt.same (sc := sc) ⟨ns, z, m + 1, e1, hs1, hne, hz, by omega⟩ sH
theorem scPick : FnScope ["_law_draw_here", "_law_things"] ["_law_draw_here", "_law_things"] (defScope sPick) := ⟨rfl, rfl, rfl, by decide +kernel, rfl, by decide +kernel, by decide +kernel⟩
theorem ok_pick {k : Nat} (F : Fun K "_law_pick" "_law_pick" sPick f fd) (T : Txt mg)
    (GA : FnOk P w K mg base CX0 k fA fdA ["_law_draw_here", "_law_bound"] (spNext K)) (gA : mg "_law_next" = some (.ref fA)) (kA : PySem.W.keepIn K (.ref fA) = true) (bA : Binds K fdA ["_law_draw_here", "_law_bound"] []) :
    FnOk P w K mg base CX0 (k + 1) f fd ["_law_draw_here", "_law_things"] (spPick K) := by
  refine F.ok scPick (fun vs H Q E h => ?_) (fun cdv A outer s H vs Q E hr h => ?_)
  · obtain ⟨_, _, _, _, rfl, _⟩ := h
    rfl
  · obtain ⟨d, sc, l, xs, rfl, hd, hne, hl, hx, q⟩ := h
    refine ⟨_, pss_one (ps_ret (pe_ix (lst7 (K := K) rfl) (pv 1) (pe_call GA hr (by rfl) gA kA bA .nil pass0 (pa_cons (pv 0) (pa_cons (pe_callB (len7 (K := K) rfl) (by rfl) T.len boot_len (pa_cons (pv 1) pa_nil)) pa_nil))) (fun _ _ => rfl))), ?_⟩
    have h0 : 0 < xs.length := List.length_pos_iff.mpr hx
    refine ⟨_, rfl, _, rfl, _, rfl, l, _, rfl, .inl hl, d, sc, _, rfl, hd, by omega, fun H' r bH hD r0 r1 => ?_⟩
    have hi : r.toNat < xs.length := by omega
    have h := atI_nat (List.getElem?_eq_getElem hi)
    rw [show ((r.toNat : Nat) : Int) = r by omega] at h
    exact ⟨l, xs, r, _, rfl, rfl, bH.seq hne hl, h, q H' _ bH hD (List.getElem_mem hi)⟩
end
end W7
end
section
set_option Elab.async false
set_option linter.all false
set_option maxRecDepth 100000
/-! _law_costs -/
namespace W7
open PySem PySem.Spec PyProof.Rows L2
theorem DrawAt.tups {K : PySem.W.Frag} {H H' : Hp} {d sc : Addr} (x : DrawAt K H d sc) (b : But H H' d) : ∀ a xs, H a = some (.tup xs) → H' a = some (.tup xs) := fun a xs e => b a _ (fun z => by
  obtain ⟨ns, z', m, h1, _⟩ := x
  rw [z, h1] at e
  cases e) e
theorem DrawAt.lst_ne {K : PySem.W.Frag} {H : Hp} {d sc a : Addr} (x : DrawAt K H d sc) (h : H a = none) : a ≠ d := fun z => x.ne h z.symm
/-- [pick for turn in range] -/
theorem lc_pick {K : PySem.W.Frag} {lo : Int} {n : Nat} {g : TG} {te : TE} {vs : List Nat} {σ : L2.St} {H1 : Hp} {D d sc : Addr} {Qd : Hp → Prop} (cs : List (Option Int)) (hn : n ≤ 1000) (hD : H1 D = none) (dr : DrawAt K H1 d sc)
    (hs : ∀ (x : V) (H : Hp) (R : V → Hp → Prop), DrawAt K H d sc → (∀ H' c, But H H' d → DrawAt K H' d sc → c ∈ cs → R (oV c) H') → g x (wipe σ vs) H fun σ2 H2 => wipe σ2 vs = wipe σ vs ∧ te σ2 H2 R)
    (hd : ∀ H (os : List (Option Int)), But H1 H d → DrawAt K H d sc → H D = some (.lst (os.map oV)) → os.length = n → (∀ o ∈ os, o ∈ cs) → Qd H) :
    ∃ W : Nat → Nat → Hp → Prop, (∃ m, W 0 m (upd H1 D (.lst []))) ∧ ∀ i m H, W i m H →
      ((Itr lo n).stop i H ∧ Qd H) ∨ ((Itr lo n).go i H ∧ ∃ Nx : Hp → Prop, (∀ H', Nx H' → ∃ m', m' < m ∧ W (i + 1) m' H') ∧ ∀ x H', (Itr lo n).yld i H x H' → g x (wipe σ vs) H' fun σ2 H2 => wipe σ2 vs = wipe σ vs ∧ tYes σ2 H2 fun b H3 =>
        if b = true then te σ2 H3 fun y H4 => ∃ acc, H4 D = some (.lst acc) ∧ acc.length < sizeLine ∧ Nx (upd H4 D (.lst (acc ++ [y]))) else Nx H3) := by
  refine lc_range (fun i H => ∃ os : List (Option Int), But H1 H d ∧ DrawAt K H d sc ∧ H D = some (.lst (os.map oV)) ∧ os.length = i ∧ ∀ o ∈ os, o ∈ cs) ⟨[], (But.refl H1 d).wr hD _, dr.wr dr (.refl _ _) hD _, upd_same, rfl, fun _ h => nomatch h⟩ ?_ fun H ⟨os, a, b, c, e, f⟩ => hd H os a b c e f
  rintro i H hi ⟨os, b1, d1, e1, l1, c1⟩
  refine hs _ H (fun y H4 => ∃ acc, H4 D = some (.lst acc) ∧ acc.length < sizeLine ∧ ∃ os : List (Option Int), But H1 (upd H4 D (.lst (acc ++ [y]))) d ∧ DrawAt K (upd H4 D (.lst (acc ++ [y]))) d sc ∧ (upd H4 D (.lst (acc ++ [y]))) D = some (.lst (os.map oV)) ∧ os.length = i + 1 ∧ ∀ o ∈ os, o ∈ cs) d1 fun H' c b2 d2 hc => ?_
  have b3 := b1.trans b2
  refine ⟨_, b2 _ _ (dr.lst_ne hD) e1, ?_, os ++ [c], b3.wr hD _, dr.wr d2 b3 hD _, ?_, by simp [l1], fun o ho => ?_⟩
  · rw [List.length_map, l1]
    exact sizeLine_big (by omega)
  · rw [upd_same, List.map_append]
    rfl
  · rcases List.mem_append.mp ho with z | z
    · exact c1 o z
    · rw [List.mem_singleton.mp z]
      exact hc
def cs1 : List (Option Int) := [some 0, some 1, some 2, some 3, some 5, some 8, none, some 9]
def cs2 : List (Option Int) := [some 0, some 1, some 2, some 4, some 7, some 9, some 9, none]
def cs3 : List (Option Int) := [some 0, some 1, some 2, some 6, none]
theorem cs_pos {cs : List (Option Int)} (h : (cs.all fun o => match o with | none => true | some c => decide (0 ≤ c)) = true) {os : List (Option Int)} (hs : ∀ o ∈ os, o ∈ cs) : ∀ c, some c ∈ os → 0 ≤ c := fun c hc => by
  have := List.all_eq_true.mp h _ (hs _ hc)
  exact of_decide_eq_true this
section
variable {P : Program} {w : World} {K : PySem.W.Frag} {mg : Str → Option Value} {base : Heap} {f fA fB : Addr} {fd fdA fdB : FuncData}
theorem scLCosts : FnScope ["_law_draw_here", "_law_many", "_law_row", "_law_rows", "_law_turn", "_law_end"] ["_law_draw_here"] (defScope sLCosts) := ⟨rfl, rfl, rfl, by decide +kernel, rfl, by decide +kernel, by decide +kernel⟩
theorem ok_lcosts {k : Nat} (F : Fun K "_law_costs" "_law_costs" sLCosts f fd) (T : Txt mg)
    (GA : FnOk P w K mg base CX0 k fA fdA ["_law_draw_here", "_law_bound"] (spNext K)) (gA : mg "_law_next" = some (.ref fA)) (kA : PySem.W.keepIn K (.ref fA) = true) (bA : Binds K fdA ["_law_draw_here", "_law_bound"] [])
    (GB : FnOk P w K mg base CX0 k fB fdB ["_law_draw_here", "_law_things"] (spPick K)) (gB : mg "_law_pick" = some (.ref fB)) (kB : PySem.W.keepIn K (.ref fB) = true) (bB : Binds K fdB ["_law_draw_here", "_law_things"] []) :
    FnOk P w K mg base CX0 (k + 1) f fd ["_law_draw_here"] (spLCosts K) := by
  refine F.ok scLCosts (fun vs H Q E h => ?_) (fun cdv A outer s H vs Q E hr h => ?_)
  · obtain ⟨_, _, rfl, _⟩ := h
    rfl
  · obtain ⟨d, sc, rfl, dr, q⟩ := h
    refine ⟨_, pss_cons (ps_set (i := 1) scLCosts.nd rfl (.inr rfl) (pe_op op_mul pe_int (pe_call GA hr (by rfl) gA kA bA .nil pass0 (pa_cons (pv 0) (pa_cons pe_int pa_nil)))))
      (pss_cons (ps_setLc (i := 2) (own := [("_law_turn", 4)]) (g := gName 4) (tt := tYes) rfl scLCosts.nd rfl rfl (sw_true rfl rfl rfl (by decide +kernel)) (pi_range1 (by rfl) T.range (pa_cons (pv 1) pa_nil))
          (blkOk_by (own := [("_law_turn", 4)]) (N := ["_law_draw_here", "_law_many", "_law_row", "_law_rows", "_law_turn", "_law_end"]) (sc := defScope sLCosts) (by decide +kernel)) (fun _ _ _ _ _ => pg_name (i := 4) scLCosts.nd rfl (Or.inl rfl)) (fun _ _ _ _ _ => pts_nil)
          (fun _ _ _ _ _ => pe_call GB hr (by rfl) gB kB bB .nil pass0 (pa_cons (pv 0) (pa_cons (pe_lst (pa_cons pe_int (pa_cons pe_int (pa_cons pe_int (pa_cons pe_int (pa_cons pe_int (pa_cons pe_int (pa_cons pe_non (pa_cons pe_int pa_nil))))))))) pa_nil))))
      (pss_cons (ps_set (i := 3) scLCosts.nd rfl (.inl rfl) (pe_callTy (tupof7 (K := K) rfl) (by rfl) T.tuple bt_tuple (pa_cons (pe_lc (own := [("_law_end", 5)]) (g := gName 5) (tt := tYes) rfl scLCosts.nd (pi_range1 (by rfl) T.range (pa_cons (pv 1) pa_nil))
          (blkOk_by (own := [("_law_end", 5)]) (N := ["_law_draw_here", "_law_many", "_law_row", "_law_rows", "_law_turn", "_law_end"]) (sc := defScope sLCosts) (by decide +kernel)) (fun _ _ _ _ _ => pg_name (i := 5) scLCosts.nd rfl (Or.inl rfl)) (fun _ _ _ _ _ => pts_nil)
          (fun _ _ _ _ _ => pe_callTy (tupof7 (K := K) rfl) (by rfl) T.tuple bt_tuple (pa_cons (pe_lc (wi := iRng1 (tCons (tVar 1) tNil)) (own := [("_law_turn", 4)]) (g := gName 4) (tt := tYes) (te := _) rfl scLCosts.nd (pi_range1 (by rfl) T.range (pa_cons (pv 1) pa_nil))
            (blkOk_by (own := [("_law_turn", 4)]) (N := ["_law_draw_here", "_law_many", "_law_row", "_law_rows", "_law_turn", "_law_end"]) (sc := relS _ (defScope sLCosts)) (by decide +kernel)) (fun _ _ _ _ _ => pg_name (i := 4) scLCosts.nd rfl (Or.inl rfl)) (fun _ _ _ _ _ => pts_nil)
            (fun _ _ _ _ _ => pe_call GB hr (by rfl) gB kB bB .nil pass0 (pa_cons (pv 0) (pa_cons (pe_lst (pa_cons pe_int (pa_cons pe_int (pa_cons pe_int (pa_cons pe_int (pa_cons pe_int (pa_cons pe_int (pa_cons pe_int (pa_cons pe_non pa_nil))))))))) pa_nil)))) pa_nil))) pa_nil)))
      (pss_one (ps_ret (pe_tup (pa_cons (pe_callTy (tupof7 (K := K) rfl) (by rfl) T.tuple bt_tuple (pa_cons (pv 2) pa_nil)) (pa_cons (pv 3) (pa_cons (pe_callTy (tupof7 (K := K) rfl) (by rfl) T.tuple bt_tuple (pa_cons (pe_lc (own := [("_law_turn", 4)]) (g := gName 4) (tt := tYes) rfl scLCosts.nd (pi_range1 (by rfl) T.range (pa_cons (pv 1) pa_nil))
          (blkOk_by (own := [("_law_turn", 4)]) (N := ["_law_draw_here", "_law_many", "_law_row", "_law_rows", "_law_turn", "_law_end"]) (sc := defScope sLCosts) (by decide +kernel)) (fun _ _ _ _ _ => pg_name (i := 4) scLCosts.nd rfl (Or.inl rfl)) (fun _ _ _ _ _ => pts_nil)
          (fun _ _ _ _ _ => pe_call GB hr (by rfl) gB kB bB .nil pass0 (pa_cons (pv 0) (pa_cons (pe_lst (pa_cons pe_int (pa_cons pe_int (pa_cons pe_int (pa_cons pe_int (pa_cons pe_non pa_nil)))))) pa_nil)))) pa_nil)) pa_nil)))))))), ?_⟩
    -- many = 2 * next(.., 4)
    refine ⟨_, rfl, d, sc, 4, rfl, dr, by decide, fun H1 r b1 d1 r0 r1 => ⟨_, _, rfl, rfl, .inl ⟨by decide, by decide⟩, ?_⟩⟩
    have hn : (2 * r).toNat = 2 * r.toNat := by omega
    have hn3 : r.toNat ≤ 3 := by omega
    have pick : ∀ {cs : List (Option Int)} {H' : Hp} {xs : List V} {R : V → Hp → Prop}, xs = cs.map oV → xs ≠ [] → DrawAt K H' d sc → (∀ H'' c, But H' H'' d → DrawAt K H'' d sc → c ∈ cs → R (oV c) H'') → ∀ l, H' l = none → spPick K [.ref d, .ref l] (upd H' l (.lst xs)) R E0 := fun {cs H' xs R} ex nx dr' hR l nl =>
      ⟨d, sc, l, xs, rfl, dr'.same (same_new nl _), dr'.lst_ne nl, SqL.of upd_same, nx, fun H'' x b2 d2 hx => by
        rw [ex] at hx
        obtain ⟨c, hc, rfl⟩ := List.mem_map.mp hx
        exact hR H'' c ((But.of (same_new nl _)).trans b2) d2 hc⟩
    -- row
    refine ⟨_, rfl, _, rfl, by omega, by omega, fun D1 nD1 => lc_pick cs1 (by omega) nD1 d1 (fun x H' R dr' hR => ⟨rfl, ?_⟩) (fun H2 os1 b2 d2 e2 l2 c2 => ?_)⟩
    · exact ⟨_, rfl, (by show 8 ≤ sizeLine; decide), fun l nl => pick (cs := cs1) rfl (by simp [cs1]) dr' hR l nl⟩
    have b2 := b1.trans b2
    rw [hn] at l2
    -- rows
    refine ⟨_, rfl, _, rfl, by omega, by omega, fun D2 nD2 => ?_⟩
    refine lc_range (fun i H' => ∃ rs rows, But H2 H' d ∧ DrawAt K H' d sc ∧ H' D2 = some (.lst (rs.map V.ref)) ∧ rs.length = i ∧ Paired (fun r (row : List (Option Int)) => H' r = some (.tup (row.map oV))) rs rows ∧ (∀ row ∈ rows, row.length = 2 * r.toNat) ∧ ∀ row ∈ rows, ∀ o ∈ row, o ∈ cs2)
      ⟨[], [], (But.refl H2 d).wr nD2 _, d2.wr d2 (.refl _ _) nD2 _, upd_same, rfl, .nil, (fun _ h => nomatch h), (fun _ h => nomatch h)⟩ ?_ ?_
    · rintro i H' hi ⟨rs, rows, b3, d3, e3, l3, p3, s3, c3⟩
      refine ⟨rfl, ?_⟩
      refine ⟨_, rfl, _, rfl, by omega, by omega, fun D3 nD3 => lc_pick cs2 (by omega) nD3 d3 (fun x H'' R dr' hR => ⟨rfl, ?_⟩) (fun H4 os b4 d4 e4 l4 c4 => ?_)⟩
      · exact ⟨_, rfl, (by show 8 ≤ sizeLine; decide), fun l nl => pick (cs := cs2) rfl (by simp [cs2]) dr' hR l nl⟩
      refine ⟨D3, _, rfl, .inl ⟨SqL.of e4, fun t nt => ?_⟩⟩
      have bt := b4.new nt (.tup (os.map oV))
      have dt := d4.same (same_new nt (.tup (os.map oV)))
      have et := bt _ _ (d2.lst_ne nD2) e3
      have bb := b3.trans bt
      refine ⟨rs.map V.ref, et, ?_, rs ++ [t], rows ++ [os], bb.wr nD2 _, d2.wr dt bb nD2 _, ?_, by simp [l3], ?_, ?_, ?_⟩
      · rw [List.length_map, l3]
        exact sizeLine_big (by omega)
      · rw [upd_same, List.map_append]
        rfl
      · have kt := tups_wr (o := .lst (rs.map V.ref ++ [V.ref t])) et
        exact paired_app (pmap (fun _ _ x => kt _ _ (d3.tups bt _ _ x)) p3) (.cons (kt _ _ upd_same) .nil)
      · intro row hrow
        rcases List.mem_append.mp hrow with z | z
        · exact s3 row z
        · rw [List.mem_singleton.mp z, l4, hn]
      · intro row hrow
        rcases List.mem_append.mp hrow with z | z
        · exact c3 row z
        · rw [List.mem_singleton.mp z]
          exact c4
    rintro H3 ⟨rs, rows, b3, d3, e3, l3, p3, s3, c3⟩
    refine ⟨D2, _, rfl, .inl ⟨SqL.of e3, fun t2 nt2 => ?_⟩⟩
    have bt := b3.new nt2 (.tup (rs.map V.ref))
    have dt := d3.same (same_new nt2 (.tup (rs.map V.ref)))
    have p4 := pmap (fun _ _ x => same_new nt2 (.tup (rs.map V.ref)) _ _ x) p3
    have et : (upd H3 t2 (.tup (rs.map V.ref))) t2 = some (.tup (rs.map V.ref)) := upd_same
    have e1' := bt _ _ (d1.lst_ne nD1) e2
    have b4 := b2.trans bt
    generalize (upd H3 t2 (.tup (rs.map V.ref))) = H4 at bt dt p4 et e1' b4 ⊢
    -- return
    refine ⟨_, rfl, D1, _, rfl, .inl ⟨SqL.of e1', fun t1 nt1 => ⟨_, rfl, ?_⟩⟩⟩
    have dt1 := dt.same (same_new nt1 (.tup (os1.map oV)))
    refine ⟨_, rfl, _, rfl, by omega, by omega, fun D3 nD3 => lc_pick cs3 (by omega) nD3 dt1 (fun x H'' R dr' hR => ⟨rfl, ?_⟩) (fun H5 os3 b5 d5 e5 l5 c5 => ?_)⟩
    · exact ⟨_, rfl, (by show 5 ≤ sizeLine; decide), fun l nl => pick (cs := cs3) rfl (by simp [cs3]) dr' hR l nl⟩
    refine ⟨D3, _, rfl, .inl ⟨SqL.of e5, fun t3 nt3 => ⟨(by show 3 ≤ sizeLine; decide), fun t4 nt4 => ?_⟩⟩⟩
    have c6 := (same_new nt3 (.tup (os3.map oV))).new7 nt4 (.tup [V.ref t1, V.ref t2, V.ref t3])
    have k45 := dt1.tups b5
    have s1 := same_new nt1 (.tup (os1.map oV))
    rw [hn] at l5
    refine q _ t4 ⟨r.toNat, os1, rows, os3⟩ (((b4.trans (.of s1)).trans b5).trans (.of c6)) (d5.same c6) ⟨t1, t2, t3, rs, upd_same, c6 _ _ (k45 _ _ upd_same), ?_, c6 _ _ (k45 _ _ (s1 _ _ et)), pmap (fun _ _ x => c6 _ _ (k45 _ _ (s1 _ _ x))) p4⟩ ⟨hn3, l2, ?_, s3, l5, cs_pos (cs := cs1) (by decide) c2, fun row hrow => cs_pos (cs := cs2) (by decide) (c3 row hrow), cs_pos (cs := cs3) (by decide) c5⟩
    · rw [upd_ne (ne_of_none upd_same nt4), upd_same]
    · have := paired_len p4
      show rows.length = 2 * r.toNat
      omega
end
end W7
end
section
set_option Elab.async false
set_option linter.all false
set_option maxRecDepth 100000
/-! _law_orders -/
namespace WO
def ordOne (k : Nat) (left : List Int) (one : Int) : List (List Int) := (orders k (left.filter fun x => decide (x ≠ one))).map ((2 * one) :: ·) ++ (orders k (left.filter fun x => decide (x ≠ one))).map ((2 * one + 1) :: ·)
theorem orders_succ (k : Nat) (left : List Int) : orders (k + 1) left = left.flatMap (ordOne k left) := rfl
theorem flat_len {α β : Type} {f : α → List β} {B : Nat} : ∀ {l : List α}, (∀ x ∈ l, (f x).length ≤ B) → (l.flatMap f).length ≤ l.length * B
  | [], _ => by simp
  | x :: l, h => by
    have a := h x List.mem_cons_self
    have b := flat_len (f := f) (B := B) (l := l) fun y hy => h y (List.mem_cons_of_mem _ hy)
    rw [List.flatMap_cons, List.length_append, List.length_cons, Nat.add_mul, Nat.one_mul]
    omega
theorem orders_len : ∀ {k : Nat} {left : List Int}, left.length ≤ 3 → (orders k left).length ≤ 6 ^ k
  | 0, _, _ => by simp [orders]
  | k + 1, left, h => by
    rw [orders_succ]
    have : ∀ x ∈ left, (ordOne k left x).length ≤ 2 * 6 ^ k := fun x _ => by
      have a := orders_len (k := k) (left := left.filter fun y => decide (y ≠ x)) (Nat.le_trans (List.length_filter_le _ _) h)
      unfold ordOne
      rw [List.length_append, List.length_map, List.length_map]
      omega
    have b := flat_len this
    have c := Nat.mul_le_mul_right (2 * 6 ^ k) h
    rw [Nat.pow_succ]
    omega
theorem take_len {k : Nat} {left : List Int} {i : Nat} (h : left.length ≤ 3) (hk : k ≤ 2) : ((left.take i).flatMap (ordOne k left)).length ≤ 216 := by
  have a := flat_len (f := ordOne k left) (B := 2 * 6 ^ k) (l := left.take i) fun x _ => by
    have a := orders_len (k := k) (left := left.filter fun y => decide (y ≠ x)) (Nat.le_trans (List.length_filter_le _ _) h)
    unfold ordOne
    rw [List.length_append, List.length_map, List.length_map]
    omega
  have b : (left.take i).length ≤ 3 := by
    rw [List.length_take]
    omega
  have c := Nat.mul_le_mul_right (2 * 6 ^ k) b
  have e : 6 ^ k ≤ 36 := Nat.pow_le_pow_right (by decide : 6 > 0) hk
  omega
end WO
namespace W7
open PySem PySem.Spec PyProof.Rows L2
theorem IntsT.same {H H' : Hp} {p : Addr} {o : List Int} (x : IntsT H p o) (k : Same H H') : IntsT H' p o := k _ _ x
theorem catT7 {X : Cx} {K : PySem.W.Frag} (h : X.K = K) : OpR X (binaryOp .Add) (rCatT K) := by
  subst h
  exact op_catT
theorem lc_ints {K : PySem.W.Frag} {a : Addr} {ps : List Addr} {g : TG} {te : TE} {vs : List Nat} {σ : L2.St} {H1 : Hp} {D : Addr} {Qd : Hp → Prop} (os : List (List Int)) (x : Int) (hD : H1 D = none) (ha : H1 a = some (.lst (ps.map V.ref))) (hp : Paired (IntsT H1) ps os) (hz : os.length ≤ 1000)
    (hs : ∀ (p : Addr) (o : List Int) (H : Hp) (R : V → Hp → Prop), o ∈ os → Same H1 H → IntsT H p o → (∀ H' t, Same H H' → IntsT H' t (x :: o) → R (.ref t) H') → g (.ref p) (wipe σ vs) H fun σ2 H2 => wipe σ2 vs = wipe σ vs ∧ te σ2 H2 R)
    (hd : ∀ H rs, Same H1 H → H D = some (.lst (rs.map V.ref)) → Paired (IntsT H) rs (os.map (x :: ·)) → Qd H) :
    ∃ W : Nat → Nat → Hp → Prop, (∃ m, W 0 m (upd H1 D (.lst []))) ∧ ∀ i m H, W i m H →
      ((Itl K a).stop i H ∧ Qd H) ∨ ((Itl K a).go i H ∧ ∃ Nx : Hp → Prop, (∀ H', Nx H' → ∃ m', m' < m ∧ W (i + 1) m' H') ∧ ∀ x H', (Itl K a).yld i H x H' → g x (wipe σ vs) H' fun σ2 H2 => wipe σ2 vs = wipe σ vs ∧ tYes σ2 H2 fun b H3 =>
        if b = true then te σ2 H3 fun y H4 => ∃ acc, H4 D = some (.lst acc) ∧ acc.length < sizeLine ∧ Nx (upd H4 D (.lst (acc ++ [y]))) else Nx H3) := by
  have lp := paired_len hp
  refine lc_list (K := K) (xs := ps.map V.ref) (fun i H => ∃ rs, Same H1 H ∧ H D = some (.lst (rs.map V.ref)) ∧ rs.length = i ∧ Paired (IntsT H) rs ((os.take i).map (x :: ·))) ⟨[], same_new hD _, upd_same, rfl, .nil⟩ (fun i H _ ⟨_, b, _⟩ => b.seq (SqL.of ha)) ?_ ?_
  · rintro i v H hx ⟨rs, s1, e1, l1, p1⟩
    rw [List.getElem?_map] at hx
    obtain ⟨p, hp', rfl⟩ := Option.map_eq_some_iff.mp hx
    obtain ⟨o, ho, ht⟩ := paired_at hp hp'
    refine hs p o H (fun y H4 => ∃ acc, H4 D = some (.lst acc) ∧ acc.length < sizeLine ∧ ∃ rs, Same H1 (upd H4 D (.lst (acc ++ [y]))) ∧ (upd H4 D (.lst (acc ++ [y]))) D = some (.lst (rs.map V.ref)) ∧ rs.length = i + 1 ∧ Paired (IntsT (upd H4 D (.lst (acc ++ [y])))) rs ((os.take (i + 1)).map (x :: ·))) (List.mem_of_getElem? ho) s1 (ht.same s1) fun H' t s2 it => ?_
    have e2 := s2 _ _ e1
    have kt := tups_wr (o := .lst (rs.map V.ref ++ [V.ref t])) e2
    have hi := (List.getElem?_eq_some_iff.mp ho).1
    refine ⟨_, e2, ?_, rs ++ [t], (s1.trans s2).wr7 hD _, ?_, by simp [l1], ?_⟩
    · rw [List.length_map, l1]
      exact sizeLine_big (by omega)
    · rw [upd_same, List.map_append]
      rfl
    · rw [List.take_add_one, ho, List.map_append]
      exact paired_app (pmap (fun _ _ q => kt _ _ (s2 _ _ q)) p1) (.cons (kt _ _ it) .nil)
  · rintro H ⟨rs, s1, e1, l1, p1⟩
    rw [List.length_map, lp, List.take_length] at p1
    exact hd H rs s1 e1 p1
section
variable {P : Program} {w : World} {K : PySem.W.Frag} {mg : Str → Option Value} {base : Heap} {f : Addr} {fd : FuncData}
theorem scLOrders : FnScope ["_law_left", "_law_found", "_law_one", "_law_rest", "_law_other", "_law_order"] ["_law_left"] (defScope sLOrders) := ⟨rfl, rfl, rfl, by decide +kernel, rfl, by decide +kernel, by decide +kernel⟩
theorem ok_lordersN {k n : Nat} {sp : Sp} (F : Fun K "_law_orders" "_law_orders" sLOrders f fd) (T : Txt mg) (hn : n ≤ 3) (hsp : ∀ m, n = m + 1 → sp = spLOrders m)
    (G : FnOk P w K mg base CX0 k f fd ["_law_left"] sp) (gG : mg "_law_orders" = some (.ref f)) (kG : PySem.W.keepIn K (.ref f) = true) (bG : Binds K fd ["_law_left"] []) :
    FnOk P w K mg base CX0 (k + 1) f fd ["_law_left"] (spLOrders n) := by
  refine F.ok scLOrders (fun vs H Q E h => ?_) (fun cdv A outer s H vs Q E hr h => ?_)
  · obtain ⟨_, _, rfl, _⟩ := h
    rfl
  · obtain ⟨l, left, rfl, hl, hlen, hnd, q⟩ := h
    have hu := hr.units
    refine ⟨_, pss_cons (ps_if (pt_cmpR (op_eqD hu) (pv 0) (pe_lst pa_nil) (nomark _)) (pss_one (ps_ret (pe_lst (pa_cons (pe_tup pa_nil) pa_nil)))) pss_nil)
      (pss_cons (ps_set (i := 1) scLOrders.nd rfl (.inl rfl) (pe_lst pa_nil))
      (pss_cons (ps_for PassesOwn.never rfl (pi_list (pv 0)) (pg_name (i := 2) scLOrders.nd rfl (.inr rfl))
        (pss_cons (ps_set (i := 3) scLOrders.nd rfl (.inl rfl) (pe_call G hr (by rfl) gG kG bG .nil pass0 (pa_cons (pe_lc (own := [("_law_other", 4)]) (g := gName 4) rfl scLOrders.nd (pi_list (pv 0)) (blkOk_by (own := [("_law_other", 4)]) (N := ["_law_left", "_law_found", "_law_one", "_law_rest", "_law_other", "_law_order"]) (sc := defScope sLOrders) (by decide +kernel))
          (fun _ _ _ _ _ => pg_name (i := 4) scLOrders.nd rfl (Or.inl rfl)) (fun _ _ _ _ _ => pts_one (pt_cmpR op_ne (pv 4) (pv 2) (nomark _))) (fun _ _ _ _ _ => pv 4)) pa_nil)))
        (pss_one (ps_set (i := 1) scLOrders.nd rfl (.inl rfl) (pe_op op_cat (pe_op op_cat (pv 1)
          (pe_lc (own := [("_law_order", 5)]) (g := gName 5) (tt := tYes) rfl scLOrders.nd (pi_list (pv 3)) (blkOk_by (own := [("_law_order", 5)]) (N := ["_law_left", "_law_found", "_law_one", "_law_rest", "_law_other", "_law_order"]) (sc := defScope sLOrders) (by decide +kernel))
            (fun _ _ _ _ _ => pg_name (i := 5) scLOrders.nd rfl (Or.inl rfl)) (fun _ _ _ _ _ => pts_nil) (fun _ _ _ _ _ => pe_op (catT7 (K := K) rfl) (pe_tup (pa_cons (pe_op op_mul pe_int (pv 2)) pa_nil)) (pv 5))))
          (pe_lc (own := [("_law_order", 5)]) (g := gName 5) (tt := tYes) rfl scLOrders.nd (pi_list (pv 3)) (blkOk_by (own := [("_law_order", 5)]) (N := ["_law_left", "_law_found", "_law_one", "_law_rest", "_law_other", "_law_order"]) (sc := defScope sLOrders) (by decide +kernel))
            (fun _ _ _ _ _ => pg_name (i := 5) scLOrders.nd rfl (Or.inl rfl)) (fun _ _ _ _ _ => pts_nil) (fun _ _ _ _ _ => pe_op (catT7 (K := K) rfl) (pe_tup (pa_cons (pe_op op_add (pe_op op_mul pe_int (pv 2)) pe_int) pa_nil)) (pv 5))))))))
      (pss_one (ps_ret (pv 1))))), ?_⟩
    -- if left == []
    refine ⟨_, rfl, Nat.zero_le _, fun zA nzA => ?_⟩
    have c1 := same_new nzA (.lst [])
    refine ⟨dL left, .list [], dp_L (c1 _ _ hl), .lst (SqL.of upd_same) .nil, sh_L _, sh_N0, _, rfl, ?_⟩
    rw [show PyData.eqv (dL left) (.list []) = decide (left = []) from eqv_L left []]
    refine ifd (fun he => ?_) (fun hne => ?_)
    · subst he
      have : n = 0 := by simpa using hlen.symm
      subst this
      refine ⟨(by show 0 ≤ sizeLine; decide), fun t nt => ⟨(by show 1 ≤ sizeLine; decide), fun r nr => ?_⟩⟩
      refine q _ r ((c1.new7 nt _).new7 nr _) ((c1.new7 nt _).free nr) ⟨[t], upd_same, .cons ?_ .nil⟩
      show upd _ r _ t = _
      rw [upd_ne (ne_of_none upd_same nr), upd_same]
      rfl
    · obtain ⟨m, rfl⟩ : ∃ m, n = m + 1 := by
        cases n with
        | zero => exact absurd (List.length_eq_zero_iff.mp hlen) hne
        | succ m => exact ⟨m, rfl⟩
      have esp := hsp m rfl
      subst esp
      refine ⟨Nat.zero_le _, fun fo nfo => ?_⟩
      have c2 := c1.new7 nfo (.lst [])
      refine ⟨_, rfl, l, rfl, ⟨_, SqL.of (c2 _ _ hl)⟩, ?_⟩
      refine for_list (K := K) (a := l) (xs := left.map V.int) (fun i σ H' => ∃ fa v2 v3 rs, σ = [some (.ref l), some (.ref fa), v2, v3, none, none] ∧ Same H H' ∧ H fa = none ∧ H' fa = some (.lst (rs.map V.ref)) ∧ Paired (IntsT H') rs ((left.take i).flatMap (WO.ordOne m left)))
        ⟨fo, none, none, [], rfl, c2, c1.free nfo, upd_same, .nil⟩ (fun i σ H' _ ⟨_, _, _, _, _, b, _⟩ => b.seq (SqL.of hl)) ?_ ?_
      · rintro i x σ H' hx ⟨fa, v2, v3, rs, rfl, s1, nfa, efa, prs⟩
        rw [List.getElem?_map] at hx
        obtain ⟨one, ho, rfl⟩ := Option.map_eq_some_iff.mp hx
        have hmem := List.mem_of_getElem? ho
        -- rest
        refine ⟨_, rfl, l, rfl, ⟨_, SqL.of (s1 _ _ hl)⟩, fun D nD => ?_⟩
        refine lc_list (K := K) (xs := left.map V.int) (fun j H2 => Same H' H2 ∧ H2 D = some (.lst (((left.take j).filter fun y => decide (y ≠ one)).map V.int))) ⟨same_new nD _, upd_same⟩ (fun j H2 _ p => (s1.trans p.1).seq (SqL.of hl)) ?_ ?_
        · rintro j x H2 hx ⟨s2, e2⟩
          rw [List.getElem?_map] at hx
          obtain ⟨y, hy, rfl⟩ := Option.map_eq_some_iff.mp hx
          have tk : left.take (j + 1) = left.take j ++ [y] := by
            rw [List.take_add_one, hy]
            rfl
          refine ⟨rfl, _, rfl, _, rfl, rfl, _, rfl, ?_⟩
          refine ifnv (fun z => ?_) (fun z => ?_)
          · refine ⟨_, rfl, _, e2, ?_, s2.wr7 nD _, ?_⟩
            · rw [List.length_map]
              have l1 := List.length_filter_le (fun y => decide (y ≠ one)) (left.take j)
              have l2 : (left.take j).length ≤ left.length := by rw [List.length_take]; exact Nat.min_le_right _ _
              exact sizeLine_big (by omega)
            · rw [upd_same, tk, List.filter_append, List.map_append, List.filter_cons_of_pos (by simpa using z)]
              rfl
          · refine ⟨s2, ?_⟩
            rw [tk, List.filter_append, List.filter_cons_of_neg (by simp [z])]
            simpa using e2
        rintro H2 ⟨s2, e2⟩
        rw [List.length_map, List.take_length] at e2
        refine ⟨D, _, rfl, e2, WO.filter_len hnd hmem hlen, hnd.filter _, fun H3 r s3 nr ⟨ps, er, pp⟩ => ?_⟩
        have s13 := (s1.trans s2).trans s3
        have s23 := s2.trans s3
        have ol := WO.orders_len (k := m) (left := left.filter fun x => decide (x ≠ one)) (Nat.le_trans (List.length_filter_le _ _) (by omega))
        have o36 : 6 ^ m ≤ 36 := Nat.pow_le_pow_right (by decide : 6 > 0) (by omega : m ≤ 2)
        have hlenO : ∀ {o : List Int} {v : V}, o ∈ WO.orders m (left.filter fun x => decide (x ≠ one)) → [v].length + (o.map V.int).length ≤ sizeLine := fun {o v} ho => by
          have := ((WO.mem_orders (hnd.filter _) (WO.filter_len hnd hmem hlen)).mp ho).length_eq
          rw [List.length_map, WO.filter_len hnd hmem hlen] at this
          rw [List.length_map, this]
          exact Nat.le_of_lt (sizeLine_big (by simp; omega))
        -- found + [..] + [..]
        refine ⟨_, rfl, ?_⟩
        refine ⟨_, rfl, r, rfl, ⟨_, SqL.of er⟩, fun D1 nD1 => lc_ints (WO.orders m (left.filter fun x => decide (x ≠ one))) (2 * one) nD1 er pp (by omega) (fun p o H4 R ho s4 it hR => ⟨rfl, ?_⟩) (fun H4 rs1 s4 e4 p4 => ?_)⟩
        · refine ⟨_, rfl, _, _, rfl, rfl, .inl ⟨by decide, by decide⟩, (by show 1 ≤ sizeLine; decide), fun t nt => ⟨_, rfl, t, p, _, _, rfl, rfl, SqT.of upd_same, SqT.of (same_new nt _ _ _ it), by simp, hlenO ho, fun hnil => ?_, fun _ u nu => ?_⟩⟩
          · have : o = [] := by simpa using hnil
            subst this
            exact hR _ t (same_new nt _) upd_same
          · exact hR _ u ((same_new nt _).new7 nu _) upd_same
        have s14 := s13.trans s4
        have tkl := WO.take_len (k := m) (left := left) (i := i) (by omega) (by omega)
        have lrs : rs.length ≤ 216 := by rw [paired_len prs]; exact tkl
        have lrs1 : rs1.length ≤ 36 := by
          have := paired_len p4
          rw [List.length_map] at this
          omega
        refine ⟨fa, D1, _, _, rfl, rfl, (s23.trans s4) _ _ efa, e4, ?_, fun c nc => ?_⟩
        · rw [List.length_map, List.length_map]
          exact Nat.le_of_lt (sizeLine_big (by omega))
        have s5 := s4.new7 nc (.lst (rs.map V.ref ++ rs1.map V.ref))
        have c5 := same_new nc (.lst (rs.map V.ref ++ rs1.map V.ref))
        have ec : (upd H4 c (.lst (rs.map V.ref ++ rs1.map V.ref))) c = some (.lst (rs.map V.ref ++ rs1.map V.ref)) := upd_same
        have p5 := pmap (fun _ _ q => IntsT.same q c5) p4
        generalize (upd H4 c (.lst (rs.map V.ref ++ rs1.map V.ref))) = H5 at s5 c5 ec p5 ⊢
        refine ⟨_, rfl, r, rfl, ⟨_, SqL.of (s5 _ _ er)⟩, fun D2 nD2 => lc_ints (WO.orders m (left.filter fun x => decide (x ≠ one))) (2 * one + 1) nD2 (s5 _ _ er) (pmap (fun _ _ q => IntsT.same q s5) pp) (by omega) (fun p o H6 R ho s6 it hR => ⟨rfl, ?_⟩) (fun H6 rs2 s6 e6 p6 => ?_)⟩
        · refine ⟨_, rfl, _, _, rfl, rfl, .inl ⟨by decide, by decide⟩, _, _, rfl, rfl, (by show 1 ≤ sizeLine; decide), fun t nt => ⟨_, rfl, t, p, _, _, rfl, rfl, SqT.of upd_same, SqT.of (same_new nt _ _ _ it), by simp, hlenO ho, fun hnil => ?_, fun _ u nu => ?_⟩⟩
          · have : o = [] := by simpa using hnil
            subst this
            exact hR _ t (same_new nt _) upd_same
          · exact hR _ u ((same_new nt _).new7 nu _) upd_same
        have lrs2 : rs2.length ≤ 36 := by
          have := paired_len p6
          rw [List.length_map] at this
          omega
        refine ⟨c, D2, _, _, rfl, rfl, s6 _ _ ec, e6, ?_, fun c' nc' => ?_⟩
        · rw [List.length_append, List.length_map, List.length_map, List.length_map]
          exact Nat.le_of_lt (sizeLine_big (by omega))
        have c6 := s6.new7 nc' (.lst (rs.map V.ref ++ rs1.map V.ref ++ rs2.map V.ref))
        have c7 := same_new nc' (.lst (rs.map V.ref ++ rs1.map V.ref ++ rs2.map V.ref))
        refine ⟨c', some (.int one), some (.ref r), rs ++ rs1 ++ rs2, rfl, (s13.trans s5).trans c6, ((s13.trans s5).trans s6).free nc', ?_, ?_⟩
        · rw [upd_same, List.map_append, List.map_append]
        · rw [List.take_add_one, ho, List.flatMap_append]
          show Paired _ _ (_ ++ List.flatMap _ [one])
          rw [List.flatMap_singleton, WO.ordOne, ← List.append_assoc]
          exact paired_app (paired_app (pmap (fun _ _ q => IntsT.same (IntsT.same q (s23.trans s5)) c6) prs) (pmap (fun _ _ q => IntsT.same q c6) p5)) (pmap (fun _ _ q => IntsT.same q c7) p6)
      · rintro σ H' ⟨fa, v2, v3, rs, rfl, s1, nfa, efa, prs⟩
        rw [List.length_map, List.take_length] at prs
        exact ⟨_, rfl, q _ fa s1 nfa ⟨rs, efa, prs⟩⟩
end
end W7
end
section
set_option Elab.async false
set_option linter.all false
set_option maxRecDepth 100000
/-! _law_cost -/
namespace W7
open PySem PySem.Spec PyProof.Rows L2 RZ
theorem for_zipM {K : PySem.W.Frag} {a b : Addr} {xs ys : List V} {g : TG} {tb : TS} {D : Ends} {σ : L2.St} {H : Hp} {n : Nat} (hn : n = min xs.length ys.length) (Pv : Nat → L2.St → Hp → Prop) (h0 : Pv 0 σ H) (hq : ∀ i σ H, Pv i σ H → SqT K H a xs ∧ SqT K H b ys)
    (hs : ∀ (i : Nat) (x y : V) (T : Addr) (σ : L2.St) (H : Hp), xs[i]? = some x → ys[i]? = some y → Pv i σ H → H T = none → g (.ref T) σ (upd H T (.tup [x, y])) fun σ2 H2 => tb { D with nx := Pv (i + 1), ct := Pv (i + 1), bk := D.nx } σ2 H2) (hd : ∀ σ H, Pv n σ H → D.nx σ H) :
    ∃ W : Nat → Nat → L2.St → Hp → Prop, (∃ m, W 0 m σ H) ∧ ∀ i m σ H, W i m σ H →
      ((ItzT K a b).stop i H ∧ D.nx σ H) ∨ ((ItzT K a b).go i H ∧ ∃ N : L2.St → Hp → Prop, (∀ σ' H', N σ' H' → ∃ m', m' < m ∧ W (i + 1) m' σ' H') ∧ ∀ v H', (ItzT K a b).yld i H v H' → g v σ H' fun σ2 H2 => tb { D with nx := N, ct := N, bk := D.nx } σ2 H2) := by
  refine ⟨fun i m σ H => m = n - i ∧ i ≤ n ∧ Pv i σ H, ⟨n, rfl, Nat.zero_le _, h0⟩, ?_⟩
  rintro i m σ H ⟨rfl, hi, p⟩
  obtain ⟨qx, qy⟩ := hq i σ H p
  by_cases hlt : i < n
  · have hx : xs[i]? = some xs[i] := List.getElem?_eq_getElem (by omega)
    have hy : ys[i]? = some ys[i] := List.getElem?_eq_getElem (by omega)
    refine .inr ⟨⟨xs, ys, _, _, qx, qy, hx, hy⟩, Pv (i + 1), fun σ' H' p' => ⟨n - (i + 1), by omega, rfl, hlt, p'⟩, ?_⟩
    rintro v H' ⟨T, x, y, rfl, nT, rfl, ex, ey⟩
    have ex := ex _ qx
    have ey := ey _ qy
    exact hs i x y T σ H ex ey p nT
  · have e : i = n := by omega
    subst e
    exact .inl ⟨⟨xs, ys, qx, qy, by omega⟩, hd σ H p⟩
def dO : Option Int → PyData
  | none => .none
  | some i => .int i
def dTO (l : List (Option Int)) : PyData := .tuple (l.map dO)
theorem dp_O {K : PySem.W.Frag} {H : Hp} : ∀ x : Option Int, Dp K H (oV x) (dO x)
  | none => .non
  | some i => .int i
theorem dp_allO {K : PySem.W.Frag} {H : Hp} : ∀ l : List (Option Int), DpAll K H (l.map oV) (l.map dO)
  | [] => .nil
  | x :: l => .cons (dp_O x) (dp_allO l)
theorem dp_TO {K : PySem.W.Frag} {H : Hp} {q : Addr} {l : List (Option Int)} (h : H q = some (.tup (l.map oV))) : Dp K H (.ref q) (dTO l) := .tup (SqT.of h) (dp_allO l)
theorem depth_O : ∀ l : List (Option Int), PyData.depthAll (l.map dO) = 0
  | [] => rfl
  | x :: l => by
    rw [List.map_cons]
    simp only [PyData.depthAll, depth_O l]
    cases x <;> rfl
theorem lay_O : ∀ l : List (Option Int), PyData.canLayAll0 (l.map dO) = true
  | [] => by simp [PyData.canLayAll0]
  | x :: l => by
    rw [List.map_cons]
    cases x <;> simp [PyData.canLayAll0, dO, PyData.canLay0, lay_O l]
theorem sh_TO (l : List (Option Int)) : SeqAt.shaped (dTO l) = true := by
  unfold SeqAt.shaped dTO
  simp [PyData.canLay0, lay_O, PyData.depth, depth_O]
theorem eqv_TO0 (l : List (Option Int)) : PyData.eqv (dTO l) (.tuple []) = decide (l = []) := by
  cases l with
  | nil => rfl
  | cons x l => simp [dTO, PyData.eqv, PyData.eqvAll]
theorem sh_T0 : SeqAt.shaped (.tuple []) = true := by decide +kernel
theorem cut_tail (xs : List V) : cutV xs (some 1) none = xs.drop 1 := by
  unfold cutV
  show (xs.drop (min 1 xs.length)).take (xs.length - min 1 xs.length) = _
  cases xs with
  | nil => rfl
  | cons x xs =>
    have : min 1 (x :: xs).length = 1 := by simp
    rw [this]
    simp
theorem last_at {os : List Int} (h : os ≠ []) : atI (os.map V.int) (-1) = some (.int (os.getLastD 0)) := by
  have hl : 0 < os.length := List.length_pos_iff.mpr h
  have e1 : ixN (os.map V.int).length (-1) = some (os.length - 1) := by
    unfold ixN
    rw [List.length_map]
    rw [if_neg (by omega), if_pos (by omega)]
    congr 1
    omega
  unfold atI
  rw [e1]
  show (os.map V.int)[os.length - 1]? = _
  have e2 : os[os.length - 1]? = some (os.getLastD 0) := by
    rw [← List.getLast?_eq_getElem?, List.getLast?_eq_some_getLast h]
    cases os with
    | nil => exact absurd rfl h
    | cons x r => rfl
  exact get_map e2
theorem pair_at {os : List Int} {i : Nat} {x y : V} (hx : (os.map V.int)[i]? = some x) (hy : ((os.map V.int).drop 1)[i]? = some y) : ∃ a b, x = .int a ∧ y = .int b ∧ (WO.pairsOf os)[i]? = some (a, b) ∧ a ∈ os ∧ b ∈ os := by
  rw [← List.map_drop] at hy
  rw [List.getElem?_map] at hx hy
  obtain ⟨a, ha, rfl⟩ := Option.map_eq_some_iff.mp hx
  obtain ⟨b, hb, rfl⟩ := Option.map_eq_some_iff.mp hy
  refine ⟨a, b, rfl, rfl, ?_, List.mem_of_getElem? ha, List.mem_of_mem_drop (List.mem_of_getElem? hb)⟩
  unfold WO.pairsOf
  rw [List.getElem?_zip_eq_some]
  exact ⟨ha, hb⟩
def rowsTo (C : WO.Costs) (os : List Int) (i : Nat) : List (Option Int) := WO.fst C (os.headD 0).toNat :: ((WO.pairsOf os).take i).map fun p => WO.bt C (WO.other p.1).toNat p.2.toNat
theorem rowsTo_len (C : WO.Costs) (os : List Int) (i : Nat) : (rowsTo C os i).length ≤ os.length + 1 := by
  unfold rowsTo WO.pairsOf
  simp
  omega
theorem rowsTo_next {C : WO.Costs} {os : List Int} {i : Nat} {a b : Int} (h : (WO.pairsOf os)[i]? = some (a, b)) : rowsTo C os (i + 1) = rowsTo C os i ++ [WO.bt C (WO.other a).toNat b.toNat] := by
  unfold rowsTo
  rw [List.take_add_one, h, List.map_append]
  rfl
theorem rowsTo_all (C : WO.Costs) (os : List Int) : rowsTo C os (WO.pairsOf os).length ++ [WO.lst C (WO.other (os.getLastD 0)).toNat] = WO.lawRows C os := by
  unfold rowsTo WO.lawRows
  rw [List.take_length]
theorem other_ite {T U : TE} {i : Int} {σ : L2.St} {H : Hp} {Q : VK} (h1 : ∀ Q' : VK, Q' (.int (i + 1)) H → T σ H Q') (h2 : ∀ Q' : VK, Q' (.int (i - 1)) H → U σ H Q') (q : Q (.int (WO.other i)) H) : if decide (V.int (i % 2) = V.int 0) = true then T σ H Q else U σ H Q := by
  unfold WO.other at q
  by_cases he : i % 2 = 0
  · rw [if_pos he] at q
    rw [decide_eq_true (show V.int (i % 2) = V.int 0 by rw [he])]
    exact iteT (h1 Q q)
  · rw [if_neg he] at q
    rw [decide_eq_false (show ¬ V.int (i % 2) = V.int 0 from fun z => he (by injection z))]
    exact iteF (h2 Q q)
theorem sum_rows : ∀ {l : List (Option Int)}, l.any (·.isNone) = false → ∃ ns : List Int, l.map oV = ns.map V.int ∧ ns.sum = WO.sumO l
  | [], _ => ⟨[], rfl, rfl⟩
  | x :: l, h => by
    rw [List.any_cons, Bool.or_eq_false_iff] at h
    obtain ⟨ns, e1, e2⟩ := sum_rows h.2
    cases x with
    | none => cases h.1
    | some i => exact ⟨i :: ns, by rw [List.map_cons, List.map_cons, e1]; rfl, by simp [WO.sumO] at e2 ⊢; exact e2⟩
theorem any_rows (l : List (Option Int)) : ((l.map fun x => x.isNone).any id) = l.any (·.isNone) := by
  rw [List.any_map]
  rfl
section
variable {P : Program} {w : World} {K : PySem.W.Frag} {mg : Str → Option Value} {base : Heap} {f : Addr} {fd : FuncData}
theorem scLCost : FnScope ["_law_costs_here", "_law_order", "_law_first", "_law_between", "_law_last", "_law_rows", "_law_one", "_law_other", "_law_end"] ["_law_costs_here", "_law_order"] (defScope sLCost) := ⟨rfl, rfl, rfl, by decide +kernel, rfl, by decide +kernel, by decide +kernel⟩
theorem ok_lcost {k : Nat} (F : Fun K "_law_cost" "_law_cost" sLCost f fd) (T : Txt mg) : FnOk P w K mg base CX0 (k + 1) f fd ["_law_costs_here", "_law_order"] spLCost := by
  refine F.ok scLCost (fun vs H Q E h => ?_) (fun cdv A outer s H vs Q E hr h => ?_)
  · obtain ⟨_, _, _, _, rfl, _⟩ := h
    rfl
  · obtain ⟨c, C, oa, os, rfl, hc, ok, ho, hrng, hlen, q⟩ := h
    have hu := hr.units
    refine ⟨_, pss_cons (ps_asg (pv 0) (pg_tup (by rfl) (pgs_cons (pg_name (i := 2) scLCost.nd rfl (.inl rfl)) (pgs_cons (pg_name (i := 3) scLCost.nd rfl (.inl rfl)) (pgs_cons (pg_name (i := 4) scLCost.nd rfl (.inl rfl)) pgs_nil)))))
      (pss_cons (ps_if (pt_cmpR (op_eqD hu) (pv 1) (pe_tup pa_nil) (nomark _)) (pss_one (ps_ret (pe_ifExp (pt_cmpR (op_eqD hu) (pv 2) (pe_tup pa_nil) (nomark _)) pe_int pe_non))) pss_nil)
      (pss_cons (ps_set (i := 5) scLCost.nd rfl (.inl rfl) (pe_lst (pa_cons (pe_ix (tup7 (K := K) rfl) (pv 2) (pe_ix (tup7 (K := K) rfl) (pv 1) pe_int (fun _ _ => rfl)) (fun _ _ => rfl)) pa_nil)))
      (pss_cons (ps_for PassesOwn.never rfl (pi_zipA (by rfl) T.zip (pa_cons (pv 1) (pa_cons (pe_slice sl_tup (pv 1) (po_some pe_int) po_none) pa_nil))) (pg_tup (by rfl) (pgs_cons (pg_name (i := 6) scLCost.nd rfl (.inl rfl)) (pgs_cons (pg_name (i := 7) scLCost.nd rfl (.inl rfl)) pgs_nil)))
        (pss_one (ps_expr (pe_bm PySem.F.plainAttrs_list PySem.F.slot_list_append PySem.F.type_list_append mt_append (pv 5) (pa_cons (pe_ix (tup7 (K := K) rfl) (pe_ix (tup7 (K := K) rfl) (pv 3)
          (pe_ifExp (pt_cmpR op_eq (pe_op op_mod (pv 6) pe_int) pe_int (nomark _)) (pe_op op_add (pv 6) pe_int) (pe_op op_sub (pv 6) pe_int)) (fun _ _ => rfl)) (pv 7) (fun _ _ => rfl)) pa_nil)))))
      (pss_cons (ps_set (i := 8) scLCost.nd rfl (.inl rfl) (pe_ifExp (pt_cmpR op_eq (pe_op op_mod (pe_ix (tup7 (K := K) rfl) (pv 1) (pe_un un_neg pe_int) (fun _ _ => rfl)) pe_int) pe_int (nomark _))
          (pe_op op_add (pe_ix (tup7 (K := K) rfl) (pv 1) (pe_un un_neg pe_int) (fun _ _ => rfl)) pe_int) (pe_op op_sub (pe_ix (tup7 (K := K) rfl) (pv 1) (pe_un un_neg pe_int) (fun _ _ => rfl)) pe_int)))
      (pss_cons (ps_expr (pe_bm PySem.F.plainAttrs_list PySem.F.slot_list_append PySem.F.type_list_append mt_append (pv 5) (pa_cons (pe_ix (tup7 (K := K) rfl) (pv 4) (pv 8) (fun _ _ => rfl)) pa_nil)))
      (pss_cons (ps_if (PW.pt (pw_or (pt_cmpR op_ne (pe_op op_mul (pe_callB (len7 (K := K) rfl) (by rfl) T.len boot_len (pa_cons (pv 1) pa_nil)) pe_int) (pe_callB (len7 (K := K) rfl) (by rfl) T.len boot_len (pa_cons (pv 2) pa_nil)) (nomark _))
          (pw_or1 (pt_val (pe_callB (cr_any rfl) (by rfl) T.any bt_any (pa_cons (pe_lc (own := [("_law_one", 6)]) (g := gName 6) (tt := tYes) rfl scLCost.nd (pi_list (pv 5))
            (blkOk_by (own := [("_law_one", 6)]) (N := ["_law_costs_here", "_law_order", "_law_first", "_law_between", "_law_last", "_law_rows", "_law_one", "_law_other", "_law_end"]) (sc := defScope sLCost) (by decide +kernel))
            (fun _ _ _ _ _ => pg_name (i := 6) scLCost.nd rfl (Or.inl rfl)) (fun _ _ _ _ _ => pts_nil) (fun _ _ _ _ _ => pe_cmp (pc_isN (pv 6)) rfl)) pa_nil))))))
          (pss_one (ps_ret pe_non)) pss_nil)
      (pss_one (ps_ret (pe_callB (cr_sum rfl) (by rfl) T.sum bt_sum (pa_cons (pv 5) pa_nil)))))))))), ?_⟩
    obtain ⟨fa, ba, la, rs, h1, h2, h3, h4, h5⟩ := id hc
    have n3 := ok.n3
    refine ⟨_, rfl, c, _, rfl, SqT.of h1, rfl, _, _, rfl, _, _, rfl, _, _, rfl, rfl, ?_⟩
    -- if order == ()
    refine ⟨_, rfl, (by show 0 ≤ sizeLine; decide), fun zA nzA => ⟨dT os, .tuple [], dp_T (same_new nzA _ _ _ ho), .tup (SqT.of upd_same) .nil, sh_T _, sh_T0, _, rfl, ?_⟩⟩
    have c1 := same_new nzA (.tup [])
    rw [show PyData.eqv (dT os) (.tuple []) = decide (os = []) from eqv_T os []]
    refine ifd (fun he => ?_) (fun hne => ?_)
    · refine ⟨_, rfl, (by show 0 ≤ sizeLine; decide), fun yA nyA => ⟨dTO C.first, .tuple [], dp_TO ((c1.new7 nyA _) _ _ h2), .tup (SqT.of upd_same) .nil, sh_TO _, sh_T0, _, rfl, ?_⟩⟩
      rw [eqv_TO0]
      have q := q _ (c1.new7 nyA (.tup []))
      unfold WO.lawCost at q
      rw [if_pos he] at q
      refine ifd (fun z => ?_) (fun z => ?_)
      · rw [if_pos z] at q
        exact q
      · rw [if_neg z] at q
        exact q
    -- rows
    obtain ⟨e0, r0, eo⟩ : ∃ e r, os = e :: r := by
      cases os with
      | nil => exact absurd rfl hne
      | cons e r => exact ⟨e, r, rfl⟩
    have her := hrng e0 (by rw [eo]; exact List.mem_cons_self)
    have at0 : atI (os.map V.int) 0 = some (.int e0) := by
      rw [eo]
      exact atI_nat (j := 0) rfl
    have lf : (C.first.length : Int) = 2 * (C.n : Int) := by rw [ok.f]; omega
    have ll : (C.last.length : Int) = 2 * (C.n : Int) := by rw [ok.l]; omega
    refine ⟨_, rfl, _, rfl, oa, _, 0, _, rfl, rfl, SqT.of (c1 _ _ ho), at0, fa, _, e0, _, rfl, rfl, SqT.of (c1 _ _ h2), at_oV her.1 (by omega), (by show 1 ≤ sizeLine; decide), fun ra nra => ?_⟩
    have hd0 : os.headD 0 = e0 := by rw [eo]; rfl
    have c2 := c1.new7 nra (.lst [oV (WO.getO C.first e0.toNat)])
    have nrH : H ra = none := c1.free nra
    -- for one, other in zip(order, order[1:])
    refine ⟨_, rfl, _, rfl, 1, rfl, oa, _, rfl, SqT.of (c2 _ _ ho), ?_, fun sa nsa => ⟨oa, sa, _, _, rfl, .inr ⟨SqT.of ((c2.new7 nsa _) _ _ ho), SqT.of upd_same, ?_⟩⟩⟩
    · rintro ⟨z, _⟩
      have z : min 1 (os.map V.int).length = 0 := z
      rw [List.length_map, eo] at z
      simp at z
    rw [cut_tail]
    have c3 := c2.new7 nsa (.tup ((os.map V.int).drop 1))
    have ers := same_new nsa (.tup ((os.map V.int).drop 1)) ra _ upd_same
    have esa : (upd (upd (upd H zA (.tup [])) ra (.lst [oV (WO.getO C.first e0.toNat)])) sa (.tup ((os.map V.int).drop 1))) sa = some (.tup ((os.map V.int).drop 1)) := upd_same
    refine for_zipM (n := (WO.pairsOf os).length) (by simp [WO.pairsOf]) (fun i σ H' => ∃ v6 v7, σ = [some (.ref c), some (.ref oa), some (.ref fa), some (.ref ba), some (.ref la), some (.ref ra), v6, v7, none] ∧ Same H H' ∧ H' sa = some (.tup ((os.map V.int).drop 1)) ∧ H' ra = some (.lst ((rowsTo C os i).map oV)))
      ⟨none, none, rfl, c3, esa, ?_⟩ (fun i σ H' ⟨_, _, _, b, e, _⟩ => ⟨SqT.of (b _ _ ho), SqT.of e⟩) ?_ ?_
    · rw [ers]
      unfold rowsTo
      rw [hd0]
      rfl
    · rintro i x y T σ H' hx hy ⟨v6, v7, rfl, s1, e1, e2⟩ nT
      obtain ⟨a, b, rfl, rfl, hp, ha, hb⟩ := pair_at hx hy
      have har := hrng a ha
      have hbr := hrng b hb
      have s2 := s1.new7 nT (.tup [V.int a, V.int b])
      have k2 := same_new nT (.tup [V.int a, V.int b])
      have e2' := k2 _ _ e2
      have oo := WO.other_lt har.1 har.2
      obtain ⟨r, b1, b2, b3⟩ := btw_at ok h5 oo.1 oo.2
      refine ⟨T, _, rfl, SqT.of upd_same, rfl, _, _, rfl, _, _, rfl, rfl, ?_⟩
      refine ⟨_, rfl, .inl ⟨rfl, _, SqL.of e2'⟩, _, rfl, _, rfl, _, _, rfl, rfl, (by show (0 : Int) < 2; decide), rfl, _, rfl, other_ite (i := a) (fun Q' hQ => ⟨_, rfl, _, _, rfl, rfl, hQ⟩) (fun Q' hQ => ⟨_, rfl, _, _, rfl, rfl, hQ⟩) ?_⟩
      refine ⟨ba, _, WO.other a, _, rfl, rfl, SqT.of (s2 _ _ h4), b1, _, rfl, r, _, b, _, rfl, rfl, SqT.of (s2 _ _ b2), at_oV hbr.1 (by rw [b3]; omega), ra, _, _, rfl, rfl, e2', ?_, some (.int a), some (.int b), rfl, s2.wr7 nrH _, tups_wr e2' _ _ (k2 _ _ e1), ?_⟩
      · rw [List.length_map]
        have := rowsTo_len C os i
        exact sizeLine_big (by omega)
      · rw [upd_same, rowsTo_next hp, List.map_append]
        rfl
    · rintro σ H' ⟨v6, v7, rfl, s1, e1, e2⟩
      have la1 := last_at hne
      obtain ⟨lastE, hle⟩ : ∃ z, z = os.getLastD 0 := ⟨_, rfl⟩
      have hlm : lastE ∈ os := by
        rw [hle, eo]
        cases r0 with
        | nil => exact List.mem_cons_self
        | cons y r => exact List.getLast_mem (l := e0 :: y :: r) (by simp)
      rw [← hle] at la1
      have hlr := hrng lastE hlm
      have oo := WO.other_lt hlr.1 hlr.2
      refine ⟨_, rfl, 1, rfl, oa, _, -1, _, rfl, rfl, SqT.of (s1 _ _ ho), la1, _, _, rfl, rfl, (by show (0 : Int) < 2; decide), rfl, _, rfl, other_ite (i := lastE) (fun Q' hQ => ⟨_, rfl, 1, rfl, oa, _, -1, _, rfl, rfl, SqT.of (s1 _ _ ho), la1, _, _, rfl, rfl, hQ⟩) (fun Q' hQ => ⟨_, rfl, 1, rfl, oa, _, -1, _, rfl, rfl, SqT.of (s1 _ _ ho), la1, _, _, rfl, rfl, hQ⟩) ?_⟩
      -- rows.append(last[end])
      refine ⟨_, rfl, .inl ⟨rfl, _, SqL.of e2⟩, _, rfl, _, rfl, la, _, WO.other lastE, _, rfl, rfl, SqT.of (s1 _ _ h3), at_oV oo.1 (by omega), ra, _, _, rfl, rfl, e2, ?_, ?_⟩
      · rw [List.length_map]
        have := rowsTo_len C os (WO.pairsOf os).length
        exact sizeLine_big (by omega)
      have s2 := s1.wr7 nrH (.lst ((rowsTo C os (WO.pairsOf os).length).map oV ++ [oV (WO.getO C.last (WO.other lastE).toNat)]))
      have e3 : (upd H' ra (.lst ((rowsTo C os (WO.pairsOf os).length).map oV ++ [oV (WO.getO C.last (WO.other lastE).toNat)]))) ra = some (.lst ((WO.lawRows C os).map oV)) := by
        rw [upd_same, ← rowsTo_all, List.map_append, ← hle]
        rfl
      generalize (upd H' ra (.lst ((rowsTo C os (WO.pairsOf os).length).map oV ++ [oV (WO.getO C.last (WO.other lastE).toNat)]))) = H2 at s2 e3 ⊢
      have hlR : (WO.lawRows C os).length ≤ 200 := by
        rw [← rowsTo_all, List.length_append]
        have := rowsTo_len C os (WO.pairsOf os).length
        simp
        omega
      refine ⟨_, rfl, oa, _, rfl, .inr (SqT.of (s2 _ _ ho)), _, _, rfl, rfl, .inr ⟨by decide, by decide⟩, _, rfl, fa, _, rfl, .inr (SqT.of (s2 _ _ h2)), rfl, _, rfl, ifnv (fun z => ?_) (fun z => ?_)⟩
      · rw [List.length_map, List.length_map] at z
        have q := q _ s2
        unfold WO.lawCost at q
        rw [if_neg hne, if_pos (.inl (by omega))] at q
        exact iteT q
      · rw [List.length_map, List.length_map] at z
        refine ⟨_, rfl, ra, rfl, ⟨_, SqL.of e3⟩, fun D nD => lcL_map (((WO.lawRows C os).map fun x => x.isNone).map V.bl) nD (SqL.of e3) (by simp) (by rw [List.length_map]; omega) (fun i x y H3 R hx hy sm r => ⟨rfl, ?_⟩) (fun H3 sm hD => ?_)⟩
        · rw [List.getElem?_map] at hx
          obtain ⟨o, ho', rfl⟩ := Option.map_eq_some_iff.mp hx
          rw [List.getElem?_map, List.getElem?_map, ho'] at hy
          cases hy
          refine ⟨_, rfl, ?_⟩
          show R (.bl (decide (oV o = V.non))) H3
          rw [oV_non]
          exact r
        have q := q _ (s2.trans sm)
        unfold WO.lawCost at q
        rw [if_neg hne] at q
        refine ⟨D, _, rfl, SqL.of hD, _, rfl, ?_⟩
        rw [any_rows]
        cases hany : (WO.lawRows C os).any (·.isNone) with
        | true =>
          rw [if_pos (.inr hany)] at q
          exact iteT q
        | false =>
          rw [if_neg (fun w => w.elim (fun w => w (by omega)) (fun w => by rw [hany] at w; cases w))] at q
          obtain ⟨ns, en, es⟩ := sum_rows hany
          refine iteF ⟨_, rfl, ra, ns, rfl, ?_, ?_⟩
          · rw [← en]
            exact SqL.of (sm _ _ e3)
          · rw [es]
            exact q
end
end W7
end
section
set_option Elab.async false
set_option linter.all false
set_option maxRecDepth 100000
/-! What the law's arithmetic asks. -/
namespace WO
/-- from a state with a tail back to an order -/
theorem down {C : Costs} {hs : Tab} (H : Hts C hs) {b : Int} : ∀ (k : Nat) {s : Sta} {acc : List Int}, s.1.length ≤ k → Trail C hs b s acc → ∃ o, costOf C o = some b
  | k, s, acc, hk, T => by
    obtain ⟨v, hv, hc⟩ := T.here
    by_cases e : s = start
    · subst e
      have ev : v = 0 := by
        have q := (get_some H.nd).mpr hv
        rw [(get_some H.nd).mpr H.beg] at q
        cases q
        rfl
      subst ev
      exact ⟨_, hc⟩
    · obtain ⟨a, w, c, h1, h2, h3⟩ := H.back s v hv e
      have g := (good_step (H.good a w h1) h2).2.1
      cases k with
      | zero => omega
      | succ k => exact down H k (by omega) (T.next H.nd hv h1 h2 h3.symm)
theorem hts_low {C : Costs} {hs : Tab} (H : Hts C hs) {b : Int} {o : List Int} (L : IsLeast C b o) : ∀ s v m, (s, v) ∈ hs → home C s = some m → b ≤ v + m := fun s v m hv hm => by
  obtain ⟨o', ho⟩ := down H s.1.length (Nat.le_refl _) (Trail.first hv hm)
  exact L.2.2 o' _ ho
theorem hts_shows {C : Costs} {hs : Tab} (H : Hts C hs) {b : Int} {o : List Int} (L : IsLeast C b o) : isLeast C o hs = true := hts_paper H L.2.1 (hts_low H L)
theorem late_least {C : Costs} {late : Tab} (nd : (keys late).Nodup) {b : Int} {o o1 : List Int} (L : IsLeast C b o) (e : isLeast C o1 late = true) : costOf C o1 = some b := by
  obtain ⟨c, h1, h2⟩ := least_paper nd e L.2.1
  have := L.2.2 o1 c h1
  rw [h1]
  congr 1
  omega
theorem empty_least (C : Costs) (o : List Int) : isLeast C o [] = false := by
  unfold isLeast
  cases costOf C o with
  | none => rfl
  | some c => simp [get]
theorem put_good {n : Nat} {t : Tab} {s : Sta} {v : Int} (h : ∀ a w, (a, w) ∈ t → Good n a) (hs : s ∈ keys t) : ∀ a w, (a, w) ∈ put t s v → Good n a := fun a w hm => by
  obtain ⟨w0, h0⟩ := mem_keys.mp hs
  rcases (((put_old hs).2 a w).mp hm) with ⟨e, _⟩ | ⟨_, e⟩
  · rw [e]
    exact h s w0 h0
  · exact h a w e
def worths (C : Costs) (os : List (List Int)) : List Int := os.filterMap (lawCost C)
theorem worths_snoc (C : Costs) (os : List (List Int)) (o : List Int) : worths C (os ++ [o]) = worths C os ++ (lawCost C o).toList := by
  unfold worths
  rw [List.filterMap_append]
  cases h : lawCost C o <;> simp [List.filterMap_cons, h]
theorem worths_none {C : Costs} (ok : C.Ok) (h : ∀ o, costOf C o = none) : worths C (allOrders C) = [] := by
  unfold worths
  rw [List.filterMap_eq_nil_iff]
  intro o ho
  rw [← cost_law ok (all_part ho).1]
  exact h o
theorem worths_some {C : Costs} (ok : C.Ok) {b : Int} {o : List Int} (L : IsLeast C b o) : b ∈ worths C (allOrders C) ∧ ∀ y ∈ worths C (allOrders C), b ≤ y := by
  unfold worths
  constructor
  · rw [List.mem_filterMap]
    exact ⟨o, L.1, by rw [← cost_law ok (all_part L.1).1]; exact L.2.1⟩
  · intro y hy
    obtain ⟨o', h1, h2⟩ := List.mem_filterMap.mp hy
    rw [← cost_law ok (all_part h1).1] at h2
    exact L.2.2 o' y h2
theorem drop_law {C : Costs} (ok : C.Ok) {o : List Int} (h : o ∈ allOrders C) : costOf C o.dropLast = lawCost C o.dropLast := cost_law ok (part_sub (List.dropLast_sublist o) (all_part h).1)
end WO
namespace W7
open PySem PySem.Spec PyProof.Rows L2
/-! ### no two good states have one hash -/
def hashS (s : WO.Sta) : Int := reduceHash (Builtin.Tuple.tupleHashOf [reduceHash (Builtin.Tuple.tupleHashOf (s.1.map hashInt)), hashInt s.2])
theorem hashes_num (w : World) : ∀ l : List Int, NestedKey.hashes w (l.map .num) = l.map hashInt
  | [] => rfl
  | x :: l => by
    rw [List.map_cons, List.map_cons]
    simp only [NestedKey.hashes, NestedKey.hash, hashes_num w l]
theorem hash_nk (w : World) (s : WO.Sta) : (nk s).hash w = hashS s := by
  unfold nk hashS
  simp only [NestedKey.hash, NestedKey.hashes, hashes_num]
theorem hash_all : (WO.allSta.map hashS).Nodup := by decide +kernel
theorem nodup_inj {α β : Type} {f : α → β} : ∀ {l : List α}, (l.map f).Nodup → ∀ a ∈ l, ∀ b ∈ l, f a = f b → a = b
  | [], _, a, ha, _, _, _ => nomatch ha
  | x :: l, h, a, ha, b, hb, e => by
    rw [List.map_cons, List.nodup_cons] at h
    rcases List.mem_cons.mp ha with ea | ha
    · rcases List.mem_cons.mp hb with eb | hb
      · rw [ea, eb]
      · exact absurd (show f x ∈ l.map f from List.mem_map.mpr ⟨b, hb, by rw [← e, ea]⟩) h.1
    · rcases List.mem_cons.mp hb with eb | hb
      · exact absurd (show f x ∈ l.map f from List.mem_map.mpr ⟨a, ha, by rw [e, eb]⟩) h.1
      · exact nodup_inj h.2 a ha b hb e
theorem inj_nodup {α β : Type} {f : α → β} : ∀ {l : List α}, l.Nodup → (∀ a ∈ l, ∀ b ∈ l, f a = f b → a = b) → (l.map f).Nodup
  | [], _, _ => List.nodup_nil
  | x :: l, h, hi => by
    rw [List.nodup_cons] at h
    rw [List.map_cons, List.nodup_cons]
    refine ⟨fun q => ?_, inj_nodup h.2 fun a ha b hb => hi a (List.mem_cons_of_mem _ ha) b (List.mem_cons_of_mem _ hb)⟩
    obtain ⟨y, hy, e⟩ := List.mem_map.mp q
    have := hi y (List.mem_cons_of_mem _ hy) x List.mem_cons_self e
    subst this
    exact h.1 hy
theorem hash_nodup {n : Nat} (hn : n ≤ 3) (w : World) {es : List Ent} (nd : (WO.keys (tab es)).Nodup) (gd : ∀ s v, (s, v) ∈ tab es → WO.Good n s) : (es.map fun e => (nk e.1).hash w).Nodup := by
  have e0 : (fun e : Ent => (nk e.1).hash w) = fun e => hashS e.1 := funext fun e => hash_nk w e.1
  rw [e0, show (es.map fun e => hashS e.1) = (WO.keys (tab es)).map hashS by rw [keys_tab]; simp only [List.map_map, Function.comp_def]]
  have mem : ∀ s ∈ WO.keys (tab es), s ∈ WO.allSta := fun s hs => by
    obtain ⟨v, hv⟩ := WO.mem_keys.mp hs
    exact WO.good_all hn (gd s v hv)
  exact inj_nodup nd fun a ha b hb e => nodup_inj hash_all a (mem a ha) b (mem b hb) e
/-! ### small ones -/
theorem oV_inj {x y : Option Int} : (oV x = oV y) ↔ x = y := by
  constructor
  · intro h
    cases x <;> cases y <;> first | rfl | cases h
    rfl
  · intro h
    rw [h]
theorem scal_oV (x y : Option Int) : scal (oV x) (oV y) = true := by cases x <;> cases y <;> rfl
theorem abs_nat (i : Int) : (if i < 0 then -i else i) = ((i.natAbs : Nat) : Int) := by
  split <;> omega
theorem cut_ints (ns : List Int) (lo hi : Option Int) : ∃ ms : List Int, cutV (ns.map V.int) lo hi = ms.map V.int := by
  unfold cutV
  exact ⟨_, by rw [← List.map_drop, ← List.map_take]⟩
theorem cut_last (xs : List V) : cutV xs none (some (-1)) = xs.dropLast := by
  unfold cutV
  show (xs.drop 0).take (((-1 : Int) + (xs.length : Int)).toNat - 0) = _
  rw [List.drop_zero, List.dropLast_eq_take]
  congr 1
  omega
theorem rg_upto (n : Nat) : rgV 0 (n : Int) = (WO.upto n).map V.int := by
  unfold rgV WO.upto
  rw [List.map_map]
  have : ((n : Int) - 0).toNat = n := by omega
  rw [this]
  refine List.map_congr_left fun i _ => ?_
  show V.int (0 + (i : Int)) = V.int (i : Int)
  rw [Int.zero_add]
theorem upto_nd (n : Nat) : (WO.upto n).Nodup := WO.upto_nodup n
theorem btw_ok {es : List Int} (h : es.length = 2 ∨ es.length = 4) : (btwC es).Ok := by
  have e : es.length = 2 * (es.length / 2) := by omega
  refine ⟨by show es.length / 2 ≤ 3; omega, by show (List.map _ es).length = _; rw [List.length_map]; exact e, by show (List.map _ es).length = _; rw [List.length_map]; exact e, fun r hr => ?_, by show (List.map _ es).length = _; rw [List.length_map]; exact e, fun c hc => ?_, fun r hr c hc => ?_, fun c hc => ?_⟩
  · obtain ⟨a, _, rfl⟩ := List.mem_map.mp hr
    show (List.map _ es).length = 2 * (es.length / 2)
    rw [List.length_map]
    exact e
  · obtain ⟨a, _, q⟩ := List.mem_map.mp hc
    cases q
    omega
  · obtain ⟨a, _, rfl⟩ := List.mem_map.mp hr
    obtain ⟨b, _, q⟩ := List.mem_map.mp hc
    cases q
    omega
  · obtain ⟨a, _, q⟩ := List.mem_map.mp hc
    cases q
    omega
def FoundAt (H : Hp) (x : V) : Option (Int × List Int) → Prop
  | none => x = .non
  | some (b, os) => ∃ p o, x = .ref p ∧ H p = some (.tup [.int b, .ref o]) ∧ IntsT H o os
def FoundOk (C : WO.Costs) : Option (Int × List Int) → Prop
  | none => ∀ o, WO.costOf C o = none
  | some (b, os) => WO.IsLeast C b os
def spLeast1 : Sp := fun vs H Q _ => ∃ c C, vs = [.ref c] ∧ CAt H c C ∧ C.Ok ∧ ∀ H' x fo, Same H H' → FoundAt H' x fo → FoundOk C fo → Q x H'
theorem least1 {vs : List V} {H : Hp} {Q : VK} {E : XK} (h : spLeast1 vs H Q E) : spLeast vs H Q E := by
  obtain ⟨c, C, e, hc, ok, q⟩ := h
  exact ⟨c, C, e, hc, ok, fun H' s n => q H' _ none s rfl n, fun H' p o b os s h1 h2 h3 => q H' _ (some (b, os)) s ⟨p, o, rfl, h1, h2⟩ h3⟩
theorem FoundAt.tups {H H' : Hp} {x : V} {fo : Option (Int × List Int)} (h : FoundAt H x fo) (k : ∀ a xs, H a = some (.tup xs) → H' a = some (.tup xs)) : FoundAt H' x fo := by
  cases fo with
  | none => exact h
  | some p =>
    obtain ⟨b, os⟩ := p
    obtain ⟨p, o, e, h1, h2⟩ := h
    exact ⟨p, o, e, k _ _ h1, k _ _ h2⟩
theorem FoundAt.non {H : Hp} {x : V} {fo : Option (Int × List Int)} (h : FoundAt H x fo) : decide (x = V.non) = fo.isNone := by
  cases fo with
  | none => exact decide_eq_true h
  | some p =>
    obtain ⟨b, os⟩ := p
    obtain ⟨p, o, rfl, _⟩ := h
    exact decide_eq_false fun z => by cases z
theorem found_worths {C : WO.Costs} (ok : C.Ok) {fo : Option (Int × List Int)} (h : FoundOk C fo) : fo.isNone = decide (WO.worths C (WO.allOrders C) = []) := by
  cases fo with
  | none => exact (decide_eq_true (WO.worths_none ok h)).symm
  | some p =>
    obtain ⟨b, os⟩ := p
    refine (decide_eq_false fun z => ?_).symm
    have := (WO.worths_some ok h).1
    rw [z] at this
    cases this
theorem ifB {a b : Bool} {A B : Prop} (h : a = b) (k : B) : if (!decide (V.bl a = V.bl b)) = true then A else B := by
  rw [h, decide_eq_true rfl]
  exact iteF k
theorem ifO {x y : Option Int} {A B : Prop} (h : x = y) (k : B) : if (!decide (oV x = oV y)) = true then A else B := by
  rw [h, decide_eq_true rfl]
  exact iteF k
end W7
end
section
set_option Elab.async false
set_option linter.all false
set_option maxRecDepth 100000
/-! the lambda -/
namespace W7
open PySem PySem.Spec PyProof.Rows L2
def lamOfE : Expr → LamT
  | .Lambda ps b sc _ => ⟨"law.<locals>.<lambda>", ps, b, sc⟩
  | _ => ⟨"", (defArgs sLaw), .Constant .none 0 ⟨0, 0, 0, 0⟩, defScope sLaw⟩
def lamOfS : Stmt → LamT
  | .Assign _ (.Call _ [_, _, e] _ _) _ => lamOfE e
  | _ => lamOfE (.Constant .none 0 ⟨0, 0, 0, 0⟩)
abbrev lamL : LamT := lamOfS ((defBody sLaw).getD 16 (.Pass ⟨0, 0, 0, 0⟩))
section
variable {P : Program} {w : World} {K : PySem.W.Frag} {mg : Str → Option Value} {base : Heap}
theorem scLam : FnScope ["_law_a", "_law_b"] ["_law_a", "_law_b"] lamL.scope := ⟨rfl, rfl, rfl, by decide +kernel, rfl, by decide +kernel, by decide +kernel⟩
theorem lam_ok {k : Nat} (T : Txt mg) : LamOk P w K mg base lamL (k + 1) 2 spDist := by
  refine lamOk_of scLam (fun vs H Q E h => ?_) (fun pm cv ctv us hl => match us, hl with | [_, _], _ => rfl) (fun cdv A outer s H f vs Q hr h => ?_)
  · obtain ⟨_, _, _, _, rfl, _⟩ := h
    rfl
  · obtain ⟨a, b, x, y, rfl, ha, hb, q⟩ := h
    refine ⟨_, pe_callB call_abs (by rfl) T.abs bt_abs (pa_cons (pe_op op_sub (pe_ix (tup7 (K := K) rfl) (pv 0) pe_int (fun _ _ => rfl)) (pe_ix (tup7 (K := K) rfl) (pv 1) pe_int (fun _ _ => rfl))) pa_nil), ?_⟩
    refine ⟨_, rfl, a, _, 0, _, rfl, rfl, SqT.of ha, rfl, _, rfl, b, _, 0, _, rfl, rfl, SqT.of hb, rfl, _, _, rfl, rfl, _, rfl, ?_⟩
    rw [abs_nat]
    exact q
end
end W7
end
section
set_option Elab.async false
set_option linter.all false
set_option maxRecDepth 100000
/-! law -/
namespace W7
open PySem PySem.Spec PyProof.Rows L2
structure Ready (P : Program) (w : World) (K : PySem.W.Frag) (mg : Str → Option Value) (base : Heap) (k : Nat) (f : Addr) (fd : FuncData) (x : Str) (ps : List Str) (sp : Sp) : Prop where
  ok : FnOk P w K mg base CX0 k f fd ps sp
  g : mg x = some (.ref f)
  kp : PySem.W.keepIn K (.ref f) = true
  b : Binds K fd ps []
theorem use_readS {T : TT} {σ : L2.St} {H : Hp} {Q : Bool → Hp → Prop} {b : Bool} (h : ∀ Q' : Bool → Hp → Prop, (∀ H', Same H H' → Q' b H') → T σ H Q') (hq : ∀ H', Same H H' → Q b H') : T σ H Q := h Q hq
theorem cutA_read {K : PySem.W.Frag} {H : Hp} {p : Addr} {os : List Int} {Q : VK} (it : IntsT H p os) (h : ∀ H' q, Same H H' → IntsT H' q os.dropLast → Q (.ref q) H') : rSlA K (.ref p) none (some (-1)) H Q := by
  refine ⟨p, _, rfl, SqT.of it, fun ⟨_, w⟩ => ?_, fun _ q nq => h _ q (same_new nq _) ?_⟩
  · have w : ((-1 : Int) + ((os.map V.int).length : Int)).toNat = (os.map V.int).length := w
    rw [List.length_map] at w
    have : os = [] := List.length_eq_zero_iff.mp (by omega)
    subst this
    exact h H p (.refl H) it
  · show upd H q _ q = _
    rw [upd_same, cut_last, List.map_dropLast]
theorem eqv_allO : ∀ l : List (Option Int), PyData.eqvAll (l.map dO) (l.map dO) = true
  | [] => rfl
  | x :: l => by
    rw [List.map_cons]
    simp only [PyData.eqvAll, eqv_allO l]
    cases x <;> simp [dO, PyData.eqv]
theorem eqv_TO (l : List (Option Int)) : PyData.eqv (dTO l) (dTO l) = true := by
  unfold dTO
  simp only [PyData.eqv]
  exact eqv_allO l
theorem all_ne (C : WO.Costs) : WO.allOrders C ≠ [] := fun z => by
  have : (WO.upto C.n).map (fun x => 2 * x) ∈ WO.allOrders C := by
    rw [WO.all_iff, List.map_map]
    have : ((fun x : Int => x / 2) ∘ fun x => 2 * x) = id := funext fun x => by
      show 2 * x / 2 = x
      omega
    rw [this, List.map_id]
  rw [z] at this
  cases this
def spLOrdersA : Sp := fun vs H Q E => ∃ n, n ≤ 3 ∧ spLOrders n vs H Q E
section
variable {Pg : Program} {w : World} {K : PySem.W.Frag} {mg : Str → Option Value} {base : Heap} {fC fO fL fLe fAre fP fCo fH fI fN fB : Addr} {dC dOo dLc dLe dAre dP dCo dH dI dN dB : FuncData}
theorem scL : FnScope ["_law_script", "_law_draw_here", "_law_costs_here", "_law_orders_here", "_law_order", "_law_worths", "_law_found", "_law_one", "_law_cost_here", "_law_heights", "_law_late", "_law_ends", "_law_told", "_law_turn", "_law_end"] ["_law_script"] (defScope sLaw) := ⟨rfl, rfl, rfl, by decide +kernel, rfl, by decide +kernel, by decide +kernel⟩
set_option maxHeartbeats 0 in
theorem ok_law {k : Nat} {f cd TP : Addr} {oc dV kV doc pm ct : Value} {an od : Option Addr} {osl : Array (Option Value)}
    (lk : K.lookup f = some ⟨oc, od, .func (PySem.W.fnOf "law" "law" (defArgs sLaw) (defBody sLaw) (defScope sLaw) dV kV doc pm an (.ref cd) ct), osl⟩) (hcd : PySem.W.codeIn K (.ref cd) "law" = true) (TB : LamX.TabB base mg cd TP) (T : Txt mg)
    (GC : Ready Pg w K mg base k fC dC "_law_costs" ["_law_draw_here"] (spLCosts K)) (GO : Ready Pg w K mg base k fO dOo "_law_orders" ["_law_left"] spLOrdersA)
    (GL : Ready Pg w K mg base k fL dLc "_law_cost" ["_law_costs_here", "_law_order"] spLCost) (GLe : Ready Pg w K mg base k fLe dLe "least_order" ["costs"] spLeast1)
    (GAre : Ready Pg w K mg base k fAre dAre "are_costs" ["thing"] spAre) (GP : Ready Pg w K mg base k fP dP "_law_pick" ["_law_draw_here", "_law_things"] (spPick K))
    (GCo : Ready Pg w K mg base k fCo dCo "cost_of" ["costs", "order"] spCostOf) (GH : Ready Pg w K mg base k fH dH "heights_of" ["costs"] (spHeights Pg w))
    (GI : Ready Pg w K mg base k fI dI "is_least_order" ["costs", "order", "heights"] (spIsLeast Pg w)) (GN : Ready Pg w K mg base k fN dN "_law_next" ["_law_draw_here", "_law_bound"] (spNext K))
    (GB : Ready Pg w K mg base k fB dB "costs_between" ["ends", "home", "distance"] (spBetween lamL)) :
    FnOk Pg w K mg base CX0 (k + 1) f (PySem.W.fnOf "law" "law" (defArgs sLaw) (defBody sLaw) (defScope sLaw) dV kV doc pm an (.ref cd) ct) ["_law_script"] (spLaw K TP) := by
  refine fn_of lk hcd scL (fun vs H Q E h => ?_) (fun A outer s H vs Q E hr h => ?_)
  · obtain ⟨_, _, rfl, _⟩ := h
    rfl
  · obtain ⟨a, ns, rfl, hs, h63, hTP, q⟩ := h
    have hu := hr.units
    refine ⟨_, PSs.nox ((pss_cons (ps_set (i := 1) scL.nd rfl (.inr rfl) (pe_lst (pa_cons (pe_slice sl_list (pv 0) po_none (po_some pe_int)) (pa_cons pe_int (pa_cons pe_int pa_nil)))))
      (pss_cons (ps_set (i := 2) scL.nd rfl (.inr rfl) (pe_call GC.ok hr (by rfl) GC.g GC.kp GC.b .nil pass0 (pa_cons (pv 1) pa_nil)))
      (pss_cons (ps_set (i := 3) scL.nd rfl (.inl rfl) (pe_call GO.ok hr (by rfl) GO.g GO.kp GO.b .nil pass0 (pa_cons (pe_listRg rfl (by rfl) T.list (prg_1 (by rfl) T.range (pe_op op_fdiv (pe_callB (len7 (K := K) rfl) (by rfl) T.len boot_len (pa_cons (pe_ix (tup7 (K := K) rfl) (pv 2) pe_int (fun _ _ => rfl)) pa_nil)) pe_int))) pa_nil)))
      (pss_cons (ps_setLc (i := 5) (own := [("_law_order", 4)]) (g := gName 4) rfl scL.nd rfl rfl (sw_true rfl rfl rfl (by decide +kernel)) (pi_list (pv 3)) (blkOk_by (own := [("_law_order", 4)]) (N := ["_law_script", "_law_draw_here", "_law_costs_here", "_law_orders_here", "_law_order", "_law_worths", "_law_found", "_law_one", "_law_cost_here", "_law_heights", "_law_late", "_law_ends", "_law_told", "_law_turn", "_law_end"]) (sc := defScope sLaw) (by decide +kernel)) (fun _ _ _ _ _ => pg_name (i := 4) scL.nd rfl (Or.inl rfl)) (fun _ _ _ _ _ => pts_one (pt_cmp (pc_notN (pe_call GL.ok hr (by rfl) GL.g GL.kp GL.b .nil pass0 (pa_cons (pv 2) (pa_cons (pv 4) pa_nil)))))) (fun _ _ _ _ _ => (pe_call GL.ok hr (by rfl) GL.g GL.kp GL.b .nil pass0 (pa_cons (pv 2) (pa_cons (pv 4) pa_nil)))))
      (pss_cons (ps_set (i := 6) scL.nd rfl (.inl rfl) (pe_call GLe.ok hr (by rfl) GLe.g GLe.kp GLe.b .nil pass0 (pa_cons (pv 2) pa_nil)))
      (pss_cons (ps_if (PW.pt (pw_or (pt_not (pt_val (pe_call GAre.ok hr (by rfl) GAre.g GAre.kp GAre.b .nil pass0 (pa_cons (pv 2) pa_nil)))) (pw_or1 (pt_cmpR op_ne (pe_cmp (pc_isN (pv 6)) rfl) (pe_cmpR (op_eqD hu) (pv 5) (pe_lst pa_nil) (nomark _)) (nomark _))))) (pss_one (ps_ret pe_bl)) pss_nil)
      (pss_cons (ps_set (i := 7) scL.nd rfl (.inl rfl) (pe_call GP.ok hr (by rfl) GP.g GP.kp GP.b .nil pass0 (pa_cons (pv 1) (pa_cons (pv 3) pa_nil))))
      (pss_cons (ps_if (PW.pt (pw_or (pt_cmpR op_ne (pe_call GCo.ok hr (by rfl) GCo.g GCo.kp GCo.b .nil pass0 (pa_cons (pv 2) (pa_cons (pv 7) pa_nil))) (pe_call GL.ok hr (by rfl) GL.g GL.kp GL.b .nil pass0 (pa_cons (pv 2) (pa_cons (pv 7) pa_nil))) (nomark _)) (pw_or1 (pt_cmpR op_ne (pe_call GCo.ok hr (by rfl) GCo.g GCo.kp GCo.b .nil pass0 (pa_cons (pv 2) (pa_cons (pe_slice sl_tupA (pv 7) po_none (po_some (pe_un un_neg pe_int))) pa_nil))) (pe_call GL.ok hr (by rfl) GL.g GL.kp GL.b .nil pass0 (pa_cons (pv 2) (pa_cons (pe_slice sl_tupA (pv 7) po_none (po_some (pe_un un_neg pe_int))) pa_nil))) (nomark _))))) (pss_one (ps_ret pe_bl)) pss_nil)
      (pss_cons (ps_if (pt_cmp (pc_isN (pv 6))) (pss_one (ps_ret pe_bl)) pss_nil)
      (pss_cons (ps_asg (pv 6) (pg_tup (by rfl) (pgs_cons (pg_name (i := 8) scL.nd rfl (.inl rfl)) (pgs_cons (pg_name (i := 4) scL.nd rfl (.inl rfl)) pgs_nil))))
      (pss_cons (ps_set (i := 9) scL.nd rfl (.inl rfl) (pe_call GH.ok hr (by rfl) GH.g GH.kp GH.b .nil pass0 (pa_cons (pv 2) pa_nil)))
      (pss_cons (ps_if (PW.pt (pw_or (pt_cmpR op_ne (pv 8) (pe_callB (cr_min rfl) (by rfl) T.min bt_min (pa_cons (pv 5) pa_nil)) (nomark _)) (pw_or (pt_cmpR op_ne (pe_call GL.ok hr (by rfl) GL.g GL.kp GL.b .nil pass0 (pa_cons (pv 2) (pa_cons (pv 4) pa_nil))) (pv 8) (nomark _)) (pw_or1 (pt_not (pt_val (pe_call GI.ok hr (by rfl) GI.g GI.kp GI.b .nil pass0 (pa_cons (pv 2) (pa_cons (pv 4) (pa_cons (pv 9) pa_nil)))))))))) (pss_one (ps_ret pe_bl)) pss_nil)
      (pss_cons (ps_set (i := 10) scL.nd rfl (.inl rfl) (pe_callTy (dict7 (P := Pg) (w := w) rfl rfl hu) (by rfl) T.dict bt_dict (pa_cons (pv 9) pa_nil)))
      (pss_cons (ps_asg (pe_call GN.ok hr (by rfl) GN.g GN.kp GN.b .nil pass0 (pa_cons (pv 1) (pa_cons pe_int pa_nil))) (pg_sub (pv 10) (pe_call GP.ok hr (by rfl) GP.g GP.kp GP.b .nil pass0 (pa_cons (pv 1) (pa_cons (pe_callB (sort7 (P := Pg) (w := w) rfl rfl rfl hu) (by rfl) T.sorted bt_sorted (pa_cons (pv 9) pa_nil)) pa_nil))) (set7 (P := Pg) (w := w) rfl rfl hu)))
      (pss_cons (ps_if (PW.pt (pw_or (PW.pt (pw_and (pt_val (pe_call GI.ok hr (by rfl) GI.g GI.kp GI.b .nil pass0 (pa_cons (pv 2) (pa_cons (pv 7) (pa_cons (pv 10) pa_nil))))) (pw_and1 (pt_cmpR op_ne (pe_call GL.ok hr (by rfl) GL.g GL.kp GL.b .nil pass0 (pa_cons (pv 2) (pa_cons (pv 7) pa_nil))) (pv 8) (nomark _))))) (pw_or1 (pt_val (pe_call GI.ok hr (by rfl) GI.g GI.kp GI.b .nil pass0 (pa_cons (pv 2) (pa_cons (pv 4) (pa_cons (dnew7 (P := Pg) (w := w) rfl rfl) pa_nil)))))))) (pss_one (ps_ret pe_bl)) pss_nil)
      (pss_cons (ps_set (i := 11) scL.nd rfl (.inr rfl) (pe_lc (own := [("_law_turn", 13)]) (g := gName 13) (tt := tYes) rfl scL.nd (pi_range1 (by rfl) T.range (pa_cons (pe_op op_mul pe_int (pe_op op_add pe_int (pe_call GN.ok hr (by rfl) GN.g GN.kp GN.b .nil pass0 (pa_cons (pv 1) (pa_cons pe_int pa_nil))))) pa_nil)) (blkOk_by (own := [("_law_turn", 13)]) (N := ["_law_script", "_law_draw_here", "_law_costs_here", "_law_orders_here", "_law_order", "_law_worths", "_law_found", "_law_one", "_law_cost_here", "_law_heights", "_law_late", "_law_ends", "_law_told", "_law_turn", "_law_end"]) (sc := defScope sLaw) (by decide +kernel)) (fun _ _ _ _ _ => pg_name (i := 13) scL.nd rfl (Or.inl rfl)) (fun _ _ _ _ _ => pts_nil) (fun _ _ _ _ _ => pe_tup (pa_cons (pe_call GN.ok hr (by rfl) GN.g GN.kp GN.b .nil pass0 (pa_cons (pv 1) (pa_cons pe_int pa_nil))) (pa_cons pe_int (pa_cons pe_int pa_nil))))))
      (pss_cons (ps_set (i := 12) scL.nd rfl (.inl rfl) (pe_call GB.ok hr (by rfl) GB.g GB.kp GB.b .nil pass0 (pa_cons (pv 11) (pa_cons (pe_tup (pa_cons pe_int (pa_cons pe_int (pa_cons pe_int pa_nil)))) (pa_cons (pe_lam (L := lamL) TB rfl rfl rfl (by decide +kernel) rfl) pa_nil)))))
      (pss_cons (ps_if (PW.pt (pw_or (pt_cmpR (op_neD hu) (pe_ix (tup7 (K := K) rfl) (pv 12) pe_int (fun _ _ => rfl)) (pe_callTy (tupof7 (K := K) rfl) (by rfl) T.tuple bt_tuple (pa_cons (pe_lc (own := [("_law_end", 14)]) (g := gName 14) (tt := tYes) rfl scL.nd (pi_list (pv 11)) (blkOk_by (own := [("_law_end", 14)]) (N := ["_law_script", "_law_draw_here", "_law_costs_here", "_law_orders_here", "_law_order", "_law_worths", "_law_found", "_law_one", "_law_cost_here", "_law_heights", "_law_late", "_law_ends", "_law_told", "_law_turn", "_law_end"]) (sc := defScope sLaw) (by decide +kernel)) (fun _ _ _ _ _ => pg_name (i := 14) scL.nd rfl (Or.inl rfl)) (fun _ _ _ _ _ => pts_nil) (fun _ _ _ _ _ => (pe_callB call_abs (by rfl) T.abs bt_abs (pa_cons (pe_op op_sub pe_int (pe_ix (tup7 (K := K) rfl) (pv 14) pe_int (fun _ _ => rfl))) pa_nil)))) pa_nil)) (nomark _)) (pw_or1 (pt_cmpR (op_neD hu) (pe_ix (tup7 (K := K) rfl) (pe_ix (tup7 (K := K) rfl) (pv 12) pe_int (fun _ _ => rfl)) pe_int (fun _ _ => rfl)) (pe_callTy (tupof7 (K := K) rfl) (by rfl) T.tuple bt_tuple (pa_cons (pe_lc (own := [("_law_end", 14)]) (g := gName 14) (tt := tYes) rfl scL.nd (pi_list (pv 11)) (blkOk_by (own := [("_law_end", 14)]) (N := ["_law_script", "_law_draw_here", "_law_costs_here", "_law_orders_here", "_law_order", "_law_worths", "_law_found", "_law_one", "_law_cost_here", "_law_heights", "_law_late", "_law_ends", "_law_told", "_law_turn", "_law_end"]) (sc := defScope sLaw) (by decide +kernel)) (fun _ _ _ _ _ => pg_name (i := 14) scL.nd rfl (Or.inl rfl)) (fun _ _ _ _ _ => pts_nil) (fun _ _ _ _ _ => (pe_callB call_abs (by rfl) T.abs bt_abs (pa_cons (pe_op op_sub (pe_ix (tup7 (K := K) rfl) (pe_ix (lst7 (K := K) rfl) (pv 11) pe_int (fun _ _ => rfl)) pe_int (fun _ _ => rfl)) (pe_ix (tup7 (K := K) rfl) (pv 14) pe_int (fun _ _ => rfl))) pa_nil)))) pa_nil)) (nomark _))))) (pss_one (ps_ret pe_bl)) pss_nil)
      (pss_one (ps_ret (pe_call GAre.ok hr (by rfl) GAre.g GAre.kp GAre.b .nil pass0 (pa_cons (pv 12) pa_nil))))))))))))))))))))))), ?_⟩
    -- draw = [script[:63], 0, 0]
    obtain ⟨ms, em⟩ := cut_ints ns none (some 63)
    refine ⟨_, rfl, 63, rfl, a, _, rfl, hs, fun sc nsc => ⟨(by show 3 ≤ sizeLine; decide), fun d nd0 => ?_⟩⟩
    have a1 := (same_new nsc (.lst (cutV (ns.map V.int) none (some 63)))).new7 nd0 (.lst [.ref sc, .int 0, .int 0])
    have dr : DrawAt K (upd (upd H sc (.lst (cutV (ns.map V.int) none (some 63)))) d (.lst [.ref sc, .int 0, .int 0])) d sc := by
      refine ⟨ms, 0, 0, upd_same, ?_, ne_of_none upd_same nd0, by decide, by decide⟩
      rw [← em]
      exact SqL.of (same_new nd0 _ _ _ upd_same)
    have tp := a1 _ _ hTP
    have tpd : TP ≠ d := ne_of_none (same_new nsc (.lst (cutV (ns.map V.int) none (some 63))) _ _ hTP) nd0
    clear hTP hs a1
    generalize (upd (upd H sc (.lst (cutV (ns.map V.int) none (some 63)))) d (.lst [.ref sc, .int 0, .int 0])) = H1 at dr tp ⊢
    -- costs
    refine ⟨_, rfl, d, sc, rfl, dr, fun H2 c C b2 dr2 hc ok => ?_⟩
    have tp := b2 _ _ tpd tp
    have n3 := ok.n3
    -- orders
    obtain ⟨fa, ba, la, rs, h1, h2, h3, h4, h5⟩ := id hc
    have lf : ((C.first.map oV).length : Int) / 2 = (C.n : Int) := by rw [List.length_map, ok.f]; omega
    refine ⟨_, rfl, c, _, 0, _, rfl, rfl, SqT.of h1, rfl, fa, _, rfl, .inr (SqT.of h2), _, _, rfl, rfl, ⟨by decide, by decide⟩, (C.n : Int), congrArg V.int lf, RgOk.of_le (by decide) (by omega) (by decide) (by omega), fun la0 nla => ?_⟩
    rw [rg_upto]
    refine ⟨C.n, n3, la0, WO.upto C.n, rfl, upd_same, WO.upto_len _, WO.upto_nodup _, fun H3 r s3 nr ⟨ps, er, pp⟩ => ?_⟩
    have s23 := (same_new nla _).trans s3
    have dr3 := dr2.same s23
    have rd : r ≠ d := (dr2.same (same_new nla _)).lst_ne nr
    have hc3 := hc.keep s23
    have tp := s23 _ _ tp
    have pp : Paired (IntsT H3) ps (WO.allOrders C) := pp
    clear s23 s3 nr nla hc dr dr2 b2 h1 h2 h3 h4 h5
    -- worths
    have ordAt : ∀ {o : List Int}, o ∈ WO.allOrders C → (∀ e ∈ o, 0 ≤ e ∧ e < 2 * (C.n : Int)) ∧ o.length ≤ 100 := fun ho => ⟨(WO.all_part ho).1.rng, by rw [(WO.all_part ho).2]; omega⟩
    refine ⟨_, rfl, r, rfl, ⟨_, SqL.of er⟩, fun wA nwA => ?_⟩
    refine lc_list (K := K) (xs := ps.map V.ref) (fun i H' => Same H3 H' ∧ H' wA = some (.lst ((WO.worths C ((WO.allOrders C).take i)).map V.int))) ⟨same_new nwA _, upd_same⟩ (fun i H' _ p => p.1.seq (SqL.of er)) ?_ ?_
    · rintro i x H' hx ⟨s4, e4⟩
      rw [List.getElem?_map] at hx
      obtain ⟨p, hp, rfl⟩ := Option.map_eq_some_iff.mp hx
      obtain ⟨o, ho, it⟩ := paired_at pp hp
      have hom := List.mem_of_getElem? ho
      have tk : (WO.allOrders C).take (i + 1) = (WO.allOrders C).take i ++ [o] := by
        rw [List.take_add_one, ho]
        rfl
      refine ⟨rfl, _, rfl, _, rfl, c, C, p, o, rfl, hc3.keep s4, ok, it.same s4, (ordAt hom).1, (ordAt hom).2, fun H5 s5 => ⟨_, rfl, ?_⟩⟩
      refine ifNN (fun z hz => ?_) (fun hz => ?_)
      · have s45 := s4.trans s5
        refine ⟨_, rfl, _, rfl, c, C, p, o, rfl, hc3.keep s45, ok, it.same s45, (ordAt hom).1, (ordAt hom).2, fun H6 s6 => ⟨_, (s5.trans s6) _ _ e4, ?_, (s45.trans s6).wr7 nwA _, ?_⟩⟩
        · rw [List.length_map]
          have l1 : (WO.worths C ((WO.allOrders C).take i)).length ≤ ((WO.allOrders C).take i).length := List.length_filterMap_le _ _
          have l2 : ((WO.allOrders C).take i).length ≤ (WO.allOrders C).length := by rw [List.length_take]; exact Nat.min_le_right _ _
          have l3 := WO.orders_len (k := C.n) (left := WO.upto C.n) (by rw [WO.upto_len]; exact n3)
          have l4 : 6 ^ C.n ≤ 6 ^ 3 := Nat.pow_le_pow_right (by decide) n3
          have l5 : (WO.allOrders C).length ≤ 6 ^ C.n := l3
          exact sizeLine_big (by omega)
        · rw [upd_same, tk, WO.worths_snoc, hz, List.map_append]
          rfl
      · refine ⟨s4.trans s5, ?_⟩
        rw [tk, WO.worths_snoc, hz, Option.toList_none, List.append_nil]
        exact s5 _ _ e4
    rintro H4 ⟨s4, e4⟩
    rw [List.length_map, paired_len pp, List.take_length] at e4
    have wAd : wA ≠ d := dr3.lst_ne nwA
    have hc4 := hc3.keep s4
    have dr4 := dr3.same s4
    have er4 := s4 _ _ er
    have pp4 := pmap (fun _ _ q => IntsT.same q s4) pp
    have tp := s4 _ _ tp
    clear s4 pp er hc3 dr3 nwA
    -- found
    refine ⟨_, rfl, c, C, rfl, hc4, ok, fun H5 x fo s5 fa5 fk => ?_⟩
    have hc5 := hc4.keep s5
    -- if not are_costs(costs) or ...
    refine ⟨_, rfl, c, C, rfl, hc5, ok, fun H6 s6 => ⟨_, rfl, iteF ?_⟩⟩
    have s56 := s5.trans s6
    refine ⟨_, rfl, _, rfl, Nat.zero_le _, fun zA nzA => ⟨dL (WO.worths C (WO.allOrders C)), .list [], dp_L ((s56.new7 nzA _) _ _ e4), .lst (SqL.of upd_same) .nil, sh_L _, sh_N0, rfl, _, rfl, ifB ?_ ?_⟩⟩
    · rw [fa5.non, show PyData.eqv (dL (WO.worths C (WO.allOrders C))) (.list []) = decide (WO.worths C (WO.allOrders C) = []) from eqv_L _ []]
      exact found_worths ok fk
    have s7 := s56.new7 nzA (.lst [])
    have fa7 := fa5.tups fun a xs e => (s6.new7 nzA (.lst [])) _ _ e
    have hc7 := hc4.keep s7
    have dr7 := dr4.same s7
    have er7 := s7 _ _ er4
    have e7 := s7 _ _ e4
    have pp7 := pmap (fun _ _ q => IntsT.same q s7) pp4
    have tp := s7 _ _ tp
    clear s7 s56 pp4 er4 e4 dr4 hc4 fa5 hc5
    generalize (upd H6 zA (.lst [])) = H7 at fa7 hc7 dr7 er7 e7 pp7 tp ⊢
        -- one = pick(draw, orders)
    have pne : ps.map V.ref ≠ [] := fun z => by
      have e1 := paired_len pp7
      have e2 : ps.length = 0 := by simpa using congrArg List.length z
      exact all_ne C (List.length_eq_zero_iff.mp (by omega))
    refine ⟨_, rfl, _, rfl, d, sc, r, _, rfl, dr7, rd, SqL.of er7, pne, fun H8 x1 b8 dr8 hx1 => ?_⟩
    obtain ⟨p1, hp1, rfl⟩ := List.mem_map.mp hx1
    obtain ⟨i1, hi1⟩ := List.mem_iff_getElem?.mp hp1
    obtain ⟨o1, ho1, it1⟩ := paired_at pp7 hi1
    have om1 := List.mem_of_getElem? ho1
    have k78 := dr7.tups b8
    have it8 : IntsT H8 p1 o1 := k78 _ _ it1
    have fa8 := fa7.tups k78
    have hc8 := hc7.tups k78
    have e8 := b8 _ _ wAd e7
    have tp := b8 _ _ tpd tp
    clear k78 b8 it1 fa7 hc7 e7 er7 pp7 dr7 hx1
    have rg1 := (ordAt om1).1
    have ln1 := (ordAt om1).2
    -- if cost_of(costs, one) != _law_cost(costs, one) or ...
    refine ⟨_, rfl, _, rfl, c, C, p1, o1, rfl, hc8, ok, it8, rg1, fun H9 s9 => ⟨_, rfl, _, rfl, c, C, p1, o1, rfl, hc8.keep s9, ok, it8.same s9, rg1, ln1, fun H10 s10 => ⟨scal_oV _ _, _, rfl, ifO (WO.cost_law ok (WO.all_part om1).1) ?_⟩⟩⟩
    have s810 := s9.trans s10
    have rg2 : ∀ e ∈ o1.dropLast, 0 ≤ e ∧ e < 2 * (C.n : Int) := fun e he => rg1 e ((List.dropLast_sublist o1).subset he)
    have ln2 : o1.dropLast.length ≤ 100 := by
      rw [List.length_dropLast]
      omega
    refine ⟨_, rfl, _, rfl, 1, rfl, -1, rfl, cutA_read (K := K) (it8.same s810) fun H11 q1 s11 iq1 => ?_⟩
    have s811 := s810.trans s11
    refine ⟨c, C, q1, _, rfl, hc8.keep s811, ok, iq1, rg2, fun H12 s12 => ?_⟩
    have s812 := s811.trans s12
    refine ⟨_, rfl, _, rfl, 1, rfl, -1, rfl, cutA_read (K := K) (it8.same s812) fun H13 q2 s13 iq2 => ?_⟩
    have s813 := s812.trans s13
    refine ⟨c, C, q2, _, rfl, hc8.keep s813, ok, iq2, rg2, ln2, fun H14 s14 => ⟨scal_oV _ _, _, rfl, ifO (WO.drop_law ok om1) ?_⟩⟩
    have s814 := s813.trans s14
    have it14 := it8.same s814
    have fa14 := fa8.tups fun a xs e => s814 _ _ e
    have hc14 := hc8.keep s814
    have dr14 := dr8.same s814
    have e14 := s814 _ _ e8
    have tp := s814 _ _ tp
    clear s814 s813 s812 s811 s810 s9 s10 s11 s12 s13 s14 iq1 iq2 it8 fa8 hc8 dr8 e8
    -- if found is None
    refine ⟨_, rfl, _, rfl, ?_⟩
    rw [fa14.non]
    cases fo with
    | none => exact iteT (q _)
    | some bo =>
      obtain ⟨b, os⟩ := bo
      refine iteF ?_
      have Lst : WO.IsLeast C b os := fk
      obtain ⟨pA, oA, rfl, f1, f2⟩ := fa14
      have rgo := (ordAt Lst.1).1
      have lno := (ordAt Lst.1).2
      have lawo : WO.lawCost C os = some b := by rw [← WO.cost_law ok (WO.all_part Lst.1).1]; exact Lst.2.1
      -- cost_here, order = found
      refine ⟨_, rfl, pA, _, rfl, SqT.of f1, rfl, _, _, rfl, _, _, rfl, rfl, ?_⟩
      -- heights = heights_of(costs)
      refine ⟨_, rfl, c, C, rfl, hc14, ok, fun H15 hd es s15 nhd ehd nd Ht hlen => ?_⟩
      have hdd : hd ≠ d := dr14.lst_ne nhd
      have it15 := it14.same s15
      have f15 : IntsT H15 oA os := s15 _ _ f2
      have hc15 := hc14.keep s15
      have dr15 := dr14.same s15
      have e15 := s15 _ _ e14
      have tp := s15 _ _ tp
      clear s15 f1 f2 it14 hc14 dr14 e14
      have wS := WO.worths_some ok Lst
      -- if cost_here != min(worths) or ...
      refine ⟨_, rfl, _, rfl, wA, _, rfl, SqL.of e15, List.length_pos_of_mem wS.1, fun m hm hle => ⟨rfl, _, rfl, ifnv (fun z => absurd (Int.le_antisymm (wS.2 m hm) (hle b wS.1)) z) fun _ => ?_⟩⟩
      refine ⟨_, rfl, _, rfl, c, C, oA, os, rfl, hc15, ok, f15, rgo, lno, fun H16 s16 => ?_⟩
      rw [lawo]
      refine ⟨_, rfl, rfl, _, rfl, ifnv (fun z => absurd rfl z) fun _ => ?_⟩
      refine ⟨_, rfl, _, rfl, _, rfl, c, C, oA, os, hd, es, rfl, hc15.keep s16, ok, f15.same s16, rgo, s16 _ _ ehd, nd.same s16, Ht.nd, Ht.good, fun H17 s17 => ?_⟩
      rw [WO.hts_shows Ht Lst]
      refine ⟨_, rfl, iteF ?_⟩
      have s1517 := s16.trans s17
      have it17 := it15.same s1517
      have f17 := f15.same s1517
      have hc17 := hc15.keep s1517
      have dr17 := dr15.same s1517
      have nd17 := nd.same s1517
      have tp := s1517 _ _ tp
      clear s1517 s16 s17 it15 f15 hc15 dr15 nd ehd e15 nhd
      -- late = dict(heights)
      refine ⟨_, rfl, hd, es, rfl, nd17, hash_nodup n3 w Ht.nd Ht.good, by omega, fun ld nld => ?_⟩
      have s18 := same_new nld (NDo Pg w ld es)
      have ldd : ld ≠ d := dr17.lst_ne nld
      have e18 : (upd H17 ld (NDo Pg w ld es)) ld = some (NDo Pg w ld es) := upd_same
      have it18 := it17.same s18
      have f18 := f17.same s18
      have hc18 := hc17.keep s18
      have dr18 := dr17.same s18
      have nd18 := nd17.same s18
      have tpl : TP ≠ ld := ne_of_none tp nld
      have tp := s18 _ _ tp
      have b18 : But H17 (upd H17 ld (NDo Pg w ld es)) d := .of s18
      clear s18 it17 f17 hc17 nd17
      generalize (upd H17 ld (NDo Pg w ld es)) = H18 at e18 it18 f18 hc18 dr18 nd18 tp b18 ⊢
      -- late[pick(draw, sorted(heights))] = next(draw, 12)
      refine ⟨_, rfl, d, sc, 12, rfl, dr18, by decide, fun H19 v b19 dr19 _ _ => ?_⟩
      have k19 := dr18.tups b19
      have nd19 : ND Pg w H19 hd es := nd18.keep (fun u hu => b19 _ _ hdd hu) k19
      refine ⟨_, rfl, _, rfl, _, rfl, hd, es, rfl, nd19, by omega, fun fs sA pm nsA => ?_⟩
      have fsne : fs.map (fun e => V.ref e.2.1) ≠ [] := fun z => by
        have z1 : fs = [] := by simpa using z
        rw [z1] at pm
        have z2 : es = [] := List.nil_perm.mp pm
        have := Ht.beg
        rw [z2] at this
        cases this
      have k20 := same_new nsA (.lst (fs.map fun e => V.ref e.2.1))
      refine ⟨d, sc, sA, _, rfl, dr19.same k20, dr19.lst_ne nsA, SqL.of upd_same, fsne, fun H21 x2 b21 dr21 hx2 => ?_⟩
      obtain ⟨e2, he2, rfl⟩ := List.mem_map.mp hx2
      have he2 := pm.mem_iff.mp he2
      have k21 := (dr19.same k20).tups b21
      have k1821 : ∀ a xs, H18 a = some (.tup xs) → H21 a = some (.tup xs) := fun a xs e => k21 _ _ (k20 _ _ (k19 _ _ e))
      have e21 : H21 ld = some (NDo Pg w ld es) := b21 _ _ ldd (k20 _ _ (b19 _ _ ldd e18))
      have nd21 : ND Pg w H21 hd es := nd19.keep (fun u hu => b21 _ _ hdd (k20 _ _ hu)) fun a xs e => k21 _ _ (k20 _ _ e)
      refine ⟨ld, e2.2.1, e2.1, es, v, rfl, rfl, rfl, nd21.st e2 he2, e21, nd21.st, by omega, ?_⟩
      have kt : ∀ a xs, H21 a = some (.tup xs) → (upd H21 ld (NDo Pg w ld (putE es e2.1 e2.2.1 v))) a = some (.tup xs) := fun a xs e => by
        rw [upd_ne (fun z => by rw [z, e21] at e; exact ndo_tup (Option.some.inj e))]
        exact e
      have e22 : (upd H21 ld (NDo Pg w ld (putE es e2.1 e2.2.1 v))) ld = some (NDo Pg w ld (putE es e2.1 e2.2.1 v)) := upd_same
      have nd22 : ND Pg w (upd H21 ld (NDo Pg w ld (putE es e2.1 e2.2.1 v))) ld (putE es e2.1 e2.2.1 v) := ⟨.inl upd_same, fun e' he' => by
        rcases putE_mem he' with ⟨z1, z2⟩ | ⟨e3, he3, z1, z2⟩
        · rw [z1, z2]
          exact (nd21.st e2 he2).keep kt
        · rw [z1, z2]
          exact (nd21.st e3 he3).keep kt⟩
      have dr22 : DrawAt K (upd H21 ld (NDo Pg w ld (putE es e2.1 e2.2.1 v))) d sc := dr17.wr dr21 (((b18.trans b19).trans (.of k20)).trans b21) nld _
      have it22 : IntsT _ p1 o1 := kt _ _ (k1821 _ _ it18)
      have f22 : IntsT _ oA os := kt _ _ (k1821 _ _ f18)
      have hc22 := (hc18.tups k1821).tups kt
      have tp22 : (upd H21 ld (NDo Pg w ld (putE es e2.1 e2.2.1 v))) TP = some (.tbl #[]) := by
        rw [upd_ne tpl]
        exact b21 _ _ tpd (k20 _ _ (b19 _ _ tpd tp))
      have kk : (WO.keys (tab (putE es e2.1 e2.2.1 v))).Nodup := by
        rw [tab_put]
        exact WO.put_nodup Ht.nd
      have kg : ∀ s u, (s, u) ∈ tab (putE es e2.1 e2.2.1 v) → WO.Good C.n s := by
        rw [tab_put]
        exact WO.put_good Ht.good (WO.mem_keys.mpr ⟨_, tab_mem he2⟩)
      clear kt e21 nd21 k1821 k21 k20 k19 nd19 it18 f18 hc18 e18 dr18 nd18 tp b19 b21 b18 dr17 nld dr19 tpl
      generalize (upd H21 ld (NDo Pg w ld (putE es e2.1 e2.2.1 v))) = H22 at e22 nd22 dr22 it22 f22 hc22 tp22 ⊢
      -- if is_least_order(costs, one, late) and ... or ...
      dsimp only [tSeq]
      change tIfS _ _ _ _ _ _
      change tOr _ _ _ _ _
      change tAnd _ _ _ _ _
      refine use_readS (b := false) (fun Q' hQ => ?_) (fun H23 s23 => ?_)
      · refine ⟨_, rfl, _, rfl, _, rfl, c, C, p1, o1, ld, _, rfl, hc22, ok, it22, rg1, e22, nd22, kk, kg, fun H23 s23 => ⟨_, rfl, ?_⟩⟩
        cases hl : WO.isLeast C o1 (tab (putE es e2.1 e2.2.1 v)) with
        | false => exact iteF (hQ H23 s23)
        | true =>
          have law1 : WO.lawCost C o1 = some b := by
            rw [← WO.cost_law ok (WO.all_part om1).1]
            exact WO.late_least kk Lst hl
          refine iteT ⟨_, rfl, _, rfl, c, C, p1, o1, rfl, hc22.keep s23, ok, it22.same s23, rg1, ln1, fun H24 s24 => ?_⟩
          rw [law1]
          refine ⟨_, rfl, rfl, _, rfl, ?_⟩
          have hz : (!decide (oV (some b) = V.int b)) = false := by
            rw [show oV (some b) = V.int b from rfl, decide_eq_true rfl]
            rfl
          rw [hz]
          exact hQ H24 (s23.trans s24)
      refine iteF ?_
      refine ⟨_, rfl, _, rfl, fun zA nzA => ?_⟩
      have s24 := s23.new7 nzA (NDo Pg w zA [])
      refine ⟨c, C, oA, os, zA, [], rfl, hc22.keep s24, ok, f22.same s24, rgo, upd_same, ⟨.inl upd_same, fun _ h => nomatch h⟩, List.nodup_nil, (fun _ _ h => nomatch h), fun H25 s25 => ?_⟩
      rw [show WO.isLeast C os (tab []) = false from WO.empty_least C os]
      refine ⟨_, rfl, iteF ?_⟩
      have s2225 := s24.trans s25
      have dr25 := dr22.same s2225
      have tp := s2225 _ _ tp22
      clear s2225 s25 s24 s23 nzA hc22 it22 f22 e22 nd22 dr22 tp22
      generalize hσ : (List.set _ _ _ : L2.St) = σ
      have hσ : σ = [some (.ref a), some (.ref d), some (.ref c), some (.ref r), some (.ref oA), some (.ref wA), some (.ref pA), some (.ref p1), some (.int b), some (.ref hd), some (.ref ld), none, none, none, none] := hσ.symm
      subst hσ
      -- ends
      refine ⟨_, rfl, d, sc, 2, rfl, dr25, by decide, fun H26 r2 b26 dr26 r20 r21 => ⟨_, _, rfl, rfl, _, _, rfl, rfl, .inl ⟨by decide, by decide⟩, _, rfl, by omega, by omega, fun D nD => ?_⟩⟩
      have tp := b26 _ _ tpd tp
      have en : (2 * (1 + r2)).toNat = 2 ∨ (2 * (1 + r2)).toNat = 4 := by omega
      generalize (2 * (1 + r2)).toNat = ne at en
      refine lc_range (fun i H' => ∃ qs as, But H26 H' d ∧ DrawAt K H' d sc ∧ H' D = some (.lst (qs.map V.ref)) ∧ Paired (EndAt H') qs as ∧ as.length = i)
        ⟨[], [], (But.refl H26 d).wr nD _, dr26.wr dr26 (.refl _ _) nD _, upd_same, .nil, rfl⟩ ?_ ?_
      · rintro i H' hi ⟨qs, as, b27, dr27, e27, p27, l27⟩
        refine ⟨rfl, ?_⟩
        refine ⟨_, rfl, d, sc, 9, rfl, dr27, by decide, fun H28 z b28 dr28 _ _ => ⟨(by show 3 ≤ sizeLine; decide), fun t nt => ?_⟩⟩
        have k28 := same_new nt (.tup [V.int z, V.int 0, V.int 0])
        have e28 := k28 _ _ (b28 _ _ (dr26.lst_ne nD) e27)
        have kt := tups_wr (o := .lst (qs.map V.ref ++ [V.ref t])) e28
        have bb := (b27.trans b28).trans (.of k28)
        refine ⟨qs.map V.ref, e28, ?_, qs ++ [t], as ++ [z], bb.wr nD _, dr26.wr (dr28.same k28) bb nD _, ?_, ?_, by simp [l27]⟩
        · rw [List.length_map, paired_len p27, l27]
          exact sizeLine_big (by omega)
        · rw [upd_same, List.map_append]
          rfl
        · exact paired_app (pmap (fun _ _ q => kt _ _ (k28 _ _ (dr27.tups b28 _ _ q))) p27) (.cons (kt _ _ upd_same) .nil)
      rintro H27 ⟨qs, as, b27, dr27, e27, p27, l27⟩
      have tp := b27 _ _ tpd tp
      have l24 : as.length = 2 ∨ as.length = 4 := by omega
      clear b27 dr27 nD dr26 b26 dr25
      -- told = costs_between(ends, (3, 0, 0), lambda ..)
      refine ⟨_, rfl, (by show 3 ≤ sizeLine; decide), fun hA nhA => ⟨.nil (same_new nhA _ _ _ tp), fun lf H28 x28 il => ?_⟩⟩
      have k28 : Same H27 (upd H27 hA (.tup [V.int 3, V.int 0, V.int 0])) := same_new nhA _
      have e28 : H28 D = some (.lst (qs.map V.ref)) := x28 _ _ (k28 _ _ e27) (fun _ z => by cases z)
      have p28 : Paired (EndAt H28) qs as := pmap (fun _ _ q => x28 _ _ (k28 _ _ q) (fun _ z => by cases z)) p27
      have h28 : EndAt H28 hA 3 := x28 _ _ upd_same (fun _ z => by cases z)
      refine ⟨D, qs, as, hA, lf, rfl, e28, p28, by omega, h28, il, fun H29 c2 s29 hc2 => ?_⟩
      have e29 := s29 _ _ e28
      have p29 := pmap (fun _ _ q => EndAt.same q s29) p28
      clear p28 h28 e28 k28 x28 il p27 e27 nhA s29 tp
      have endOf : ∀ {i : Nat} {x : V}, (qs.map V.ref)[i]? = some x → ∃ p e, x = .ref p ∧ as[i]? = some e ∧ EndAt H29 p e := fun {i x} hx => by
        rw [List.getElem?_map] at hx
        obtain ⟨p, hp, rfl⟩ := Option.map_eq_some_iff.mp hx
        obtain ⟨e, he, h⟩ := paired_at p29 hp
        exact ⟨p, e, rfl, he, h⟩
      have lq := paired_len p29
      obtain ⟨fa, ba, la, rs, h1, h2, h3, h4, h5⟩ := id hc2
      have h2 : H29 fa = some (.tup ((as.map fun e => some (((3 - e).natAbs : Nat) : Int)).map oV)) := h2
      -- told[0] != ...
      refine ⟨_, rfl, c2, _, 0, _, rfl, rfl, SqT.of h1, rfl, _, rfl, D, rfl, ⟨_, SqL.of e29⟩, fun D1 nD1 => lcL_map ((as.map fun e => some (((3 - e).natAbs : Nat) : Int)).map oV) nD1 (SqL.of e29) (by simp [lq]) (by rw [List.length_map]; omega) (fun i x y H' R hx hy sm r => ⟨rfl, ?_⟩) (fun H30 s30 hD => ?_)⟩
      · obtain ⟨p, e, rfl, he, hp⟩ := endOf hx
        have ey := oV_map (g := fun e => (3 - e).natAbs) hy he
        subst ey
        refine ⟨_, rfl, p, _, 0, _, rfl, rfl, SqT.of (sm _ _ hp), rfl, _, _, rfl, rfl, _, rfl, ?_⟩
        rw [abs_nat]
        exact r
      refine ⟨D1, _, rfl, .inl ⟨SqL.of hD, fun t1 nt1 => ?_⟩⟩
      have s31 := s30.new7 nt1 (.tup ((as.map fun e => some (((3 - e).natAbs : Nat) : Int)).map oV))
      refine ⟨dTO (as.map fun e => some (((3 - e).natAbs : Nat) : Int)), dTO (as.map fun e => some (((3 - e).natAbs : Nat) : Int)), dp_TO (s31 _ _ h2), dp_TO upd_same, sh_TO _, sh_TO _, _, rfl, ?_⟩
      rw [eqv_TO]
      refine iteF ?_
      generalize (upd H30 t1 (.tup ((as.map fun e => some (((3 - e).natAbs : Nat) : Int)).map oV))) = H31 at s31 ⊢
      -- told[1][0] != ...
      obtain ⟨e0, ar, ea⟩ : ∃ e r, as = e :: r := by
        cases as with
        | nil => simp at l24
        | cons e r => exact ⟨e, r, rfl⟩
      have eb : (btwC as).btw[0]? = some (as.map fun b => some (((e0 - b).natAbs : Nat) : Int)) := by
        show (as.map fun a => as.map fun b => some (((a - b).natAbs : Nat) : Int))[0]? = _
        rw [List.getElem?_map, ea]
        rfl
      obtain ⟨r0, hr0, hrow⟩ : ∃ r0, rs[0]? = some r0 ∧ H29 r0 = some (.tup ((as.map fun b => some (((e0 - b).natAbs : Nat) : Int)).map oV)) := by
        have lr := paired_len h5
        have hl : 0 < rs.length := by
          rw [lr]
          exact (List.getElem?_eq_some_iff.mp eb).1
        obtain ⟨row, hrow, hh⟩ := paired_at h5 (List.getElem?_eq_getElem hl)
        rw [eb] at hrow
        cases hrow
        exact ⟨_, List.getElem?_eq_getElem hl, hh⟩
      obtain ⟨q0, hq0, hE0⟩ : ∃ q0, qs[0]? = some q0 ∧ EndAt H29 q0 e0 := by
        have hl : 0 < qs.length := by omega
        obtain ⟨e, he, hh⟩ := paired_at p29 (List.getElem?_eq_getElem hl)
        rw [ea] at he
        cases he
        exact ⟨_, List.getElem?_eq_getElem hl, hh⟩
      have atq : atI (qs.map V.ref) 0 = some (.ref q0) := atI_nat (j := 0) (get_map hq0)
      have atr : atI (rs.map V.ref) 0 = some (.ref r0) := atI_nat (j := 0) (get_map hr0)
      refine ⟨_, rfl, c2, _, 1, _, rfl, rfl, SqT.of (s31 _ _ h1), rfl, ba, _, 0, _, rfl, rfl, SqT.of (s31 _ _ h4), atr, _, rfl, D, rfl, ⟨_, SqL.of (s31 _ _ e29)⟩, fun D2 nD2 => lcL_map ((as.map fun b => some (((e0 - b).natAbs : Nat) : Int)).map oV) nD2 (SqL.of (s31 _ _ e29)) (by simp [lq]) (by rw [List.length_map]; omega) (fun i x y H' R hx hy sm r => ⟨rfl, ?_⟩) (fun H32 s32 hD => ?_)⟩
      · obtain ⟨p, e, rfl, he, hp⟩ := endOf hx
        have ey := oV_map (g := fun b => (e0 - b).natAbs) hy he
        subst ey
        have sm := s31.trans sm
        refine ⟨_, rfl, D, _, 0, _, rfl, rfl, SqL.of (sm _ _ e29), atq, q0, _, 0, _, rfl, rfl, SqT.of (sm _ _ hE0), rfl, _, rfl, p, _, 0, _, rfl, rfl, SqT.of (sm _ _ hp), rfl, _, _, rfl, rfl, _, rfl, ?_⟩
        rw [abs_nat]
        exact r
      refine ⟨D2, _, rfl, .inl ⟨SqL.of hD, fun t2 nt2 => ?_⟩⟩
      have s33 := (s31.trans s32).new7 nt2 (.tup ((as.map fun b => some (((e0 - b).natAbs : Nat) : Int)).map oV))
      refine ⟨dTO (as.map fun b => some (((e0 - b).natAbs : Nat) : Int)), dTO (as.map fun b => some (((e0 - b).natAbs : Nat) : Int)), dp_TO (s33 _ _ hrow), dp_TO upd_same, sh_TO _, sh_TO _, _, rfl, ?_⟩
      rw [eqv_TO]
      refine iteF ?_
      -- return are_costs(told)
      exact ⟨_, rfl, c2, btwC as, rfl, hc2.keep s33, btw_ok l24, fun H' _ => q H'⟩
end
end W7
end
section
set_option Elab.async false
set_option linter.all false
set_option maxRecDepth 100000
/-! the program's top -/
namespace W7
open PySem PySem.Spec PyProof.Rows L2
structure DefIn (K : PySem.W.Frag) (x : Str) (st : Stmt) : Prop where
  ex : ∃ (f : Addr) (fd : FuncData), PySem.W.nsIn K mainGlobals x = some (some (.ref f)) ∧ Fun K x x st f fd
theorem def_mk {K : PySem.W.Frag} {x : Str} {st : Stmt} {f : Addr} {oc : Value} {od an : Option Addr} {osl : Array (Option Value)} {kV doc pm cdv ct : Value} (a : PySem.W.nsIn K mainGlobals x = some (some (.ref f)))
    (l : K.lookup f = some ⟨oc, od, .func (PySem.W.fnOf x x (defArgs st) (defBody st) (defScope st) .none kV doc pm an cdv ct), osl⟩) (c : PySem.W.codeIn K cdv x = true) (k : PySem.W.keepIn K (.ref f) = true) : DefIn K x st := ⟨⟨f, _, a, fun_mk (st := st) l c k⟩⟩
theorem lorders_at {P : Program} {w : World} {K : PySem.W.Frag} {mg : Str → Option Value} {base : Heap} {f : Addr} {fd : FuncData} (F : Fun K "_law_orders" "_law_orders" sLOrders f fd) (T : Txt mg) (gG : mg "_law_orders" = some (.ref f)) (bG : Binds K fd ["_law_left"] []) :
    ∀ {n : Nat}, n ≤ 3 → FnOk P w K mg base CX0 (n + 1) f fd ["_law_left"] (spLOrders n)
  | 0, h => ok_lordersN (sp := fun _ _ _ _ => False) F T h (fun m e => by cases e) ⟨fun _ _ _ _ h => h.elim, fun _ _ _ _ _ _ _ _ _ _ _ _ _ h => h.elim⟩ gG F.kp bG
  | n + 1, h => ok_lordersN (sp := spLOrders n) F T h (fun m e => by cases e; rfl) (lorders_at F T gG bG (by omega)) gG F.kp bG
theorem lorders_all {P : Program} {w : World} {K : PySem.W.Frag} {mg : Str → Option Value} {base : Heap} {f : Addr} {fd : FuncData} (F : Fun K "_law_orders" "_law_orders" sLOrders f fd) (T : Txt mg) (gG : mg "_law_orders" = some (.ref f)) (bG : Binds K fd ["_law_left"] []) : FnOk P w K mg base CX0 4 f fd ["_law_left"] spLOrdersA :=
  ⟨fun vs H Q E h => by
    obtain ⟨n, hn, h⟩ := h
    exact (lorders_at (P := P) (w := w) (base := base) F T gG bG hn).len vs H Q E h, fun A outer s H args us vs Q E hr e0 hb r h => by
    obtain ⟨n, hn, h⟩ := h
    exact ((lorders_at (P := P) (w := w) (base := base) F T gG bG hn).mono (by omega)).run A outer s H args us vs Q E hr e0 hb r h⟩
theorem FnOk.ready {P : Program} {w : World} {K : PySem.W.Frag} {mg : Str → Option Value} {base : Heap} {j k : Nat} {f : Addr} {fd : FuncData} {x : Str} {st : Stmt} {ps : List Str} {sp : Sp} (o : FnOk P w K mg base CX0 j f fd ps sp) (h : j ≤ k) (g : mg x = some (.ref f)) (F : Fun K x x st f fd) (b : Binds K fd ps []) : Ready P w K mg base k f fd x ps sp := ⟨o.mono h, g, F.kp, b⟩
theorem all_mk {l : PySem.W.OpenLaw} {w : World} {K : PySem.W.Frag} {h : Heap} {mg : Str → Option Value} {fa f cd TP : Addr} (X : K.In h) (G : h.Ns mainGlobals mg) (hfa : mg "law" = some (.ref fa))
    {oc kV doc pm ct : Value} {an od : Option Addr} {osl : Array (Option Value)} {tk : Tok}
    (d0 : DefIn K "is_cost" sIsCost)
    (d1 : DefIn K "are_costs" sAre)
    (d2 : DefIn K "steps_from" sSteps)
    (d3 : DefIn K "other_end" sOther)
    (d4 : DefIn K "heights_of" sHeights)
    (d5 : DefIn K "home_cost" sHome)
    (d6 : DefIn K "least_order" sLeast)
    (d7 : DefIn K "ahead_of" sAhead)
    (d8 : DefIn K "cost_of" sCostOf)
    (d9 : DefIn K "is_least_order" sIsLeast)
    (d10 : DefIn K "costs_between" sBetween)
    (d11 : DefIn K "_law_cell_at" sCell)
    (d12 : DefIn K "_law_draw" sDraw)
    (d13 : DefIn K "_law_number" sNumber)
    (d14 : DefIn K "_law_next" sNext)
    (d15 : DefIn K "_law_pick" sPick)
    (d16 : DefIn K "_law_costs" sLCosts)
    (d17 : DefIn K "_law_orders" sLOrders)
    (d18 : DefIn K "_law_cost" sLCost)
    (a : PySem.W.nsIn K mainGlobals "law" = some (some (.ref f))) (lk : K.lookup f = some ⟨oc, od, .func (PySem.W.fnOf "law" "law" (defArgs sLaw) (defBody sLaw) (defScope sLaw) .none kV doc pm an (.ref cd) ct), osl⟩) (hcd : PySem.W.codeIn K (.ref cd) "law" = true)
    (hM : PySem.W.nsIn K mainGlobals "MOST_STROKES" = some (some (.int 6 tk)))
    (z0 : PySem.W.nsIn K mainGlobals "isinstance" = some none)
    (z1 : PySem.W.nsIn K mainGlobals "int" = some none)
    (z2 : PySem.W.nsIn K mainGlobals "bool" = some none)
    (z3 : PySem.W.nsIn K mainGlobals "tuple" = some none)
    (z4 : PySem.W.nsIn K mainGlobals "len" = some none)
    (z5 : PySem.W.nsIn K mainGlobals "all" = some none)
    (z6 : PySem.W.nsIn K mainGlobals "range" = some none)
    (z7 : PySem.W.nsIn K mainGlobals "sorted" = some none)
    (z8 : PySem.W.nsIn K mainGlobals "zip" = some none)
    (z9 : PySem.W.nsIn K mainGlobals "any" = some none)
    (z10 : PySem.W.nsIn K mainGlobals "sum" = some none)
    (z11 : PySem.W.nsIn K mainGlobals "list" = some none)
    (z12 : PySem.W.nsIn K mainGlobals "min" = some none)
    (z13 : PySem.W.nsIn K mainGlobals "dict" = some none)
    (z14 : PySem.W.nsIn K mainGlobals "abs" = some none)
    (tT : h.get? TP = some { cls := .none, data := .fields #[] }) (tN : K.lookup TP = none) (tC : PySem.W.codeHdIn K cd TP = true) :
    LamX.LawAtS l w K CX0 7 63 "_law_script" mg fa h := by
  have e := hfa.symm.trans (PySem.W.mg_of X G a)
  cases e
  obtain ⟨f0, e0, a0, F0⟩ := d0.ex
  have b0 := F0.binds (ps := ["thing"]) fun _ _ _ _ _ _ us hl => match us, hl with | [_], _ => rfl
  have g0 := PySem.W.mg_of X G a0
  obtain ⟨f1, e1, a1, F1⟩ := d1.ex
  have b1 := F1.binds (ps := ["thing"]) fun _ _ _ _ _ _ us hl => match us, hl with | [_], _ => rfl
  have g1 := PySem.W.mg_of X G a1
  obtain ⟨f2, e2, a2, F2⟩ := d2.ex
  have b2 := F2.binds (ps := ["costs", "state"]) fun _ _ _ _ _ _ us hl => match us, hl with | [_, _], _ => rfl
  have g2 := PySem.W.mg_of X G a2
  obtain ⟨f3, e3, a3, F3⟩ := d3.ex
  have b3 := F3.binds (ps := ["end"]) fun _ _ _ _ _ _ us hl => match us, hl with | [_], _ => rfl
  have g3 := PySem.W.mg_of X G a3
  obtain ⟨f4, e4, a4, F4⟩ := d4.ex
  have b4 := F4.binds (ps := ["costs"]) fun _ _ _ _ _ _ us hl => match us, hl with | [_], _ => rfl
  have g4 := PySem.W.mg_of X G a4
  obtain ⟨f5, e5, a5, F5⟩ := d5.ex
  have b5 := F5.binds (ps := ["costs", "state"]) fun _ _ _ _ _ _ us hl => match us, hl with | [_, _], _ => rfl
  have g5 := PySem.W.mg_of X G a5
  obtain ⟨f6, e6, a6, F6⟩ := d6.ex
  have b6 := F6.binds (ps := ["costs"]) fun _ _ _ _ _ _ us hl => match us, hl with | [_], _ => rfl
  have g6 := PySem.W.mg_of X G a6
  obtain ⟨f7, e7, a7, F7⟩ := d7.ex
  have b7 := F7.binds (ps := ["costs", "heights", "state"]) fun _ _ _ _ _ _ us hl => match us, hl with | [_, _, _], _ => rfl
  have g7 := PySem.W.mg_of X G a7
  obtain ⟨f8, e8, a8, F8⟩ := d8.ex
  have b8 := F8.binds (ps := ["costs", "order"]) fun _ _ _ _ _ _ us hl => match us, hl with | [_, _], _ => rfl
  have g8 := PySem.W.mg_of X G a8
  obtain ⟨f9, e9, a9, F9⟩ := d9.ex
  have b9 := F9.binds (ps := ["costs", "order", "heights"]) fun _ _ _ _ _ _ us hl => match us, hl with | [_, _, _], _ => rfl
  have g9 := PySem.W.mg_of X G a9
  obtain ⟨f10, e10, a10, F10⟩ := d10.ex
  have b10 := F10.binds (ps := ["ends", "home", "distance"]) fun _ _ _ _ _ _ us hl => match us, hl with | [_, _, _], _ => rfl
  have g10 := PySem.W.mg_of X G a10
  obtain ⟨f11, e11, a11, F11⟩ := d11.ex
  have b11 := F11.binds (ps := ["_law_script", "_law_k"]) fun _ _ _ _ _ _ us hl => match us, hl with | [_, _], _ => rfl
  have g11 := PySem.W.mg_of X G a11
  obtain ⟨f12, e12, a12, F12⟩ := d12.ex
  have b12 := F12.binds (ps := ["_law_cell", "_law_k", "_law_bound"]) fun _ _ _ _ _ _ us hl => match us, hl with | [_, _, _], _ => rfl
  have g12 := PySem.W.mg_of X G a12
  obtain ⟨f13, e13, a13, F13⟩ := d13.ex
  have b13 := F13.binds (ps := ["_law_cell", "_law_k", "_law_bound"]) fun _ _ _ _ _ _ us hl => match us, hl with | [_, _, _], _ => rfl
  have g13 := PySem.W.mg_of X G a13
  obtain ⟨f14, e14, a14, F14⟩ := d14.ex
  have b14 := F14.binds (ps := ["_law_draw_here", "_law_bound"]) fun _ _ _ _ _ _ us hl => match us, hl with | [_, _], _ => rfl
  have g14 := PySem.W.mg_of X G a14
  obtain ⟨f15, e15, a15, F15⟩ := d15.ex
  have b15 := F15.binds (ps := ["_law_draw_here", "_law_things"]) fun _ _ _ _ _ _ us hl => match us, hl with | [_, _], _ => rfl
  have g15 := PySem.W.mg_of X G a15
  obtain ⟨f16, e16, a16, F16⟩ := d16.ex
  have b16 := F16.binds (ps := ["_law_draw_here"]) fun _ _ _ _ _ _ us hl => match us, hl with | [_], _ => rfl
  have g16 := PySem.W.mg_of X G a16
  obtain ⟨f17, e17, a17, F17⟩ := d17.ex
  have b17 := F17.binds (ps := ["_law_left"]) fun _ _ _ _ _ _ us hl => match us, hl with | [_], _ => rfl
  have g17 := PySem.W.mg_of X G a17
  obtain ⟨f18, e18, a18, F18⟩ := d18.ex
  have b18 := F18.binds (ps := ["_law_costs_here", "_law_order"]) fun _ _ _ _ _ _ us hl => match us, hl with | [_, _], _ => rfl
  have g18 := PySem.W.mg_of X G a18
  have T : Txt mg := ⟨PySem.W.mg_none_of X G z0, PySem.W.mg_none_of X G z1, PySem.W.mg_none_of X G z2, PySem.W.mg_none_of X G z3, PySem.W.mg_none_of X G z4, PySem.W.mg_none_of X G z5, PySem.W.mg_none_of X G z6, PySem.W.mg_none_of X G z7, PySem.W.mg_none_of X G z8, PySem.W.mg_none_of X G z9, PySem.W.mg_none_of X G z10, PySem.W.mg_none_of X G z11, PySem.W.mg_none_of X G z12, PySem.W.mg_none_of X G z13, PySem.W.mg_none_of X G z14⟩
  have gM := PySem.W.mg_of X G hM
  refine ⟨PySem.W.fnOf "law" "law" (defArgs sLaw) (defBody sLaw) (defScope sLaw) .none kV doc pm an (.ref cd) ct, [(cd, TP)], spLaw K TP, fun p hp => ?_, fun p hp => ?_, fun p hp => ?_, fun s v => .of_eq rfl, fun H a ns hl _ hT hS => ?_, fun base _ _ hB => ?_⟩
  · rw [List.mem_singleton.mp hp]
    exact tT
  · rw [List.mem_singleton.mp hp]
    exact tN
  · rw [List.mem_singleton.mp hp]
    exact PySem.W.codeHd_of_K X tC
  · exact ⟨a, ns, rfl, hS, hl, hT (cd, TP) (List.mem_singleton.mpr rfl), fun _ => rfl⟩
  · have TB := hB (cd, TP) (List.mem_singleton.mpr rfl)
    have oOther := ok_other (P := l.prog) (w := w) (mg := mg) (base := base) (k := 0) F3
    have oIs := ok_iscost (P := l.prog) (w := w) (mg := mg) (base := base) (k := 0) F0 T
    have oHome := ok_home (P := l.prog) (w := w) (mg := mg) (base := base) (k := 0) F5 T
    have oAre := ok_are F1 T gM oIs g0 F0.kp b0
    have oSteps := ok_steps F2 T oOther g3 F3.kp b3
    have oHeights := ok_heights F4 T oSteps g2 F2.kp b2
    have oAhead := ok_ahead F7 T oSteps g2 F2.kp b2
    have oLeast := ok_least F6 T oHeights g4 F4.kp b4 (oHome.mono (by decide : 1 ≤ 3)) g5 F5.kp b5 (oOther.mono (by decide : 1 ≤ 3)) g3 F3.kp b3 oAhead g7 F7.kp b7
    have oCost := ok_costof F8 T oSteps g2 F2.kp b2 (oHome.mono (by decide : 1 ≤ 2)) g5 F5.kp b5 (oOther.mono (by decide : 1 ≤ 2)) g3 F3.kp b3
    have oIsL := ok_isleast F9 T oCost g8 F8.kp b8 (oSteps.mono (by decide : 2 ≤ 3)) g2 F2.kp b2 (oHome.mono (by decide : 1 ≤ 3)) g5 F5.kp b5
    have oBtw := ok_between F10 T (lam_ok (P := l.prog) (w := w) (mg := mg) (base := base) (K := K) (k := 0) T)
    have oCell := ok_cell (P := l.prog) (w := w) (mg := mg) (base := base) (k := 0) F11 T
    have oDraw := ok_draw (P := l.prog) (w := w) (mg := mg) (base := base) (k := 0) F12 T
    have oNum := ok_number F13 T oDraw g12 F12.kp b12
    have oNext := ok_next F14 T (oCell.mono (by decide : 1 ≤ 2)) g11 F11.kp b11 oNum g13 F13.kp b13
    have oPick := ok_pick F15 T oNext g14 F14.kp b14
    have oLCosts := ok_lcosts F16 T (oNext.mono (by decide : 3 ≤ 4)) g14 F14.kp b14 oPick g15 F15.kp b15
    have oLOrd := lorders_all (P := l.prog) (w := w) (mg := mg) (base := base) F17 T g17 b17
    have oLCost := ok_lcost (P := l.prog) (w := w) (mg := mg) (base := base) (k := 0) F18 T
    exact ok_law (k := 6) lk hcd TB T (FnOk.ready oLCosts (by decide) g16 F16 b16) (FnOk.ready oLOrd (by decide) g17 F17 b17) (FnOk.ready oLCost (by decide) g18 F18 b18) (FnOk.ready (oLeast.imp (sp' := spLeast1) fun _ _ _ _ h => least1 h) (by decide) g6 F6 b6) (FnOk.ready oAre (by decide) g1 F1 b1) (FnOk.ready oPick (by decide) g15 F15 b15) (FnOk.ready oCost (by decide) g8 F8 b8) (FnOk.ready oHeights (by decide) g4 F4 b4) (FnOk.ready oIsL (by decide) g9 F9 b9) (FnOk.ready oNext (by decide) g14 F14 b14) (FnOk.ready oBtw (by decide) g10 F10 b10)
end W7
end
open PySem PySem.W PyProof.Rows
set_option maxRecDepth 100000 in
set_option maxHeartbeats 0 in
theorem PySem.Challenge.cw_shopwhole_k07_whole_orders_holds : PySem.Challenge.rw_shopwhole_k07_whole_orders.Holds := by
  w_on; o_law; k_head; (case hw => w_witness2)
  k_fill
  refine LamX.walk_ofTs (l := PySem.Challenge.rw_shopwhole_k07_whole_orders) (n := 63) (k := 7) (x := "_law_script") (CX := fun _ => L2.CX0) rfl (by decide) rfl ⟨rfl, by decide, by decide⟩ (fun w h Y => PySem.W.km_in_of Y) ?F (fun _ _ _ _ _ z => z)
  case F =>
    intro w mg fa h Y KX G hmg
    have tT := PySem.W.km_tabs_of Y
    refine' W7.all_mk (TP := 135) KX G hmg ?d0 ?d1 ?d2 ?d3 ?d4 ?d5 ?d6 ?d7 ?d8 ?d9 ?d10 ?d11 ?d12 ?d13 ?d14 ?d15 ?d16 ?d17 ?d18 ?a ?lk ?hcd ?hM ?z0 ?z1 ?z2 ?z3 ?z4 ?z5 ?z6 ?z7 ?z8 ?z9 ?z10 ?z11 ?z12 ?z13 ?z14 ?tT ?tN ?tC
    (case d0 => refine' W7.def_mk ?p0 ?l0 ?c0 ?k0; (case p0 => k_is); (case l0 => k_is); (case c0 => k_is); (case k0 => k_is))
    (case d1 => refine' W7.def_mk ?p1 ?l1 ?c1 ?k1; (case p1 => k_is); (case l1 => k_is); (case c1 => k_is); (case k1 => k_is))
    (case d2 => refine' W7.def_mk ?p2 ?l2 ?c2 ?k2; (case p2 => k_is); (case l2 => k_is); (case c2 => k_is); (case k2 => k_is))
    (case d3 => refine' W7.def_mk ?p3 ?l3 ?c3 ?k3; (case p3 => k_is); (case l3 => k_is); (case c3 => k_is); (case k3 => k_is))
    (case d4 => refine' W7.def_mk ?p4 ?l4 ?c4 ?k4; (case p4 => k_is); (case l4 => k_is); (case c4 => k_is); (case k4 => k_is))
    (case d5 => refine' W7.def_mk ?p5 ?l5 ?c5 ?k5; (case p5 => k_is); (case l5 => k_is); (case c5 => k_is); (case k5 => k_is))
    (case d6 => refine' W7.def_mk ?p6 ?l6 ?c6 ?k6; (case p6 => k_is); (case l6 => k_is); (case c6 => k_is); (case k6 => k_is))
    (case d7 => refine' W7.def_mk ?p7 ?l7 ?c7 ?k7; (case p7 => k_is); (case l7 => k_is); (case c7 => k_is); (case k7 => k_is))
    (case d8 => refine' W7.def_mk ?p8 ?l8 ?c8 ?k8; (case p8 => k_is); (case l8 => k_is); (case c8 => k_is); (case k8 => k_is))
    (case d9 => refine' W7.def_mk ?p9 ?l9 ?c9 ?k9; (case p9 => k_is); (case l9 => k_is); (case c9 => k_is); (case k9 => k_is))
    (case d10 => refine' W7.def_mk ?p10 ?l10 ?c10 ?k10; (case p10 => k_is); (case l10 => k_is); (case c10 => k_is); (case k10 => k_is))
    (case d11 => refine' W7.def_mk ?p11 ?l11 ?c11 ?k11; (case p11 => k_is); (case l11 => k_is); (case c11 => k_is); (case k11 => k_is))
    (case d12 => refine' W7.def_mk ?p12 ?l12 ?c12 ?k12; (case p12 => k_is); (case l12 => k_is); (case c12 => k_is); (case k12 => k_is))
    (case d13 => refine' W7.def_mk ?p13 ?l13 ?c13 ?k13; (case p13 => k_is); (case l13 => k_is); (case c13 => k_is); (case k13 => k_is))
    (case d14 => refine' W7.def_mk ?p14 ?l14 ?c14 ?k14; (case p14 => k_is); (case l14 => k_is); (case c14 => k_is); (case k14 => k_is))
    (case d15 => refine' W7.def_mk ?p15 ?l15 ?c15 ?k15; (case p15 => k_is); (case l15 => k_is); (case c15 => k_is); (case k15 => k_is))
    (case d16 => refine' W7.def_mk ?p16 ?l16 ?c16 ?k16; (case p16 => k_is); (case l16 => k_is); (case c16 => k_is); (case k16 => k_is))
    (case d17 => refine' W7.def_mk ?p17 ?l17 ?c17 ?k17; (case p17 => k_is); (case l17 => k_is); (case c17 => k_is); (case k17 => k_is))
    (case d18 => refine' W7.def_mk ?p18 ?l18 ?c18 ?k18; (case p18 => k_is); (case l18 => k_is); (case c18 => k_is); (case k18 => k_is))
    (case a => k_is); (case lk => k_is); (case hcd => k_is); (case hM => k_is)
    (case z0 => k_is)
    (case z1 => k_is)
    (case z2 => k_is)
    (case z3 => k_is)
    (case z4 => k_is)
    (case z5 => k_is)
    (case z6 => k_is)
    (case z7 => k_is)
    (case z8 => k_is)
    (case z9 => k_is)
    (case z10 => k_is)
    (case z11 => k_is)
    (case z12 => k_is)
    (case z13 => k_is)
    (case z14 => k_is)
    (case tT => exact tT 135 (by simp))
    (case tN => kernel_rfl)
    (case tC => kernel_rfl)
